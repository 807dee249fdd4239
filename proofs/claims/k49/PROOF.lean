import PyProof.Rows.All
import Wide.All
import OpenK.AllK
import Wide.FinOn
import PyProof.EqAt
import PyProof.EqKinds
import PyProof.TupleCall
import HandS.ForMost
import HandS.ForExc
import HandS.Defaults
import HandS.MakeKwOnly
import HandS.WideBits
import HandS.IsInst
import HandS.Flow
import HandS.Style
import HandS.Evl
import HandS.StrMore
import HandS.TupAny
import HandS.SortInts
import HandS.RaiseMore
import HandS.Zip
import HandS.Head0
import HandS.Head1
import HandS.Head2
import HandS.HeadEnd
import HandS.HeadHook1
import HandS.HeadHook2
import HandS.Walk
import PyProof.Rows.StrJoinRep
import PyProof.StrLawsLast
import HandS.Codes
import HandS.ExcIs
import KE.KTryMore
import KE.KFmtOwn
import PyProof.InstSpecial
import HandS.TryOnly
import HandS.FStr
import HandS.Conv
import HandS.SetFor
import HandS.Strs
import HandS.OwnEq
import PySem.Challenge.RW_shortgoings_k49_whole_first_apart
set_option Elab.async false
set_option linter.all false
set_option maxRecDepth 100000
set_option maxHeartbeats 4000000
namespace L3
open PySem PySem.Spec PyProof.Rows L2
/-! ### room, with the guards of repr told -/
structure Rm (k : Nat) (A : Around) : Prop where
  rm : Room k A
  gd : A.guards = some []
theorem Rm.mono {j k : Nat} {A : Around} (r : Rm k A) (h : j ≤ k) : Rm j A := ⟨r.rm.mono h, r.gd⟩
theorem Rm.deeper {k : Nat} {A : Around} (r : Rm (k + 1) A) (env : Env) : Rm k (A.deeper env) := ⟨r.rm.deeper env, r.gd⟩
theorem make_guards {A : Around} {C : Addr} {us : List Value} {kw : List (Str × Value)} : (A.under (.builtin "type.__call__" ⟨.ref C :: us, kw⟩)).guards = A.guards := by
  have e : Code.guards (.builtin "type.__call__" ⟨.ref C :: us, kw⟩) = [] := by
    first | rfl | simp [Code.guards, Code.isGuard, guardIds]
  show pushGuards (Code.guards (.builtin "type.__call__" ⟨.ref C :: us, kw⟩)) A.guards = A.guards
  rw [e]
  cases A.guards <;> rfl
theorem Rm.make {k : Nat} {A : Around} (r : Rm (k + 1) A) (C : Addr) (us : List Value) (kw : List (Str × Value)) : Rm k (A.under (.builtin "type.__call__" ⟨.ref C :: us, kw⟩)) :=
  ⟨r.rm.make C us kw, make_guards.trans r.gd⟩
/-! ### a def's body -/
structure Fb (P : Program) (w : World) (K : PySem.W.Frag) (mg : Str → Option Value) (base : Heap) (k : Nat) (f : Addr) (fd : FuncData) (ps : List Str) (sp : Sp) : Prop where
  len : ∀ vs H Q E, sp vs H Q E → vs.length = ps.length
  run : ∀ (A : Around) (outer : List Env) (s : Shared) (H : Hp) (args : Args) (us : List Value) (vs : List V) (Q : VK) (E : XK), Rm k A → Env0 P w K mg base A outer s H → BindsTo s fd args (ps.zip us) → Vals vs us → sp vs H Q E →
    codeAny (model P w) A (.call (.ref f) args) (CR (L2.CX P w) outer P w H s Q E) s
section
variable {P : Program} {w : World} {K : PySem.W.Frag} {mg : Str → Option Value} {base : Heap} {x qual : Str} {params : Arguments} {body : List Stmt} {scope : Scope} {dvs : List V} {kws : List (Str × V)} {f : Addr} {fd : FuncData} {k : Nat} {ps N : List Str} {sp : Sp}
theorem fb_of (F : FunD K x qual params body scope dvs kws f fd) (S : FnScope N ps scope) (len : ∀ vs H Q E, sp vs H Q E → vs.length = ps.length)
    (hbody : ∀ (cdv : Value) (A : Around) (outer : List Env) (s : Shared) (H : Hp) (vs : List V) (Q : VK) (E : XK), Rm k (A.deeper (envOfC qual scope s.heap.objs.size f cdv)) → sp vs H Q E →
      ∃ t, PSs (cxOf (L2.CX P w) P w K mg base N qual scope f cdv A outer s H E) body t ∧ t { nx := fun _ H' => Q .non H', rt := Q } (start N vs) H) : Fb P w K mg base (k + 1) f fd ps sp := by
  obtain ⟨oc, od, dV, kV, doc, pm, an, cdv, ct, osl, rfl, lk, hcd, _, _⟩ := F.ex
  refine ⟨len, fun A outer s H args us vs Q E hr e0 hb r hsp => ?_⟩
  have hl := len _ _ _ _ hsp
  have KX : K.In s.heap := e0.mod.kin.keeps fun b o e => (e0.bs b o e).1
  have lim : s.heap.NoLimit := e0.mod.nolimit.keeps fun b o e => (e0.bs b o e).1
  have hkind : ∀ y ∈ ps.zip us, scope.names.lookup y.1 = some .local ∨ (scope.names.lookup y.1 = some .cell ∧ ((cellsFrom (s.heap.objs.size + 1) scope.names []).lookup y.1).isSome = true) := fun ⟨n, v⟩ hy => by
    rcases S.par n (List.of_mem_zip hy).1 with q | q
    · exact .inl q
    · exact .inr ⟨q, PySem.W.cellsFrom_some _ _ _ (.inl q)⟩
  refine codeAny_call_function hr.rm.depth (KX _ _ lk) rfl S.co S.gen rfl (PySem.W.codeRec_of KX hcd) (hb _ _ _ _ ?_)
  refine wpAny_newFunctionEnv_cells S.kind hkind fun env he s1 x => ?_
  subst he
  refine ⟨lim.keeps x.toInCall.keep, codeAny_func ?_⟩
  obtain ⟨t, ht, hq⟩ := hbody cdv A outer s H vs Q E (hr.deeper _) hsp
  have I : Inv (cxOf (L2.CX P w) P w K mg base N qual scope f cdv A outer s H E) [] (start N vs) H s1 := inv_start S hr.rm.hd e0 hl r x
  refine wpAny_mono (ht.run [] s1 (start N vs) H _ I hq) (fun fl s' hs => ?_) fun e s' hs => hs
  have fin : ∀ {σ' : L2.St} {H' : Hp} {v : V} {u : Value}, Inv (cxOf (L2.CX P w) P w K mg base N qual scope f cdv A outer s H E) [] σ' H' s' → RelV v u → Q v H' → CE outer P w H s Q u s' :=
    fun {σ' H' v u} J rv q => ⟨v, H', J.os, J.bare, J.base, J.hok, rv, q⟩
  cases fl with
  | ret u =>
    obtain ⟨v, σ', H', J, rv, q⟩ := hs
    exact fin J rv q
  | next =>
    obtain ⟨σ', H', J, q⟩ := hs
    exact fin (v := V.non) (u := Value.none) J rfl q
  | brk =>
    obtain ⟨_, _, _, q⟩ := hs
    exact False.elim q
  | cont =>
    obtain ⟨_, _, _, q⟩ := hs
    exact False.elim q
theorem Fb.mono {j : Nat} (F : Fb P w K mg base j f fd ps sp) (h : j ≤ k) : Fb P w K mg base k f fd ps sp := ⟨F.len, fun A outer s H args us vs Q E hr => F.run A outer s H args us vs Q E (hr.mono h)⟩
theorem Fb.imp {sp' : Sp} (F : Fb P w K mg base k f fd ps sp) (h : ∀ vs H Q E, sp' vs H Q E → sp vs H Q E) : Fb P w K mg base k f fd ps sp' :=
  ⟨fun vs H Q E q => F.len vs H Q E (h _ _ _ _ q), fun A outer s H args us vs Q E hr he hb hv hs => F.run A outer s H args us vs Q E hr he hb hv (h _ _ _ _ hs)⟩
/-! ### a call of one shape: positional values us, keywords ks -/
def Fc (P : Program) (w : World) (K : PySem.W.Frag) (mg : Str → Option Value) (base : Heap) (k : Nat) (f : Addr) (ks : List Str) (sp : Sp) : Prop :=
  ∀ (A : Around) (outer : List Env) (s : Shared) (H : Hp) (us ws : List Value) (vs : List V) (Q : VK) (E : XK), Rm k A → Env0 P w K mg base A outer s H → Vals vs (us ++ ws) → ws.length = ks.length → sp vs H Q E →
    codeAny (model P w) A (.call (.ref f) ⟨us, ks.zip ws⟩) (CR (L2.CX P w) outer P w H s Q E) s
theorem Fc.mono {j : Nat} {ks : List Str} (F : Fc P w K mg base j f ks sp) (h : j ≤ k) : Fc P w K mg base k f ks sp := fun A outer s H us ws vs Q E hr => F A outer s H us ws vs Q E (hr.mono h)
theorem Fc.imp {sp' : Sp} {ks : List Str} (F : Fc P w K mg base k f ks sp) (h : ∀ vs H Q E, sp' vs H Q E → sp vs H Q E) : Fc P w K mg base k f ks sp' :=
  fun A outer s H us ws vs Q E hr he hv hl hs => F A outer s H us ws vs Q E hr he hv hl (h _ _ _ _ hs)
/-- every parameter is given by place -/
theorem Fb.all (F : Fb P w K mg base k f fd ps sp) (hb : Binds K fd ps []) : Fc P w K mg base k f [] sp := fun A outer s H us ws vs Q E hr e0 r hl h => by
  cases ws with
  | cons w ws => cases hl
  | nil =>
    rw [List.append_nil] at r
    have KX : K.In s.heap := e0.mod.kin.keeps fun b o e => (e0.bs b o e).1
    have l2 : us.length = ps.length := by rw [← r.length]; exact F.len _ _ _ _ h
    have b := hb s us KX (by rw [List.append_nil]; exact l2)
    rw [List.append_nil] at b
    exact F.run A outer s H ⟨us, []⟩ us vs Q E hr e0 b r h
/-- some by place, some by name, some left out: g puts the given ones and the defaults into the parameters' order -/
theorem Fb.shape (D : FunD K x qual params body scope dvs kws f fd) (F : Fb P w K mg base k f fd ps sp) (n : Nat) (ks : List Str) (g : {α : Type} → List α → List α → List α) (hd : dvs ≠ [])
    (hrel : ∀ {vs ds : List V} {us its : List Value}, Vals vs us → Vals ds its → Vals (g vs ds) (g us its))
    (h : ∀ (T : Addr) (kV doc pm : Value) (an : Option Addr) (cdv ct : Value) (us ws its : List Value), us.length = n → ws.length = ks.length → its.length = dvs.length →
      ∃ k, bindArgs (PySem.W.fnOf x qual params body scope (.ref T) kV doc pm an cdv ct) ⟨us, ks.zip ws⟩ = seqItems? (.ref T) >>= k ∧ k (some its.toArray) = pure (ps.zip (g (us ++ ws) its))) :
    Fc P w K mg base k f ks (fun vs H Q E => vs.length = n + ks.length ∧ sp (g vs dvs) H Q E) := by
  obtain ⟨oc, od, dV, kV, doc, pm, an, cdv, ct, osl, rfl, lk, hcd, hD, hK⟩ := D.ex
  rcases hD with ⟨e, _⟩ | ⟨_, T, o, its, m, rfl, lT, oT, rT⟩
  · exact absurd e hd
  · intro A outer s H us ws vs Q E hr e0 r hl hsp
    have KX : K.In s.heap := e0.mod.kin.keeps fun b o e => (e0.bs b o e).1
    have l1 : its.length = dvs.length := rT.length.symm
    have l2 : us.length = n := by
      have e := r.length
      rw [hsp.1, List.length_append, hl] at e
      omega
    obtain ⟨k, e1, e2⟩ := h T kV doc pm an cdv ct us ws its l2 hl l1
    refine F.run A outer s H ⟨us, ks.zip ws⟩ (g (us ++ ws) its) (g vs dvs) Q E hr e0 (BindsTo.of_looks fun M => ?_) (hrel r rT) hsp.2
    rw [e1]
    exact looks_items KX lT oT (.of_pure e2)
/-- all parameters given, some by name, no defaults -/
theorem Fb.names (D : FunD K x qual params body scope [] kws f fd) (F : Fb P w K mg base k f fd ps sp) (n : Nat) (ks : List Str) (g : {α : Type} → List α → List α)
    (hrel : ∀ {vs : List V} {us : List Value}, Vals vs us → Vals (g vs) (g us))
    (h : ∀ (kV doc pm : Value) (an : Option Addr) (cdv ct : Value) (us ws : List Value), us.length = n → ws.length = ks.length →
      bindArgs (PySem.W.fnOf x qual params body scope .none kV doc pm an cdv ct) ⟨us, ks.zip ws⟩ = pure (ps.zip (g (us ++ ws)))) :
    Fc P w K mg base k f ks (fun vs H Q E => vs.length = n + ks.length ∧ sp (g vs) H Q E) := by
  obtain ⟨oc, od, dV, kV, doc, pm, an, cdv, ct, osl, rfl, lk, hcd, hD, hK⟩ := D.ex
  rcases hD with ⟨_, rfl⟩ | ⟨e, _⟩
  · intro A outer s H us ws vs Q E hr e0 r hl hsp
    have l2 : us.length = n := by
      have e := r.length
      rw [hsp.1, List.length_append, hl] at e
      omega
    exact F.run A outer s H ⟨us, ks.zip ws⟩ (g (us ++ ws)) (g vs) Q E hr e0 (.of_eq (h kV doc pm an cdv ct us ws l2 hl)) (hrel r) hsp.2
  · exact absurd rfl e
end
/-! ### calls -/
def tFc (sp : Sp) (W : WX) (t : TA) : TE := fun σ H Q => t σ H fun vs H1 => sp vs H1 Q (WE W σ)
def tFk (sp : Sp) (W : WX) (t tk : TA) : TE := fun σ H Q => t σ H fun vs H1 => tk σ H1 fun zs H2 => zs.length = zs.length ∧ sp (vs ++ zs) H2 Q (WE W σ)
section
variable {X : Cx} {k : Nat} {f C : Addr} {ks : List Str} {sp : Sp} {W : WX} {x m : Str} {p pos apos : Pos} {e o : Expr} {es : List Expr} {kws : List Keyword} {ta : TE} {t tk : TA}
theorem run_fc {pins : List (Addr × Obj)} {σ : L2.St} {H : Hp} {s : Shared} {Q : VK} {us ws : List Value} {vs : List V} (F : Fc X.prog X.w X.K X.mg X.base k f ks sp) (hr : Rm k X.A) (hx : Takes X W)
    (I : Inv X pins σ H s) (r : Vals vs (us ++ ws)) (hl : ws.length = ks.length) (h : sp vs H Q (WE W σ)) : wpAny (model X.prog X.w) X.A (call (.ref f) us (ks.zip ws)) (EP X pins σ Q) X.xe s := by
  refine wpAny_call (codeAny_mono (F X.A X.stack s H us ws vs Q (WE W σ) hr I.env0 r hl h) fun r s' hq => ?_)
  cases r with
  | error e => exact passAt hx σ pins H s e s' I hq
  | ok fl =>
    cases fl with
    | ret u => exact I.after hq
    | next => exact False.elim hq
    | brk => exact False.elim hq
    | cont => exact False.elim hq
/-- f(e, ..) -/
theorem c_call (F : Fc X.prog X.w X.K X.mg X.base k f [] sp) (hr : Rm k X.A) (hm : X.mg x = some (.ref f)) (hk : PySem.W.keepIn X.K (.ref f) = true) (hx : Takes X W)
    (ha : PA X (e :: es) t) (hg : Gl X x := by rfl) (hdb : (x == ("__debug__" : Str)) = false := by decide) (he : starEach (e :: es) X.env = (false, eval e X.env) :: starEach es X.env := by rfl) (hpl : (backTo pos (starEach es X.env)).any (·.1) = false := by rfl) :
    PE X (.Call (.Name x p) (e :: es) [] pos) (tFc sp W t) := by
  refine ⟨fun pins s σ H Q I h => ?_⟩
  refine wpAny_Call_Name_kw (ld_glob I hg hm ?_ hdb)
  refine PySem.W.callWith_K (h₀ := X.base) I.ok.mod.kin hk (thn (ha.run pos pins s σ H _ I h) fun us s1 ⟨vs, H1, I1, r, q⟩ => ⟨I1.kIn, ?_⟩) he hpl
  exact run_fc (ws := []) F hr hx I1 (by rw [List.append_nil]; exact r) rfl q
/-- f() -/
theorem c_call0 (F : Fc X.prog X.w X.K X.mg X.base k f [] sp) (hr : Rm k X.A) (hm : X.mg x = some (.ref f)) (hk : PySem.W.keepIn X.K (.ref f) = true) (hx : Takes X W)
    (hg : Gl X x := by rfl) (hdb : (x == ("__debug__" : Str)) = false := by decide) : PE X (.Call (.Name x p) [] [] pos) (tFc sp W tNil) := by
  refine ⟨fun pins s σ H Q I h => ?_⟩
  refine wpAny_Call_Name_kw (ld_glob I hg hm ?_ hdb)
  exact PySem.W.callWith_K0 I.kIn hk (run_fc (us := []) (ws := []) F hr hx I .nil rfl h)
/-- f(e, .., k = v, ..) -/
theorem c_callK (F : Fc X.prog X.w X.K X.mg X.base k f ks sp) (hr : Rm k X.A) (hm : X.mg x = some (.ref f)) (hk : PySem.W.keepIn X.K (.ref f) = true) (hx : Takes X W)
    (ha : PA X (e :: es) t) (hkw : PK X kws tk) (hg : Gl X x := by rfl) (hall : (backToKw pos (keywordEach kws X.env)).all (·.1.isSome) = true := by rfl) (hks : (backToKw pos (keywordEach kws X.env)).filterMap (·.1) = ks := by rfl)
    (hdb : (x == ("__debug__" : Str)) = false := by decide) (he : starEach (e :: es) X.env = (false, eval e X.env) :: starEach es X.env := by rfl)
    (hpl : ((backTo pos (starEach (e :: es) X.env)).any (·.1) || (backToKw pos (keywordEach kws X.env)).any (·.1.isNone)) = false := by rfl) :
    PE X (.Call (.Name x p) (e :: es) kws pos) (fun σ H Q => t σ H fun vs H1 => tk σ H1 fun zs H2 => zs.length = ks.length ∧ sp (vs ++ zs) H2 Q (WE W σ)) := by
  refine ⟨fun pins s σ H Q I h => ?_⟩
  refine wpAny_Call_Name_kw (ld_glob I hg hm ?_ hdb)
  refine PySem.W.callWith_KW (h₀ := X.base) I.ok.mod.kin hk hall (thn (ha.run pos pins s σ H _ I h) fun us s1 ⟨vs, H1, I1, r, q⟩ => ?_) hpl he
  refine thn (hkw.run pos pins s1 σ H1 _ I1 q) fun ws s2 ⟨zs, H2, I2, rz, l2, q2⟩ => ⟨I2.kIn, ?_⟩
  rw [hks]
  exact run_fc F hr hx I2 (r.append rz) (rz.length.symm.trans l2) q2
/-- f(k = v, ..) -/
theorem c_callK0 (F : Fc X.prog X.w X.K X.mg X.base k f ks sp) (hr : Rm k X.A) (hm : X.mg x = some (.ref f)) (hk : PySem.W.keepIn X.K (.ref f) = true) (hx : Takes X W)
    (hkw : PK X kws tk) (hg : Gl X x := by rfl) (hall : (backToKw pos (keywordEach kws X.env)).all (·.1.isSome) = true := by rfl) (hks : (backToKw pos (keywordEach kws X.env)).filterMap (·.1) = ks := by rfl)
    (hdb : (x == ("__debug__" : Str)) = false := by decide)
    (hpl : ((backTo pos (starEach [] X.env)).any (·.1) || (backToKw pos (keywordEach kws X.env)).any (·.1.isNone)) = false := by rfl) :
    PE X (.Call (.Name x p) [] kws pos) (fun σ H Q => tk σ H fun zs H2 => zs.length = ks.length ∧ sp zs H2 Q (WE W σ)) := by
  refine ⟨fun pins s σ H Q I h => ?_⟩
  refine wpAny_Call_Name_kw (ld_glob I hg hm ?_ hdb)
  refine PySem.W.callWith_KW0 (h₀ := X.base) I.ok.mod.kin hk hall ?_ hpl
  refine thn (hkw.run pos pins s σ H _ I h) fun ws s2 ⟨zs, H2, I2, rz, l2, q2⟩ => ⟨I2.kIn, ?_⟩
  rw [hks]
  exact run_fc (us := []) F hr hx I2 rz (rz.length.symm.trans l2) q2
end
/-! ### repr of data -/
@[irreducible] def rRepr (K : PySem.W.Frag) : List V → Hp → VK → Prop := fun xs H Q => ∃ (a : Addr) (d : PyData), xs = [.ref a] ∧ Dp K H (.ref a) d ∧ d.hasDict = false ∧ d.showable = true ∧ d.depth ≤ 60 ∧ d.shown.length ≤ sizeLine ∧ Q (.str d.shown) H
theorem call_repr {X : Cx} {k : Nat} (hr : Rm k X.A) : CallR X (.builtin "repr") (rRepr X.K) := by
  intro pins s σ H xs us Q I r h
  unfold rRepr at h
  obtain ⟨a, d, rfl, hd, hnd, hs, hdp, hsz, q⟩ := h
  cases r with
  | cons r1 r2 =>
    cases r2
    obtain ⟨as, rd⟩ := Dp.reads I d (.ref a) _ hd r1
    obtain rfl : _ = Value.ref a := r1
    refine repr_of_reads' rd hs (PyData.noDict_hsm hnd) hr.gd (by have := hr.rm.un; omega) (fun _ _ e => e) (fun h' u tk hk => ?_) hsz
    exact ⟨.str d.shown, H, I.kept hk, ⟨u, rfl⟩, q⟩
/-! ### the law's end -/
theorem rm_caller : Rm 40 callerA := ⟨⟨rfl, by decide, by decide⟩, rfl⟩
section
variable {P : Program} {w : World} {K : PySem.W.Frag} {mg mb : Str → Option Value} {k : Nat} {fa a : Addr} {fd : FuncData} {x : Str} {sp : Sp} {s₁ : Shared} {vs : List Value} {ns : List Int}
/-- the law's call over one abstract heap, in which at most the script is tracked -/
theorem law_core (H : Hp) (KX : K.In s₁.heap) (hns : s₁.heap.Ns mainGlobals mg) (hb : s₁.heap.Ns builtinsNs mb) (hbb : ∀ x : Str, x ≠ "__name__" → mb x = bootBuiltins x) (hlim : s₁.heap.NoLimit) (hg : s₁.gens = #[])
    (ha : s₁.heap.get? a = some { cls := .type "list", data := .seq vs.toArray }) (hr : Rm k callerA)
    (F : ∀ base : Heap, K.In base → base.Ns mainGlobals mg → Fb P w K mg base k fa fd [x] sp) (hbind : ∀ (s : Shared) (u : Value), BindsTo s fd ⟨[u], []⟩ [(x, u)])
    (hO : Only H) (hsp : sp [.ref a] H (fun v _ => v = .bl true) fun _ _ _ => False) (hok : HOk P w H s₁.heap) (hA : ∀ b, H b ≠ none → b = a) (hK : H a ≠ none → K.lookup a = none) :
    codeAny (model P w) callerA (.call (.ref fa) ⟨[.ref a], []⟩) (fun r s' => r = .ok (.ret (.bool true)) ∧ OldK s₁.heap s'.heap ∧ s'.os = s₁.os ∧ AllBare s'.gens) s₁ := by
  have isA : ∀ {b : Addr} {u : HO}, H b = some u → b = a := fun {b u} q => hA b (fun z => nomatch (q.symm.trans z))
  have free : ∀ {b : Addr} {o : Obj} {es : Array DictEntry} {ep : Nat}, s₁.heap.get? b = some o → o.data = .dict es ep → H b = none := fun {b o es ep} e d => by
    cases q : H b with
    | none => rfl
    | some u =>
      have eb := isA q
      subst eb
      rw [ha] at e
      cases e
      cases (show Data.seq vs.toArray _ = Data.dict es ep from d)
  have nsK : ∀ {b : Addr} {m : Str → Option Value}, s₁.heap.Ns b m → (hidT s₁.heap H).Ns b m := fun {b m} ⟨o, es, ep, e, d, r⟩ => ⟨o, es, ep, hidT_get e (free e d), d, r⟩
  have inK : K.In (hidT s₁.heap H) := fun b o e => hidT_get (KX b o e) (by
    cases q : H b with
    | none => rfl
    | some u =>
      have eb := isA q
      subst eb
      rw [hK (fun z => nomatch (q.symm.trans z))] at e
      cases e)
  have hM : Mod K mg (hidT s₁.heap H) := ⟨inK, nsK hns, ⟨mb, nsK hb, hbb⟩, let ⟨mc, h1, h2⟩ := hlim; ⟨mc, nsK h1, h2⟩⟩
  have e0 : Env0 P w K mg (hidT s₁.heap H) callerA [] s₁ H := ⟨rfl, hM, fun b o e => of_hidT e, Nat.le_of_eq (hidT_size _ _), trivial, (fun b z => nomatch (show b ∈ ([] : List Addr) from z)), hok, .of_eq hg⟩
  refine codeAny_mono ((F _ inK (nsK hns)).run callerA [] s₁ H ⟨[.ref a], []⟩ [.ref a] [.ref a] _ _ hr e0 (hbind s₁ (.ref a)) (.cons rfl .nil) hsp) fun r s' h => ?_
  cases r with
  | error e =>
    obtain ⟨_, _, _, _, _, _, _, _, _, _, _, _, z⟩ := h
    exact z.elim
  | ok fl =>
    cases fl with
    | next => exact h.elim
    | brk => exact h.elim
    | cont => exact h.elim
    | ret u =>
      obtain ⟨v, H', os, bare, un, hok2, rv, rfl⟩ := h
      obtain rfl : u = Value.bool true := rv
      refine ⟨rfl, OldK.of_keep fun b o e => ?_, os, bare⟩
      cases q : H b with
      | none => exact un.keep b o e q (fun z => nomatch (show b ∈ ([] : List Addr) from z)) (fun z => nomatch z)
      | some u =>
        rcases hO b with z | ⟨ob, xs, z⟩
        · exact nomatch (q.symm.trans z)
        · have e1 := (hok b _ z).1
          have e2 := (hok2 b _ (un.frzs b ob _ z)).1
          rw [e] at e1
          cases e1
          exact e2
theorem law_end (KX : K.In s₁.heap) (hns : s₁.heap.Ns mainGlobals mg) (hb : s₁.heap.Ns builtinsNs mb) (hbb : ∀ x : Str, x ≠ "__name__" → mb x = bootBuiltins x) (hlim : s₁.heap.NoLimit) (hg : s₁.gens = #[])
    (ha : s₁.heap.get? a = some { cls := .type "list", data := .seq vs.toArray }) (hi : IntsAre vs ns) (hl : ns.length ≤ sizeLine) (hr : Rm k callerA)
    (F : ∀ base : Heap, K.In base → base.Ns mainGlobals mg → Fb P w K mg base k fa fd [x] sp) (hbind : ∀ (s : Shared) (u : Value), BindsTo s fd ⟨[u], []⟩ [(x, u)])
    (hsp : ∀ H : Hp, SqL K H a (ns.map V.int) → sp [.ref a] H (fun v _ => v = .bl true) fun _ _ _ => False) :
    codeAny (model P w) callerA (.call (.ref fa) ⟨[.ref a], []⟩) (fun r s' => r = .ok (.ret (.bool true)) ∧ OldK s₁.heap s'.heap ∧ s'.os = s₁.os ∧ AllBare s'.gens) s₁ := by
  have rv := vals_ints hi
  cases hk : K.lookup a with
  | some o =>
    have e := KX a o hk
    rw [ha] at e
    cases e
    have sq : SqL K (fun _ => none) a (ns.map V.int) := .inr ⟨_, vs.toArray, _, hk, rfl, rfl, rfl, by rw [List.size_toArray, hi.length]; exact hl, by simpa using rv⟩
    exact law_core (fun _ => none) KX hns hb hbb hlim hg ha hr F hbind (fun _ => .inl rfl) (hsp _ sq) (fun b u z => nomatch (show (none : Option HO) = some u from z)) (fun b z => absurd rfl z) fun z => absurd rfl z
  | none =>
    have h1 : ∀ b, b ≠ a → (upd (fun _ => none) a (.frz { cls := .type "list", data := .seq vs.toArray } (.lst (ns.map V.int)))) b = none := fun b n => upd_ne n
    refine law_core (upd (fun _ => none) a (.frz { cls := .type "list", data := .seq vs.toArray } (.lst (ns.map V.int)))) KX hns hb hbb hlim hg ha hr F hbind (fun b => ?_) (hsp _ (.inl (.inr ⟨_, upd_same⟩))) (fun b u z => ?_) (fun b z => ?_) fun _ => hk
    · by_cases n : b = a
      · subst n
        exact .inr ⟨_, _, upd_same⟩
      · exact .inl (h1 b n)
    · by_cases n : b = a
      · subst n
        rw [upd_same] at z
        cases z
        exact ⟨ha, by rw [List.length_map]; exact hl, vs, _, rv, ha⟩
      · rw [h1 b n] at z
        cases z
    · by_cases n : b = a
      · exact n
      · exact absurd (h1 b n) z
end
theorem walk_end {l : PySem.W.OpenLaw} {n k : Nat} {q : Program} {loose : List Str} {XP : (Str → Option Value) → Heap → Prop} {YP : World → Heap → Prop} {d : DefRec} {x : Str}
    (hn : l.most = some n) (hn2 : n ≤ sizeLine) (hdf : d.params.defaults = []) (hr : Rm k callerA)
    (F : ∀ (w : World) (mg : Str → Option Value) (fa : Addr) (h : Heap), YP w h → h.Ns mainGlobals mg → mg d.name = some (.ref fa) →
      ∃ (K : PySem.W.Frag) (fd : FuncData) (sp : Sp), K.In h ∧ (∀ (s : Shared) (u : Value), BindsTo s fd ⟨[u], []⟩ [(x, u)]) ∧
        (∀ (H : Hp) (a : Addr) (ns : List Int), ns.length ≤ n → SqL K H a (ns.map V.int) → sp [.ref a] H (fun v _ => v = .bl true) fun _ _ _ => False) ∧
        ∀ base : Heap, K.In base → base.Ns mainGlobals mg → Fb l.prog w K mg base k fa fd [x] sp) :
    PySem.W.WalkO q loose XP YP l.row.toRowW d [] (fun f vs => PySem.call f vs) := by
  refine Att.attach_call hn hdf fun w s₀ s₁ mg mb fa o pm cd doc a vs ns G Y ho hd hcd hmg hobj hints hlen hg => ?_
  obtain ⟨K, fd, sp, KX, hb, hsp, hF⟩ := F w mg fa _ Y G.T.g hmg
  exact law_end KX G.T.g G.T.b G.T.builtins G.T.nolimit hg hobj hints (Nat.le_trans hlen hn2) hr hF hb (fun H hS => hsp H a ns hlen hS)
end L3
set_option Elab.async false
set_option linter.all false
set_option maxRecDepth 100000
set_option maxHeartbeats 4000000
namespace L3
open PySem PySem.Spec PyProof.Rows L2
/-! ### the head's facts: any Bools of the written part, and the defs -/
abbrev Fx := PySem.W.Frag → Bool
def obsX (xf : List Fx) (fn : List He.DefD) (K : PySem.W.Frag) : He.AlD := ((xf.all fun p => p K) && fn.all fun d => d.ok K, fn.map fun d => He.fnW K d.at_)
def SaysX (xf : List Fx) (fn : List He.DefD) (K : PySem.W.Frag) : Prop := obsX xf fn K = He.valD fn
def obsXG (n : Nat) (xf : List Fx) (fn : List He.DefD) (g : Addr → Option Obj) : He.AlD := obsX xf fn (He.frG g (sysModules :: He.asD g n))
def hookX (n : Nat) (xf : List Fx) (fn : List He.DefD) : PySem.W.Hook where
  α := He.AlD
  obs := fun s => obsXG n xf fn s.heap.get?
  val := fun _ => He.valD fn
  says := fun _ h => ∃ K : PySem.W.Frag, K.In h ∧ SaysX xf fn K
  of := fun _ _ e => ⟨_, He.frG_in, e⟩
  keeps := fun _ _ _ ⟨K, hK, c⟩ k => ⟨K, PySem.W.Frag.In.keeps hK k, c⟩
theorem obsXG_eq {n : Nat} {xf : List Fx} {fn : List He.DefD} {g : Addr → Option Obj} {s : Shared} (h : ∀ a, g a = s.heap.get? a) : obsXG n xf fn g = (hookX n xf fn).obs s := by
  have e : g = s.heap.get? := funext h
  rw [e] <;> rfl
section
variable {xf : List Fx} {fn : List He.DefD} {K : PySem.W.Frag}
theorem SaysX.fact (c : SaysX xf fn K) (i : Nat) {f : Fx} (h : xf[i]? = some f := by rfl) : f K = true := by
  have c1 := (He.ba (show ((xf.all fun f => f K) && fn.all fun d => d.ok K) = true from congrArg (fun z : He.AlD => z.1) c)).1
  exact List.all_eq_true.mp c1 f (List.mem_of_getElem? h)
theorem SaysX.def_ (c : SaysX xf fn K) (i : Nat) {d : He.DefD} (h : fn[i]? = some d := by rfl) : ∃ fd, FunD K d.name d.qual d.params d.body d.scope (d.dvs K) (d.kws K) (He.fAd K d.at_) fd := by
  have c2 := (He.ba (show ((xf.all fun f => f K) && fn.all fun d => d.ok K) = true from congrArg (fun z : He.AlD => z.1) c)).2
  have e : fn.map (fun d => He.fnW K d.at_) = fn.map He.DefD.val := congrArg (fun z : He.AlD => z.2) c
  have e2 : (fn.map fun d => He.fnW K d.at_)[i]? = (fn.map He.DefD.val)[i]? := by rw [e]
  rw [List.getElem?_map, List.getElem?_map, h] at e2
  exact He.DefD.funD (Option.some.inj e2) (List.all_eq_true.mp c2 d (List.mem_of_getElem? h))
end
/-! ### an own exception class without __init__ -/
structure Exo (K : PySem.W.Frag) (C : Addr) (bmB : List Value) (newId : String) : Prop where
  x : PySem.W.excIn K C bmB newId = true
  kp : PySem.W.keepIn K (.ref C) = true
  sub : PySem.W.subIn K (.ref C) (.type "BaseException") = some true
  ty : PySem.W.typeIn K (.ref C) = some (.type "type")
abbrev bmV : List Value := [.type "ValueError", .type "Exception", .type "BaseException", .type "object"]
abbrev bmL : List Value := [.type "LookupError", .type "Exception", .type "BaseException", .type "object"]
abbrev bmR : List Value := [.type "RuntimeError", .type "Exception", .type "BaseException", .type "object"]
def exoB (bmB : List Value) (newId : String) (x : Str) : Fx := fun K => PySem.W.excIn K (He.ga K x) bmB newId && (PySem.W.keepIn K (.ref (He.ga K x)) && (decide (PySem.W.subIn K (.ref (He.ga K x)) (.type "BaseException") = some true) && decide (PySem.W.typeIn K (.ref (He.ga K x)) = some (.type "type"))))
theorem exo_of {bmB : List Value} {newId : String} {x : Str} {K : PySem.W.Frag} (h : exoB bmB newId x K = true) : Exo K (He.ga K x) bmB newId := by
  obtain ⟨h1, h⟩ := He.ba h
  obtain ⟨h2, h⟩ := He.ba h
  obtain ⟨h3, h4⟩ := He.ba h
  exact ⟨h1, h2, of_decide_eq_true h3, of_decide_eq_true h4⟩
section
variable {K : PySem.W.Frag} {h : Heap} {mg : Str → Option Value}
theorem gint_of (X : K.In h) (G : h.Ns mainGlobals mg) {x : Str} {i : Int} (c : (He.Fa.int x i).ok K = true) : ∃ u, mg x = some u ∧ RelV (.int i) u := by
  obtain ⟨t, e⟩ := He.int_ok X G c
  exact ⟨_, e, ⟨t, rfl⟩⟩
theorem gstr_of (X : K.In h) (G : h.Ns mainGlobals mg) {x z : Str} (c : (He.Fa.str x z).ok K = true) : ∃ u, mg x = some u ∧ RelV (.str z) u := by
  obtain ⟨t, e⟩ := He.str_ok X G c
  exact ⟨_, e, ⟨t, rfl⟩⟩
end
/-- a module's constant -/
theorem pe_k {X : Cx} {x : Str} {v : V} {pos : Pos} (h : ∃ u, X.mg x = some u ∧ RelV v u) (hg : Gl X x := by rfl) (hdb : (x == ("__debug__" : Str)) = false := by decide) : PE X (.Name x pos) (tC v) := by
  obtain ⟨u, e, r⟩ := h
  exact pe_glob hg e r hdb
end L3
set_option Elab.async false
set_option linter.all false
set_option maxRecDepth 100000
set_option maxHeartbeats 4000000
namespace L3
open PySem PySem.Spec PyProof.Rows L2
/-! ### heaps that grow -/
abbrev Ex (H H' : Hp) : Prop := Same H H'
theorem ex_new {H : Hp} {p : Addr} {o : HO} (h : H p = none) : Ex H (upd H p o) := fun a u e => by
  rw [upd_ne (ne_of_none e h)]
  exact e
/-- an object that H does not know may change -/
theorem ex_mut {H H' : Hp} {p : Addr} {o : HO} (e : Ex H H') (h : H p = none) : Ex H (upd H' p o) := fun a u ha => by
  rw [upd_ne (ne_of_none ha h)]
  exact e a u ha
theorem ex_sql {K : PySem.W.Frag} {H H' : Hp} {a : Addr} {xs : List V} (e : Ex H H') (h : SqL K H a xs) : SqL K H' a xs := Same.seq e h
theorem ex_sqt {K : PySem.W.Frag} {H H' : Hp} {a : Addr} {xs : List V} (e : Ex H H') (h : SqT K H a xs) : SqT K H' a xs := by
  rcases h with (h | ⟨o, h⟩) | h
  · exact .inl (.inl (e _ _ h))
  · exact .inl (.inr ⟨o, e _ _ h⟩)
  · exact .inr h
theorem ex_fresh {H H' : Hp} {p : Addr} (e : Ex H H') (h : H' p = none) : H p = none := Same.free e h
theorem sq_lst {K : PySem.W.Frag} {H : Hp} {a : Addr} {xs : List V} (h : H a = some (.lst xs)) : SqL K H a xs := .inl (.inl h)
theorem sq_tup {K : PySem.W.Frag} {H : Hp} {a : Addr} {xs : List V} (h : H a = some (.tup xs)) : SqT K H a xs := .inl (.inl h)
/-! ### whole numbers, moments -/
/-- a value of a known type -/
def isW : V → Bool
  | .int _ => true
  | _ => false
def isM : V → Bool
  | .int i => decide (0 ≤ i)
  | _ => false
def isB (n : Int) : V → Bool
  | .int i => decide (0 ≤ i) && decide (i < n)
  | _ => false
def Cl (K : PySem.W.Frag) (H : Hp) (x : V) : Prop := ∃ t b c, TyX K H x t ∧ PySem.W.kitOne K t (.type "int") = some b ∧ PySem.W.kitOne K t (.type "bool") = some c ∧ isW x = (b && !c)
section
variable {K : PySem.W.Frag} {H : Hp}
theorem cl_int (i : Int) : Cl K H (.int i) := ⟨_, true, false, .base (.int i), kit_ty (by decide +kernel), kit_ty (by decide +kernel), rfl⟩
theorem cl_bl (b : Bool) : Cl K H (.bl b) := ⟨_, true, true, .base (.bl b), kit_ty (by decide +kernel), kit_ty (by decide +kernel), rfl⟩
theorem cl_non : Cl K H .non := ⟨_, false, false, .base .non, kit_ty (by decide +kernel), kit_ty (by decide +kernel), rfl⟩
theorem cl_str (z : Str) : Cl K H (.str z) := ⟨_, false, false, .base (.str z), kit_ty (by decide +kernel), kit_ty (by decide +kernel), rfl⟩
theorem kit_list : PySem.W.kitOne K (.type "list") (.type "int") = some false ∧ PySem.W.kitOne K (.type "list") (.type "bool") = some false := ⟨kit_ty (by decide +kernel), kit_ty (by decide +kernel)⟩
theorem kit_tuple : PySem.W.kitOne K (.type "tuple") (.type "int") = some false ∧ PySem.W.kitOne K (.type "tuple") (.type "bool") = some false := ⟨kit_ty (by decide +kernel), kit_ty (by decide +kernel)⟩
theorem kit_dict : PySem.W.kitOne K (.type "dict") (.type "int") = some false ∧ PySem.W.kitOne K (.type "dict") (.type "bool") = some false := ⟨kit_ty (by decide +kernel), kit_ty (by decide +kernel)⟩
theorem cl_lst {a : Addr} {xs : List V} (e : H a = some (.lst xs)) : Cl K H (.ref a) := ⟨_, false, false, .base (.lst e), kit_list.1, kit_list.2, rfl⟩
theorem cl_tup {a : Addr} {xs : List V} (e : H a = some (.tup xs)) : Cl K H (.ref a) := ⟨_, false, false, .base (.tup e), kit_tuple.1, kit_tuple.2, rfl⟩
theorem cl_dK {a : Addr} {kvs : List (Key × V)} (e : H a = some (.dK kvs)) : Cl K H (.ref a) := ⟨_, false, false, .base (.dK e), kit_dict.1, kit_dict.2, rfl⟩
end
theorem isM_w {x : V} (h : isM x = true) : ∃ i, x = .int i ∧ 0 ≤ i := by
  cases x with
  | int i => exact ⟨i, rfl, of_decide_eq_true h⟩
  | _ => cases h
theorem isW_w {x : V} (h : isW x = true) : ∃ i, x = .int i := by
  cases x with
  | int i => exact ⟨i, rfl⟩
  | _ => cases h
theorem isM_f {x : V} (h : isW x = false) : isM x = false := by
  cases x with
  | int i => cases h
  | _ => rfl
/-- given values and defaults in the parameters' order -/
def pick {α : Type} (ix : List (Sum Nat Nat)) (us its : List α) : List α := ix.filterMap fun j => match j with
  | .inl i => us[i]?
  | .inr i => its[i]?
theorem pick_vals {vs ds : List V} {us its : List Value} (ix : List (Sum Nat Nat)) (r1 : Vals vs us) (r2 : Vals ds its) : Vals (pick ix vs ds) (pick ix us its) := by
  have one : ∀ {vs : List V} {us : List Value} (i : Nat), Vals vs us → (∃ v u, vs[i]? = some v ∧ us[i]? = some u ∧ RelV v u) ∨ (vs[i]? = none ∧ us[i]? = none) := fun {vs us} i r => by
    cases e : vs[i]? with
    | none => exact .inr ⟨rfl, r.none_of e⟩
    | some v =>
      obtain ⟨u, h1, h2⟩ := r.get e
      exact .inl ⟨v, u, rfl, h1, h2⟩
  induction ix with
  | nil => exact .nil
  | cons j ix ih =>
    unfold pick at ih ⊢
    cases j with
    | inl i =>
      rcases one i r1 with ⟨v, u, h1, h2, h3⟩ | ⟨h1, h2⟩
      · simp only [List.filterMap_cons, h1, h2]
        exact .cons h3 ih
      · simp only [List.filterMap_cons, h1, h2]
        exact ih
    | inr i =>
      rcases one i r2 with ⟨v, u, h1, h2, h3⟩ | ⟨h1, h2⟩
      · simp only [List.filterMap_cons, h1, h2]
        exact .cons h3 ih
      · simp only [List.filterMap_cons, h1, h2]
        exact ih
end L3
namespace L3
open PySem PySem.Spec PyProof.Rows L2
/-! ### texts of data -/
theorem log_of {n : Nat} (h : n < 10 ^ 200) : n.log2 < 1920 := PySem.Flt.log2_lt_of (by decide) (Nat.lt_trans h (by decide +kernel))
/-- data that repr shows, without dicts: whole numbers of at most 500 figures, texts of any signs -/
def okI (i : Int) : Bool := decide (i.natAbs < 10 ^ 200)
def okT (x : Str) : Bool := x.cps.toList.all fun c => decide (c < 16 ^ 8)
mutual
def okD : PyData → Bool
  | .none => true
  | .bool _ => true
  | .int i => okI i
  | .str x => okT x
  | .list xs => okL xs
  | .tuple xs => okL xs
  | .dict _ => false
def okL : List PyData → Bool
  | [] => true
  | x :: xs => okD x && okL xs
end
mutual
def szD : PyData → Nat
  | .none => 4
  | .bool _ => 5
  | .int _ => 1921
  | .str x => 10 * x.length + 2
  | .list xs => szL xs + 3
  | .tuple xs => szL xs + 3
  | .dict _ => 0
def szL : List PyData → Nat
  | [] => 0
  | x :: xs => szD x + 2 + szL xs
end
mutual
theorem okD_tells : ∀ d : PyData, okD d = true → d.hasDict = false ∧ d.showable = true ∧ d.shown.length ≤ szD d
  | .none, _ => ⟨rfl, rfl, Nat.le_refl _⟩
  | .bool b, _ => ⟨rfl, rfl, by cases b <;> decide⟩
  | .int i, h => by
    have h1 : i.natAbs < 10 ^ 200 := of_decide_eq_true (show decide (i.natAbs < 10 ^ 200) = true from h)
    exact ⟨rfl, decide_eq_true (log_of h1), int_text_len_1921 (log_of h1)⟩
  | .str x, h => by
    have h1 : ∀ c ∈ x.cps.toList, c < 16 ^ 8 := fun c hc => of_decide_eq_true (List.all_eq_true.mp h c hc)
    exact ⟨rfl, rfl, StrLaws.reprText_len x h1⟩
  | .list xs, h => by
    obtain ⟨h1, h2, h3⟩ := okL_tells xs h
    refine ⟨h1, h2, Nat.le_trans (listText_len_le (PyData.shownAll xs)) ?_⟩
    have e := PyData.shownAll_length xs
    show _ ≤ szL xs + 3
    omega
  | .tuple xs, h => by
    obtain ⟨h1, h2, h3⟩ := okL_tells xs h
    refine ⟨h1, h2, Nat.le_trans (tupleText_len_le (PyData.shownAll xs)) ?_⟩
    have e := PyData.shownAll_length xs
    show _ ≤ szL xs + 3
    omega
  | .dict _, h => by cases h
theorem okL_tells : ∀ xs : List PyData, okL xs = true → PyData.hasDictAll xs = false ∧ PyData.showableAll xs = true ∧ ((PyData.shownAll xs).map (·.length)).sum + 2 * xs.length ≤ szL xs
  | [], _ => ⟨rfl, rfl, Nat.le_refl _⟩
  | x :: xs, h => by
    obtain ⟨g1, g2⟩ := He.ba (show (okD x && okL xs) = true from h)
    obtain ⟨h1, h2, h3⟩ := okD_tells x g1
    obtain ⟨k1, k2, k3⟩ := okL_tells xs g2
    refine ⟨?_, ?_, ?_⟩
    · show (x.hasDict || PyData.hasDictAll xs) = false
      rw [h1, k1]
      rfl
    · show (x.showable && PyData.showableAll xs) = true
      rw [h2, k2]
      rfl
    · show (x.shown.length + ((PyData.shownAll xs).map (·.length)).sum) + 2 * (xs.length + 1) ≤ szD x + 2 + szL xs
      omega
end
/-- repr of a list, a tuple -/
theorem rr_data {K : PySem.W.Frag} {H : Hp} {a : Addr} {d : PyData} {Q : VK} (h : Dp K H (.ref a) d) (ho : okD d = true) (hz : szD d ≤ 16000000) (hd : d.depth ≤ 60) (q : Q (.str d.shown) H) : rRepr K [.ref a] H Q := by
  obtain ⟨h1, h2, h3⟩ := okD_tells d ho
  unfold rRepr
  exact ⟨a, d, rfl, h, h1, h2, hd, Nat.le_trans h3 (Nat.le_trans hz (by rw [sizeLine_eq]; decide)), q⟩
section
variable {K : PySem.W.Frag} {H : Hp} {a : Addr} {ns : List Int} {Q : VK}
theorem dpAll_ints (K : PySem.W.Frag) (H : Hp) : ∀ ns : List Int, DpAll K H (ns.map V.int) (ns.map PyData.int)
  | [] => .nil
  | n :: ns => .cons (.int n) (dpAll_ints K H ns)
theorem ints_ok : ∀ ns : List Int, (∀ n ∈ ns, okI n = true) → okL (ns.map PyData.int) = true
  | [], _ => rfl
  | n :: ns, h => by
    show (okI n && okL (ns.map PyData.int)) = true
    rw [ints_ok ns fun m hm => h m (List.mem_cons_of_mem _ hm), h n List.mem_cons_self]
    rfl
theorem ints_sz : ∀ ns : List Int, szL (ns.map PyData.int) = 1923 * ns.length
  | [] => rfl
  | n :: ns => by
    show 1921 + 2 + szL (ns.map PyData.int) = 1923 * (ns.length + 1)
    rw [ints_sz ns]
    omega
theorem ints_depth : ∀ ns : List Int, PyData.depthAll (ns.map PyData.int) = 0
  | [] => rfl
  | n :: ns => by
    show max 0 (PyData.depthAll (ns.map PyData.int)) = 0
    rw [ints_depth ns]
    rfl
/-- the text of a list of whole numbers -/
def txtI (ns : List Int) : Str := PyData.shown (.list (ns.map PyData.int))
/-- repr(xs), xs a list of whole numbers -/
theorem rr_ints (h : SqL K H a (ns.map V.int)) (hs : ∀ n ∈ ns, okI n = true) (hl : ns.length ≤ 8000) (q : Q (.str (txtI ns)) H) : rRepr K [.ref a] H Q := by
  refine rr_data (.lst h (dpAll_ints K H ns)) (ints_ok ns hs) ?_ ?_ q
  · show szL (ns.map PyData.int) + 3 ≤ 16000000
    rw [ints_sz]
    omega
  · show PyData.depthAll (ns.map PyData.int) + 1 ≤ 60
    rw [ints_depth]
    decide
theorem okI_of {i : Int} (h1 : -(10 ^ 150) < i) (h2 : i < 10 ^ 150) : okI i = true := decide_eq_true (by
  have e : (10 : Nat) ^ 150 < 10 ^ 200 := by decide +kernel
  have e2 : i.natAbs < 10 ^ 150 := by omega
  exact Nat.lt_trans e2 e)
end
end L3
namespace L3
open PySem PySem.Spec PyProof.Rows L2
/-! ### all([f(x) for x in xs]), each answer True -/
section
variable {K : PySem.W.Frag} {a : Addr} {xs : List V} {g : TG} {tt : TT} {te : TE} {vs : List Nat} {σ : L2.St} {H1 : Hp} {D : Addr} {Qd : Hp → Prop}
theorem rep_snoc (n : Nat) : (List.replicate n true).map V.bl ++ [V.bl true] = (List.replicate (n + 1) true).map V.bl := by
  rw [List.replicate_succ', List.map_append]
  rfl
theorem small_len {n : Nat} (h : n ≤ 100000) : n < sizeLine := Nat.lt_of_le_of_lt h (by rw [sizeLine_eq]; decide)
abbrev Turn (g : TG) (tt : TT) (te : TE) (vs : List Nat) (σ : L2.St) (D : Addr) (x : V) (H : Hp) (N : Hp → Prop) : Prop :=
  g x (wipe σ vs) H fun σ2 H2 => wipe σ2 vs = wipe σ vs ∧ tt σ2 H2 fun b H3 => if b = true then te σ2 H3 fun y H4 => ∃ acc, H4 D = some (.lst acc) ∧ acc.length < sizeLine ∧ N (upd H4 D (.lst (acc ++ [y]))) else N H3
theorem lc_true_tup (I : Hp → Prop) (hI : ∀ H l, I H → I (upd H D (.lst l))) (i0 : I H1) (hx : xs.length ≤ 100000) (hl : ∀ H, I H → SqT K H a xs)
    (hs : ∀ (i : Nat) (x : V) (H : Hp) (acc : List V) (N : Hp → Prop), xs[i]? = some x → I H → H D = some (.lst acc) → acc.length < sizeLine → (∀ H4, I H4 → H4 D = some (.lst acc) → N (upd H4 D (.lst (acc ++ [.bl true])))) → Turn g tt te vs σ D x H N)
    (hd : ∀ H, I H → H D = some (.lst ((List.replicate xs.length true).map V.bl)) → Qd H) :
    ∃ W : Nat → Nat → Hp → Prop, (∃ m, W 0 m (upd H1 D (.lst []))) ∧ ∀ i m H, W i m H →
      ((Itt K a).stop i H ∧ Qd H) ∨ ((Itt K a).go i H ∧ ∃ Nx : Hp → Prop, (∀ H', Nx H' → ∃ m', m' < m ∧ W (i + 1) m' H') ∧ ∀ x H', (Itt K a).yld i H x H' → Turn g tt te vs σ D x H' Nx) := by
  refine lc_tup (fun i H => I H ∧ i ≤ xs.length ∧ H D = some (.lst ((List.replicate i true).map V.bl))) ⟨hI _ _ i0, Nat.zero_le _, upd_same⟩ (fun i H _ p => hl H p.1) ?_ (fun H p => hd H p.1 p.2.2)
  rintro i x H hi ⟨p1, p2, p3⟩
  have lt : i < xs.length := (List.getElem?_eq_some_iff.mp hi).1
  refine hs i x H _ _ hi p1 p3 ?_ fun H4 i4 d4 => ⟨hI _ _ i4, lt, by rw [upd_same, rep_snoc]⟩
  rw [List.length_map, List.length_replicate]
  exact small_len (by omega)
theorem lc_true_list (I : Hp → Prop) (hI : ∀ H l, I H → I (upd H D (.lst l))) (i0 : I H1) (hx : xs.length ≤ 100000) (hl : ∀ H, I H → SqL K H a xs)
    (hs : ∀ (i : Nat) (x : V) (H : Hp) (acc : List V) (N : Hp → Prop), xs[i]? = some x → I H → H D = some (.lst acc) → acc.length < sizeLine → (∀ H4, I H4 → H4 D = some (.lst acc) → N (upd H4 D (.lst (acc ++ [.bl true])))) → Turn g tt te vs σ D x H N)
    (hd : ∀ H, I H → H D = some (.lst ((List.replicate xs.length true).map V.bl)) → Qd H) :
    ∃ W : Nat → Nat → Hp → Prop, (∃ m, W 0 m (upd H1 D (.lst []))) ∧ ∀ i m H, W i m H →
      ((Itl K a).stop i H ∧ Qd H) ∨ ((Itl K a).go i H ∧ ∃ Nx : Hp → Prop, (∀ H', Nx H' → ∃ m', m' < m ∧ W (i + 1) m' H') ∧ ∀ x H', (Itl K a).yld i H x H' → Turn g tt te vs σ D x H' Nx) := by
  refine lc_list (fun i H => I H ∧ i ≤ xs.length ∧ H D = some (.lst ((List.replicate i true).map V.bl))) ⟨hI _ _ i0, Nat.zero_le _, upd_same⟩ (fun i H _ p => hl H p.1) ?_ (fun H p => hd H p.1 p.2.2)
  rintro i x H hi ⟨p1, p2, p3⟩
  have lt : i < xs.length := (List.getElem?_eq_some_iff.mp hi).1
  refine hs i x H _ _ hi p1 p3 ?_ fun H4 i4 d4 => ⟨hI _ _ i4, lt, by rw [upd_same, rep_snoc]⟩
  rw [List.length_map, List.length_replicate]
  exact small_len (by omega)
theorem all_rep (n : Nat) : (List.replicate n true).all id = true := by
  rw [List.all_eq_true]
  intro b hb
  exact (List.eq_of_mem_replicate hb)
end
end L3
namespace L3
open PySem PySem.Spec PyProof.Rows L2
/-! ### for k in range(max(1, min(len(script), most))) -/
abbrev turns (most : Int) (n : Nat) : Int := if (if most < (n : Int) then most else (n : Int)) > (1 : Int) then (if most < (n : Int) then most else (n : Int)) else (1 : Int)
theorem turns_lo (most : Int) (n : Nat) (h : 0 < most ∧ most ≤ 63) : -(2 ^ 62) ≤ turns most n := by
  unfold turns
  split <;> split <;> omega
theorem turns_hi (most : Int) (n : Nat) (h : 0 < most ∧ most ≤ 63) : turns most n < 2 ^ 62 := by
  unfold turns
  split <;> split <;> omega
theorem turns_lt {i : Nat} (most : Int) (n : Nat) (h : 0 < most ∧ most ≤ 63) (hi : i < (turns most n).toNat) : i < 1000 := by
  unfold turns at hi
  split at hi <;> split at hi <;> omega
end L3
set_option Elab.async false
set_option linter.all false
set_option maxRecDepth 100000
set_option maxHeartbeats 4000000
namespace L3
open PySem PySem.Spec PyProof.Rows L2 TL
/-! ### a comprehension whose i-th turn tells fm i -/
section
variable {J : It} {n : Nat} {G : Hp → Prop} {Y : Nat → Hp → V → Hp → Prop} {g : TG} {tt : TT} {te : TE} {vs : List Nat} {σ : L2.St} {H1 : Hp} {D : Addr} {Qd : Hp → Prop}
theorem range_fm_succ (fm : Nat → Option V) (i : Nat) : (List.range (i + 1)).filterMap fm = match fm i with
    | some y => (List.range i).filterMap fm ++ [y]
    | none => (List.range i).filterMap fm := by
  rw [List.range_succ, List.filterMap_append]
  cases e : fm i with
  | none => simp [e]
  | some y => simp [e]
theorem fm_len (fm : Nat → Option V) (i : Nat) : ((List.range i).filterMap fm).length ≤ i := by
  have := List.length_filterMap_le fm (List.range i)
  rwa [List.length_range] at this
theorem lc_fm (w : L2.Walk J n G Y) (fm : Nat → Option V) (I : Hp → Prop) (hI : ∀ H l, I H → I (upd H D (.lst l))) (i0 : I H1) (hn : n ≤ 100000) (hG : ∀ H, I H → G H)
    (hs : ∀ (i : Nat) (x : V) (H H' : Hp) (acc : List V) (N : Hp → Prop), i < n → I H → H D = some (.lst acc) → acc.length < sizeLine → Y i H x H' →
      (∀ H4, I H4 → H4 D = some (.lst acc) → match fm i with | some y => N (upd H4 D (.lst (acc ++ [y]))) | none => N H4) → Turn g tt te vs σ D x H' N)
    (hd : ∀ H, I H → H D = some (.lst ((List.range n).filterMap fm)) → Qd H) :
    ∃ W : Nat → Nat → Hp → Prop, (∃ m, W 0 m (upd H1 D (.lst []))) ∧ ∀ i m H, W i m H →
      (J.stop i H ∧ Qd H) ∨ (J.go i H ∧ ∃ Nx : Hp → Prop, (∀ H', Nx H' → ∃ m', m' < m ∧ W (i + 1) m' H') ∧ ∀ x H', J.yld i H x H' → Turn g tt te vs σ D x H' Nx) := by
  refine L2.lc_it w (fun i H => I H ∧ i ≤ n ∧ H D = some (.lst ((List.range i).filterMap fm))) ⟨hI _ _ i0, Nat.zero_le _, upd_same⟩ (fun i H _ p => hG H p.1) ?_ (fun H p => hd H p.1 p.2.2)
  rintro i x H H' hi ⟨p1, p2, p3⟩ y
  refine hs i x H H' _ _ hi p1 p3 (small_len (Nat.le_trans (fm_len fm i) (by omega))) y fun H4 i4 d4 => ?_
  have e := range_fm_succ fm i
  cases q : fm i with
  | none =>
    rw [q] at e
    exact ⟨i4, hi, by rw [e]; exact d4⟩
  | some y =>
    rw [q] at e
    exact ⟨hI _ _ i4, hi, by rw [upd_same, e]⟩
end
theorem range_map_get {α β : Type} (l : List α) (d : α) (f : α → β) : (List.range l.length).filterMap (fun i => some (f (l.getD i d))) = l.map f := by
  apply List.ext_getElem?
  intro i
  rw [List.filterMap_eq_map' (f := fun i => f (l.getD i d))]
  rw [List.getElem?_map, List.getElem?_map]
  by_cases h : i < l.length
  · rw [List.getElem?_range h, List.getElem?_eq_getElem h]
    simp [List.getD_eq_getElem?_getD, h]
  · rw [List.getElem?_eq_none (by simpa using h), List.getElem?_eq_none (by simpa using h)]
    rfl
/-! ### rules: rpartition, text * number -/
section
variable {X : Cx} {o e : Expr} {to te : TE}
theorem mt_rpartition : MtR X "str.rpartition" (fun x xs H Q => ∃ a b, x = .str a ∧ xs = [.str b] ∧ (b.length == 0) = false ∧ a.length ≤ sizeLine ∧
    ∀ p, H p = none → Q (.ref p) (upd H p (.tup [.str (Txt.rpartition a b).1, .str (Txt.rpartition a b).2.1, .str (Txt.rpartition a b).2.2]))) := by
  intro pins s σ H x xs v us Q I rx rs h
  obtain ⟨a, b, rfl, rfl, hb, hz, h⟩ := h
  obtain ⟨t, rfl⟩ := rx
  cases rs with
  | cons r1 rs =>
    cases rs
    obtain ⟨u, rfl⟩ := r1
    refine call_meets F.slot_str_rpartition (typeIs_str _ _ _) F.entry_str_rpartition (F.args_str_rpartition_2 _ _) (meets_str_rpartition a b t u hb hz) ?_
    unfold Txt.rpartition at h
    revert h
    cases Builtin.Str.lastOccurrence a b 0 a.length with
    | none => intro h; exact laid_parts I h
    | some i => intro h; exact laid_parts I h
theorem pe_rpartition {apos pos : Pos} (ho : PE X o to) (he : PE X e te) (hs : starEach [e] X.env = [(false, eval e X.env)] := by rfl) (hbase : attributeBase o "rpartition" X.env (eval o X.env) = eval o X.env := by rfl) (hline : (apos.endLine == pos.line) = true := by rfl) :
    PE X (.Call (.Attribute o "rpartition" apos) [e] [] pos) (tM1 (fun x xs H Q => ∃ a b, x = .str a ∧ xs = [.str b] ∧ (b.length == 0) = false ∧ a.length ≤ sizeLine ∧
      ∀ p, H p = none → Q (.ref p) (upd H p (.tup [.str (Txt.rpartition a b).1, .str (Txt.rpartition a b).2.1, .str (Txt.rpartition a b).2.2]))) to te) :=
  pe_m1 F.slot_str_rpartition F.type_str_rpartition mt_rpartition ho he hs hbase hline
/-- x * n, x a text of one sign -/
theorem op_repS : OpR X (binaryOp .Mult) (fun x y H Q => ∃ (a : Str) (n : Int), x = .str a ∧ y = .int n ∧ a.length ≤ 1000 ∧ 0 ≤ n ∧ n ≤ 10000 ∧ Q (.str (Txt.mul a n)) H) := by
  intro pins s σ H x y v u Q I rx ry h
  obtain ⟨a, n, rfl, rfl, ha, h0, h1, q⟩ := h
  obtain ⟨t, rfl⟩ := rx
  obtain ⟨t', rfl⟩ := ry
  refine SB.mul ⟨?_, fun z _ => ?_, fun z _ => ?_⟩ fun t' k => ⟨.str _, H, I.tok _, ⟨_, rfl⟩, q⟩
  · rw [decide_eq_false (by omega), decide_eq_false (by omega)]
    rfl
  · have hn : 0 < n := by omega
    have h2 : (a.length : Int) * n ≤ 1000 * 10000 := Int.mul_le_mul (by omega) h1 h0 (by decide)
    have h3 : (a.length : Int) ≤ (2 ^ 63 - 1) / n := Int.le_ediv_of_mul_le hn (by omega)
    omega
  · unfold Builtin.Str.tooLong
    rw [decide_eq_false]
    have h2 : a.length * n.toNat ≤ 1000 * 10000 := Nat.mul_le_mul ha (by omega)
    rw [sizeLine_eq]
    omega
end
end L3
set_option Elab.async false
set_option linter.all false
set_option maxRecDepth 100000
set_option maxHeartbeats 4000000
/-! Texts of numbers and moments, as lists of codes; no program here. -/
namespace Mo
open PySem TL
def isFig (c : Nat) : Bool := decide (48 ≤ c) && decide (c ≤ 57)
def figs (l : List Nat) : Bool := !l.isEmpty && l.all isFig
def val (l : List Nat) : Nat := NumText.digitsVal l
def num? (l : List Nat) : Option Nat := if figs l && !(decide (1 < l.length) && l.head? == some 48) then some (val l) else none
theorem isFig_iff {c : Nat} : isFig c = true ↔ 48 ≤ c ∧ c ≤ 57 := by
  unfold isFig
  rw [Bool.and_eq_true, decide_eq_true_eq, decide_eq_true_eq]
theorem all_digits {l : List Nat} (h : l.all isFig = true) : NumText.AllDigits l := fun c hc => isFig_iff.mp (List.all_eq_true.mp h c hc)
theorem all_fig {l : List Nat} (h : NumText.AllDigits l) : l.all isFig = true := List.all_eq_true.mpr fun c hc => isFig_iff.mpr (h c hc)
theorem figs_iff {l : List Nat} : figs l = true ↔ l ≠ [] ∧ NumText.AllDigits l := by
  unfold figs
  rw [Bool.and_eq_true]
  constructor
  · rintro ⟨h1, h2⟩
    exact ⟨(by rintro rfl; cases h1), all_digits h2⟩
  · rintro ⟨h1, h2⟩
    refine ⟨?_, all_fig h2⟩
    cases l with
    | nil => exact absurd rfl h1
    | cons a r => rfl
theorem figs_num (n : Nat) : figs (numL n) = true := figs_iff.mpr ⟨numL_ne n, numL_digits n⟩
theorem numL_head : ∀ n : Nat, 1 ≤ n → (numL n).head? ≠ some 48 := by
  intro n
  induction n using Nat.strongRecOn with
  | ind n ih =>
    intro h
    by_cases hn : n < 10
    · rw [numL_lt hn]
      simp
      omega
    · rw [numL_step (by omega)]
      have z := ih (n / 10) (by omega) (by omega)
      have y := numL_ne (n / 10)
      cases e : numL (n / 10) with
      | nil => exact absurd e y
      | cons a r =>
        rw [e] at z
        simpa using z
theorem numL_one {n : Nat} (h : 1 < (numL n).length) : 10 ≤ n := by
  by_cases hn : n < 10
  · rw [numL_lt hn] at h
    simp at h
  · omega
theorem val_num (n : Nat) : val (numL n) = n := numL_val n
theorem num_num (n : Nat) : num? (numL n) = some n := by
  unfold num?
  rw [figs_num, val_num]
  have e : (decide (1 < (numL n).length) && (numL n).head? == some 48) = false := by
    by_cases h : 1 < (numL n).length
    · have h2 := numL_head n (by have := numL_one h; omega)
      rw [decide_eq_true h]
      simpa using h2
    · rw [decide_eq_false h]
      rfl
  rw [e]
  rfl
theorem val_lt {l : List Nat} (h : NumText.AllDigits l) : NumText.digitsVal l < 10 ^ l.length := by
  have key : ∀ (l : List Nat) (a : Nat), NumText.AllDigits l → l.foldl (fun acc c => acc * 10 + (c - 48)) a < (a + 1) * 10 ^ l.length := by
    intro l
    induction l with
    | nil => intro a _; simp
    | cons c r ih =>
      intro a h
      have hc := h.head
      have z := ih (a * 10 + (c - 48)) h.tail
      rw [List.foldl_cons, List.length_cons, Nat.pow_succ]
      refine Nat.lt_of_lt_of_le z ?_
      have : (a * 10 + (c - 48) + 1) ≤ (a + 1) * 10 := by omega
      calc (a * 10 + (c - 48) + 1) * 10 ^ r.length ≤ (a + 1) * 10 * 10 ^ r.length := Nat.mul_le_mul_right _ this
        _ = (a + 1) * (10 ^ r.length * 10) := by rw [Nat.mul_assoc, Nat.mul_comm 10]
  have z := key l 0 h
  simpa [NumText.digitsVal] using z
/-! ### cut at the last sign -/
def rcut (c : Nat) : List Nat → Option (List Nat × List Nat)
  | [] => none
  | x :: r => match rcut c r with
    | some (h, t) => some (x :: h, t)
    | none => if x = c then some ([], r) else none
theorem rcut_none {c : Nat} : ∀ {l : List Nat}, c ∉ l → rcut c l = none
  | [], _ => rfl
  | x :: r, h => by
    have h1 : c ∉ r := fun z => h (List.mem_cons_of_mem _ z)
    have h2 : x ≠ c := fun z => h (by rw [z]; exact List.mem_cons_self)
    unfold rcut
    rw [rcut_none h1]
    exact if_neg h2
theorem rcut_some {c : Nat} : ∀ (p : List Nat) {q : List Nat}, c ∉ q → rcut c (p ++ c :: q) = some (p, q)
  | [], q, h => by
    show rcut c (c :: q) = some ([], q)
    unfold rcut
    rw [rcut_none h]
    exact if_pos rfl
  | x :: p, q, h => by
    show rcut c (x :: (p ++ c :: q)) = some (x :: p, q)
    unfold rcut
    rw [rcut_some p h]
theorem rcut_is {c : Nat} : ∀ {l p q : List Nat}, rcut c l = some (p, q) → l = p ++ c :: q ∧ c ∉ q
  | [], _, _, h => by cases h
  | x :: r, p, q, h => by
    unfold rcut at h
    cases e : rcut c r with
    | some z =>
      obtain ⟨h1, h2⟩ := z
      rw [e] at h
      cases h
      obtain ⟨e1, e2⟩ := rcut_is e
      exact ⟨by rw [e1]; rfl, e2⟩
    | none =>
      rw [e] at h
      by_cases hx : x = c
      · have h' : some (([] : List Nat), r) = some (p, q) := by rw [← h]; simp [hx]
        cases h'
        refine ⟨by rw [hx]; rfl, fun z => ?_⟩
        obtain ⟨a, b, eab⟩ := List.append_of_mem z
        -- the last c of r
        have key : ∀ l : List Nat, c ∈ l → rcut c l ≠ none := by
          intro l
          induction l with
          | nil => intro z; cases z
          | cons y l ih =>
            intro z w
            unfold rcut at w
            cases e2 : rcut c l with
            | some k => rw [e2] at w; cases w
            | none =>
              rw [e2] at w
              rcases List.mem_cons.mp z with rfl | z
              · simp at w
              · exact ih z e2
        exact key r z e
      · simp [hx] at h
theorem rcut_nin {c : Nat} : ∀ {l : List Nat}, rcut c l = none → c ∉ l := by
  intro l
  induction l with
  | nil => intro _ z; cases z
  | cons y l ih =>
    intro w z
    unfold rcut at w
    cases e2 : rcut c l with
    | some k => rw [e2] at w; cases w
    | none =>
      rw [e2] at w
      rcases List.mem_cons.mp z with rfl | z
      · simp at w
      · exact ih e2 z
theorem rpartition_S (a : List Nat) (c : Nat) : Txt.rpartition (SX.S a) (SX.S [c]) = match rcut c a with
    | some (p, q) => (SX.S p, SX.S [c], SX.S q)
    | none => (SX.S [], SX.S [], SX.S a) := by
  have hy : tl (SX.S [c]) ≠ [] := by simp
  have pr : ∀ i, pre (tl (SX.S [c])) ((tl (SX.S a)).drop i) = true ↔ a[i]? = some c := fun i => by
    show ((a.drop i).take 1 == [c]) = true ↔ _
    rw [beq_iff_eq]
    by_cases hi : i < a.length
    · have e1 : a.drop i = a[i] :: a.drop (i + 1) := List.drop_eq_getElem_cons hi
      rw [e1, List.getElem?_eq_getElem hi, List.take_succ_cons, List.take_zero]
      constructor
      · intro z
        injection z with z1
        rw [z1]
      · intro z
        injection z with z1
        rw [z1]
    · rw [List.drop_eq_nil_of_le (by omega), List.getElem?_eq_none (by omega)]
      simp
  unfold Txt.rpartition
  rcases StrLaws.last_spec (SX.S a) (SX.S [c]) with ⟨e, h⟩ | ⟨i, e, h, k⟩
  · rw [e]
    have hn : c ∉ a := fun z => by
      obtain ⟨i, hi, hc⟩ := List.getElem_of_mem z
      exact h i ((at_iff hy i).mpr ((pr i).mpr (by rw [List.getElem?_eq_getElem hi, hc])))
    rw [rcut_none hn]
    rfl
  · rw [e]
    have hi := (pr i).mp ((at_iff hy i).mp h)
    obtain ⟨lt, hc⟩ := List.getElem?_eq_some_iff.mp hi
    have hq : c ∉ a.drop (i + 1) := fun z => by
      obtain ⟨j, hj, hcj⟩ := List.getElem_of_mem z
      rw [List.length_drop] at hj
      refine k (i + 1 + j) (by omega) ((at_iff hy _).mpr ((pr _).mpr ?_))
      rw [List.getElem_drop] at hcj
      rw [List.getElem?_eq_getElem (by omega), hcj]
    have ea : a = a.take i ++ c :: a.drop (i + 1) := by
      rw [← hc, List.getElem_cons_drop, List.take_append_drop]
    have er : rcut c a = some (a.take i, a.drop (i + 1)) := by
      conv => lhs; rw [ea]
      exact rcut_some _ hq
    rw [er]
    show (Builtin.Str.strSub (SX.S a) 0 i, SX.S [c], Builtin.Str.strSub (SX.S a) (i + (SX.S [c]).length) (SX.S a).length) = (SX.S (a.take i), SX.S [c], SX.S (a.drop (i + 1)))
    have e1 : Builtin.Str.strSub (SX.S a) 0 i = SX.S (a.take i) := ext_tl (by rw [tl_strSub]; simp)
    have e2 : Builtin.Str.strSub (SX.S a) (i + (SX.S [c]).length) (SX.S a).length = SX.S (a.drop (i + 1)) := ext_tl (by rw [tl_strSub_end]; simp [SX.S_len])
    rw [e1, e2]
/-! ### cut at the first sign -/
theorem pre1 (c x : Nat) (r : List Nat) : pre [c] (x :: r) = decide (x = c) := by
  show ([x] == [c]) = decide (x = c)
  by_cases h : x = c
  · rw [h, decide_eq_true rfl]
    simp
  · rw [decide_eq_false h]
    simpa using h
theorem par_is {c : Nat} : ∀ {l acc p q : List Nat}, par [c] acc l = some (p, q) → ∃ p', p = acc ++ p' ∧ l = p' ++ c :: q ∧ c ∉ p'
  | [], _, _, _, h => by cases h
  | x :: r, acc, p, q, h => by
    by_cases hx : x = c
    · have e : pre [c] (x :: r) = true := by rw [pre1, decide_eq_true hx]
      rw [par_hit e] at h
      cases h
      exact ⟨[], by simp, by rw [hx]; rfl, by simp⟩
    · have e : pre [c] (x :: r) = false := by rw [pre1, decide_eq_false hx]
      rw [par_miss e] at h
      obtain ⟨p', e1, e2, e3⟩ := par_is h
      refine ⟨x :: p', by rw [e1]; simp, by rw [e2]; rfl, fun z => ?_⟩
      rcases List.mem_cons.mp z with z | z
      · exact hx z.symm
      · exact e3 z
theorem par_nin {c : Nat} : ∀ {l acc : List Nat}, par [c] acc l = none → c ∉ l
  | [], _, _ => by simp
  | x :: r, acc, h => by
    by_cases hx : x = c
    · have e : pre [c] (x :: r) = true := by rw [pre1, decide_eq_true hx]
      rw [par_hit e] at h
      cases h
    · have e : pre [c] (x :: r) = false := by rw [pre1, decide_eq_false hx]
      rw [par_miss e] at h
      intro z
      rcases List.mem_cons.mp z with z | z
      · exact hx z.symm
      · exact par_nin h z
/-! ### moments -/
def two (m : Nat) : List Nat := [48 + m / 10, 48 + m % 10]
def clk (m : Nat) : List Nat := numL (m % 1440 / 60) ++ 58 :: two (m % 60)
def shw (m : Nat) : List Nat := if m / 1440 = 0 then clk m else numL (m / 1440) ++ 32 :: clk m
def dayOf (l : List Nat) : Option Nat := match num? l with
  | some 0 => none
  | o => o
def clkOf (l : List Nat) : Option Nat := match par [58] [] l with
  | none => none
  | some (h, m) => if decide (m.length = 2) && figs m then (match num? h with
    | some k => if k < 24 ∧ val m < 60 then some (k * 60 + val m) else none
    | none => none) else none
def momOf (l : List Nat) : Option Nat := match rcut 32 l with
  | none => clkOf l
  | some (h, t) => match dayOf h with
    | none => none
    | some d => (clkOf t).map fun m => d * 1440 + m
theorem two_val {m : Nat} (h : m < 60) : figs (two m) = true ∧ val (two m) = m := by
  have all : ∀ m, m < 60 → (figs (two m) && decide (val (two m) = m)) = true := by decide +kernel
  have z := all m h
  rw [Bool.and_eq_true, decide_eq_true_eq] at z
  exact z
theorem clkOf_clk (m : Nat) : clkOf (clk m) = some (m % 1440) := by
  unfold clkOf clk
  have e := SX.par_head (c := 58) (sep := []) (two (m % 60)) (p := numL (m % 1440 / 60)) (numL_free (.inr (by decide)))
  rw [show numL (m % 1440 / 60) ++ 58 :: two (m % 60) = numL (m % 1440 / 60) ++ ([58] ++ two (m % 60)) from rfl]
  rw [show par [58] [] (numL (m % 1440 / 60) ++ ([58] ++ two (m % 60))) = some (numL (m % 1440 / 60), two (m % 60)) from e]
  obtain ⟨h1, h2⟩ := two_val (show m % 60 < 60 by omega)
  show (if decide ((two (m % 60)).length = 2) && figs (two (m % 60)) then _ else none) = _
  rw [h1, num_num, h2]
  have : m % 1440 / 60 < 24 ∧ m % 60 < 60 := by omega
  simp only [this, and_self, if_true, two]
  simp
  omega
theorem clk_free (m : Nat) : 32 ∉ clk m := by
  unfold clk
  intro z
  rcases List.mem_append.mp z with z | z
  · exact numL_free (.inl (by decide)) z
  · simp only [two, List.mem_cons, List.not_mem_nil, or_false] at z
    omega
theorem momOf_shw (m : Nat) : momOf (shw m) = some m := by
  unfold momOf shw
  by_cases h : m / 1440 = 0
  · rw [if_pos h, rcut_none (clk_free m), clkOf_clk]
    simp
    omega
  · rw [if_neg h, rcut_some _ (clk_free m)]
    have e : dayOf (numL (m / 1440)) = some (m / 1440) := by
      unfold dayOf
      rw [num_num]
      cases k : m / 1440 with
      | zero => exact absurd k h
      | succ j => rfl
    simp only [e, clkOf_clk]
    simp
    omega
theorem shw_len {m k : Nat} (hk : 0 < k) (h : m < 10 ^ k) : (shw m).length ≤ k + 8 := by
  have h1 : (numL (m % 1440 / 60)).length ≤ 2 := numL_len (by decide) (by omega)
  have h2 : (numL (m / 1440)).length ≤ k := numL_len hk (Nat.lt_of_le_of_lt (Nat.div_le_self _ _) h)
  unfold shw clk two
  split <;> simp <;> omega
theorem shw_inj {m n : Nat} (h : shw m = shw n) : m = n := by
  have e := momOf_shw m
  rw [h, momOf_shw] at e
  exact (Option.some.inj e).symm
end Mo
namespace Mo
open PySem TL L2
/-! ### slices -/
theorem cut_to (l : List Nat) (k : Nat) : cutS (SX.S l) none (some (k : Int)) = SX.S (l.take k) := by
  unfold cutS
  rw [HT.sIx_nat, HT.sIx_none]
  refine ext_tl ?_
  show (l.drop 0).take (min k (SX.S l).length - 0) = l.take k
  rw [SX.S_len, List.drop_zero, Nat.sub_zero, List.take_eq_take_iff]
  omega
theorem cut_from (l : List Nat) (k : Nat) : cutS (SX.S l) (some (k : Int)) none = SX.S (l.drop k) := by
  unfold cutS
  rw [HT.sIx_nat, HT.sIx_none]
  refine ext_tl ?_
  show (l.drop (min k (SX.S l).length)).take ((SX.S l).length - min k (SX.S l).length) = l.drop k
  rw [SX.S_len]
  by_cases h : k ≤ l.length
  · rw [Nat.min_eq_left h]
    exact List.take_of_length_le (by rw [List.length_drop]; omega)
  · rw [Nat.min_eq_right (by omega), List.drop_eq_nil_of_le (Nat.le_refl _), List.drop_eq_nil_of_le (by omega)]
    simp
theorem cut_mid (l : List Nat) (i j : Nat) : cutS (SX.S l) (some (i : Int)) (some (j : Int)) = SX.S ((l.drop i).take (j - i)) := by
  unfold cutS
  rw [HT.sIx_nat, HT.sIx_nat]
  refine ext_tl ?_
  show (l.drop (min i (SX.S l).length)).take (min j (SX.S l).length - min i (SX.S l).length) = (l.drop i).take (j - i)
  rw [SX.S_len]
  by_cases h : i ≤ l.length
  · rw [Nat.min_eq_left h, List.take_eq_take_iff, List.length_drop]
    omega
  · rw [Nat.min_eq_right (by omega : l.length ≤ i), List.drop_eq_nil_of_le (Nat.le_refl _), List.drop_eq_nil_of_le (by omega : l.length ≤ i)]
    simp
end Mo
namespace Mo
open PySem TL L2
/-! ### split at one sign -/
theorem spl_ne (S : List Nat) : ∀ (k : Nat) (acc l : List Nat), spl S k acc l ≠ []
  | k, acc, [] => by rw [spl_nil]; simp
  | 0, acc, c :: r => by
    unfold spl
    split
    · simp
    · exact spl_ne S 0 _ r
  | k + 1, acc, c :: r => by
    unfold spl
    exact spl_ne S k acc r
theorem first_of {c : Nat} : ∀ {l : List Nat}, c ∈ l → ∃ p q, l = p ++ c :: q ∧ c ∉ p
  | x :: r, h => by
    by_cases hx : x = c
    · exact ⟨[], r, by rw [hx]; rfl, by simp⟩
    · rcases List.mem_cons.mp h with h | h
      · exact absurd h.symm hx
      · obtain ⟨p, q, e, n⟩ := first_of h
        refine ⟨x :: p, q, by rw [e]; rfl, fun z => ?_⟩
        rcases List.mem_cons.mp z with z | z
        · exact hx z.symm
        · exact n z
theorem spl_cut {c : Nat} {p : List Nat} (q : List Nat) (h : c ∉ p) : spl [c] 0 [] (p ++ c :: q) = p :: spl [c] 0 [] q := by
  have e := spl_part1 (s := c) (S := []) (rest := q) (acc := []) h
  simpa using e
theorem spl_one {c : Nat} {p : List Nat} (h : c ∉ p) : spl [c] 0 [] p = [p] := by
  have e := spl_last1 (s := c) (S := []) (acc := []) h
  simpa using e
theorem spl_two {c : Nat} {l : List Nat} (h : c ∈ l) : 2 ≤ (spl [c] 0 [] l).length := by
  obtain ⟨p, q, rfl, n⟩ := first_of h
  rw [spl_cut q n]
  have := spl_ne [c] 0 [] q
  cases e : spl [c] 0 [] q with
  | nil => exact absurd e this
  | cons a r => simp
theorem spl_le (c : Nat) : ∀ (n : Nat) (l : List Nat), l.length ≤ n → (∀ p ∈ spl [c] 0 [] l, p.length ≤ l.length) ∧ (spl [c] 0 [] l).length ≤ l.length + 1
  | n, l, hn => by
    by_cases h : c ∈ l
    · obtain ⟨p, q, rfl, np⟩ := first_of h
      cases n with
      | zero => simp at hn
      | succ m =>
        have ih := spl_le c m q (by simp at hn; omega)
        rw [spl_cut q np]
        refine ⟨fun x hx => ?_, ?_⟩
        · rcases List.mem_cons.mp hx with rfl | hx
          · simp
          · have := ih.1 x hx
            simp
            omega
        · have := ih.2
          simp
          omega
    · rw [spl_one h]
      simp
/-- the words of a text, by its last blank -/
theorem words_of (l : List Nat) : (rcut 32 l = none ∧ spl [32] 0 [] l = [l]) ∨ (∃ h t, rcut 32 l = some (h, t) ∧ spl [32] 0 [] l = [h, t]) ∨ (momOf l = none ∧ 2 < (spl [32] 0 [] l).length) := by
  cases e : rcut 32 l with
  | none => exact .inl ⟨rfl, spl_one (rcut_nin e)⟩
  | some z =>
    obtain ⟨h, t⟩ := z
    obtain ⟨el, nt⟩ := rcut_is e
    by_cases hb : 32 ∈ h
    · refine .inr (.inr ⟨?_, ?_⟩)
      · unfold momOf
        rw [e]
        have : dayOf h = none := by
          have hf : figs h = false := by
            cases f : figs h with
            | false => rfl
            | true =>
              have := (figs_iff.mp f).2 32 hb
              omega
          unfold dayOf num?
          rw [hf]
          rfl
        simp only [this]
      · obtain ⟨p, q, eh, np⟩ := first_of hb
        rw [el, eh, List.append_assoc]
        show 2 < (spl [32] 0 [] (p ++ 32 :: (q ++ 32 :: t))).length
        rw [spl_cut _ np]
        have := spl_two (c := 32) (l := q ++ 32 :: t) (by simp)
        simp
        omega
    · refine .inr (.inl ⟨h, t, rfl, ?_⟩)
      rw [el, spl_cut t hb, spl_one nt]
theorem parts_of (u : List Nat) : (∃ h m, spl [58] 0 [] u = [h, m] ∧ h.length + m.length < u.length ∧ clkOf u = if decide (m.length = 2) && figs m then (match num? h with
      | some k => if k < 24 ∧ val m < 60 then some (k * 60 + val m) else none
      | none => none) else none) ∨ (clkOf u = none ∧ (spl [58] 0 [] u).length ≠ 2) := by
  cases e : par [58] [] u with
  | none =>
    refine .inr ⟨by unfold clkOf; rw [e], ?_⟩
    rw [spl_one (par_nin e)]
    simp
  | some z =>
    obtain ⟨h, m⟩ := z
    obtain ⟨h', eh, eu, nh⟩ := par_is e
    have eh2 : h = h' := by rw [eh]; rfl
    subst eh2
    by_cases hm : 58 ∈ m
    · refine .inr ⟨?_, ?_⟩
      · unfold clkOf
        rw [e]
        have hf : figs m = false := by
          cases f : figs m with
          | false => rfl
          | true =>
            have := (figs_iff.mp f).2 58 hm
            omega
        simp only [hf, Bool.and_false]
        rfl
      · rw [eu, spl_cut m nh]
        have := spl_two hm
        simp
        omega
    · refine .inl ⟨h, m, ?_, by rw [eu]; simp, ?_⟩
      · rw [eu, spl_cut m nh, spl_one hm]
      · unfold clkOf
        rw [e]
end Mo
namespace Mo
open PySem TL L2
theorem val_zero {h : List Nat} {n : Nat} (hn : num? h = some n) (h0 : n = 0) : h = [48] := by
  unfold num? at hn
  split at hn
  · rename_i c
    obtain ⟨c1, c2⟩ := Bool.and_eq_true_iff.mp c
    obtain ⟨h1, h2⟩ := figs_iff.mp c1
    have ev : val h = 0 := by
      have := Option.some.inj hn
      omega
    cases h with
    | nil => exact absurd rfl h1
    | cons a r =>
      have ha := h2 a List.mem_cons_self
      cases r with
      | nil =>
        have : val [a] = a - 48 := by simp [val, NumText.digitsVal]
        have : a = 48 := by omega
        rw [this]
      | cons b t =>
        exfalso
        have c3 : ((b :: t).length + 1 > 1) := by simp
        have hz : a ≠ 48 := fun z => by
          rw [z] at c2
          simp at c2
        have key : ∀ (l : List Nat) (acc : Nat), 1 ≤ acc → 1 ≤ l.foldl (fun acc c => acc * 10 + (c - 48)) acc := by
          intro l
          induction l with
          | nil => intro acc h; exact h
          | cons c r ih => intro acc h; exact ih _ (by show 1 ≤ acc * 10 + (c - 48); omega)
        have z := key (b :: t) (0 * 10 + (a - 48)) (by omega)
        have e : val (a :: b :: t) = (b :: t).foldl (fun acc c => acc * 10 + (c - 48)) (0 * 10 + (a - 48)) := rfl
        omega
  · cases hn
end Mo
set_option Elab.async false
set_option linter.all false
set_option maxRecDepth 100000
set_option maxHeartbeats 4000000
namespace L3
open PySem PySem.Spec PyProof.Rows L2
/-! ### try .. except (X1, X2, X3) as n -/
theorem flying_keeps {B h h' : Heap} {l : List Env} {a : Addr} {Z : Obj → Prop} (f : HandSPX.FlyingZ B l a Z h) (k : ∀ b o, h.get? b = some o → h'.get? b = some o) : HandSPX.FlyingZ B l a Z h' := by
  obtain ⟨f1, f2, f3, oe, vs, T, oT, ts, g1, g2, g3, g4, g5, g6, g7, g8⟩ := f
  exact ⟨fun b o e => k _ _ (f1 b o e), f2, Heap.FunFrames.of_keeps (fun b o e _ => ⟨o, k _ _ e, rfl⟩) f3, oe, vs, T, oT, ts, k _ _ g1, g2, g3, g4, g5, g6, k _ _ g7, g8⟩
/-- what such a clause wishes of an exception of the body: it is caught; slot i is n's -/
def wTup (K : PySem.W.Frag) (cs : List Value) (i : Nat) (ts : Addr → Value → Option Addr → TS) (D : Ends) : WX := fun cls d σ H =>
  PySem.W.exmAny K cls cs = some true ∧ ∀ a, H a = none → ts a cls d { nx := fun σ' H' => D.nx (σ'.set i none) H', rt := D.rt, bk := fun σ' H' => D.bk (σ'.set i none) H', ct := fun σ' H' => D.ct (σ'.set i none) H' } (σ.set i (some (.ref a))) H
section
variable {X : Cx} {x1 x2 x3 n : Str} {c1 c2 c3 : Value} {i k3 : Nat} {body suite : List Stmt} {b₀ : Stmt} {p1 p2 p3 tp pos pos' : Pos} {tb : WX → TS} {ts : Addr → Value → Option Addr → TS}
theorem ps_try_tup (hs : X.stack = X.env :: X.outer) (hf : X.env.frame = some X.env.locals) (hN : X.N.Nodup) (hi : X.N[i]? = some n) (hln : X.env.kindOf n = some .local)
    (m1 : X.mg x1 = some c1) (m2 : X.mg x2 = some c2) (m3 : X.mg x3 = some c3)
    (hb : ∀ (W : WX) (pn : List (Addr × Obj)) (xe : Value → Shared → Prop), Takes (X.tr pn xe) W → PassesOwn (model X.prog X.w) X.A X.env xe → PSs (X.tr pn xe) body (tb W))
    (hsu : ∀ (a : Addr) (oe : Obj) (cls : Value) (d : Option Addr) (pn : List (Addr × Obj)), Zc cls d oe → (∃ vs, oe.data = .fields vs) → PSs (X.suite a ((a, oe) :: pn)) (b₀ :: suite) (ts a cls d))
    (g1 : Gl X x1 := by rfl) (g2 : Gl X x2 := by rfl) (g3 : Gl X x3 := by rfl) (d1 : (x1 == ("__debug__" : Str)) = false := by decide) (d2 : (x2 == ("__debug__" : Str)) = false := by decide) (d3 : (x3 == ("__debug__" : Str)) = false := by decide) :
    PS X (.Try body [.ExceptHandler (some (.Tuple [.Name x1 p1, .Name x2 p2, .Name x3 p3] k3 tp)) (some n) (b₀ :: suite) pos'] [] [] pos) (fun D σ H => tb (wTup X.K [c1, c2, c3] i ts D) D σ H) := by
  refine ⟨fun pins s σ H D I h => ?_⟩
  have ok := I.ok
  have hfr : X.A.frames = some (X.env :: X.outer) := by rw [ok.frames, hs]
  refine wpAny_Try_except ?_
  refine wpAny_mono ((hb (wTup X.K [c1, c2, c3] i ts D) (X.pn ++ pins) (fun e s₁ => wpAny (model X.prog X.w) X.A (noteFrame e X.env) (fun _ s₂ => wpAny (model X.prog X.w) X.A (setFlight e none) (fun _ s₃ =>
    wpAny (model X.prog X.w) X.A (handleBy e X.env [.ExceptHandler (some (.Tuple [.Name x1 p1, .Name x2 p2, .Name x3 p3] k3 tp)) (some n) (b₀ :: suite) pos']) (SP X pins D) X.xe s₃) X.xe s₂) X.xe s₁) (fun u s' xx => ?_) PassesOwn.looking).run [] s σ H D (I.toTry _) h) (fun f s1 hsp => ?_) (fun e s1 he => he)
  · obtain ⟨a, B, sI, pins', σ', H', cls, d, rfl, J', nb, up, sky, na, os, ag, hb1, hyes⟩ := xx
    have J : Inv X pins σ' H' sI := J'.ofTry ok
    have sky' : Sky B (X.env :: X.outer) a (Zc cls d) X.env.locals s'.heap := by rw [← hs]; exact sky
    show wpAny (model X.prog X.w) X.A (noteFrame (.ref a) X.env) _ _ _
    refine Sky.land Zc.steady hfr hf sky' fun h3 fl3 up3 => ?_
    have J3 : Inv X pins σ' H' { s' with heap := h3 } := J.landed nb fl3.1 (up.trans up3) os ag
    obtain ⟨oe3, vs3, he3, hz3, hd3⟩ := fl3.there
    have nfr : a ∉ frs (X.env :: X.outer) := fun hm => by
      obtain ⟨_, o', e', hnf⟩ := fl3.2.2.1.mem hm
      rw [he3] at e'
      cases e'
      exact hnf _ hd3
    have nL : a ≠ X.env.locals := fun z => nfr (List.mem_filterMap.mpr ⟨X.env, List.mem_cons_self, by rw [hf, z]⟩)
    have nF : a ∉ X.fs := fun hm => by
      obtain ⟨e, he, q⟩ := List.mem_filterMap.mp hm
      exact nfr (List.mem_filterMap.mpr ⟨e, List.mem_cons_of_mem _ he, q⟩)
    have S3 := J3.suite he3 hd3 na nL nF
    refine wpAny_handleBy_cons (codeAny_handlers_test ?_) (by intro q; cases q)
    refine wpAny_Tuple_spliced ?_
    refine Calls.spliced_cons (ld_glob (X := X.suite a ((a, oe3) :: (X.pn ++ pins))) S3 g1 m1 ?_ d1)
    refine Calls.spliced_cons (ld_glob (X := X.suite a ((a, oe3) :: (X.pn ++ pins))) S3 g2 m2 ?_ d2)
    refine Calls.spliced_cons (ld_glob (X := X.suite a ((a, oe3) :: (X.pn ++ pins))) S3 g3 m3 ?_ d3)
    refine Calls.spliced_nil ⟨by show 3 ≤ sizeLine; rw [sizeLine_eq]; decide, ?_⟩
    have kp : ∀ b o, h3.get? b = some o → (h3.push { cls := .type "tuple", data := .seq [c1, c2, c3].toArray }).get? b = some o := fun b o e => Heap.get?_push_of_some _ e
    have LT : PySem.W.Looks (model X.prog X.w) (h3.push { cls := .type "tuple", data := .seq [c1, c2, c3].toArray }) (typeOf (.ref a)) cls := fun A Q E s k q => wpAny_typeOf_ref (k _ _ (kp _ _ he3)) (by rw [hz3.1]; exact q)
    have LM := PySem.W.exm_tup3 (M := model X.prog X.w) (J3.kIn.keeps kp) LT (Heap.get?_push_size _ rfl) hb1
    refine LM.here ?_
    refine codeAny_handlers_suite_as ?_
    refine HandSPX.lands_againZ (flying_keeps fl3 kp) fun h4 fl4 up4 => ?_
    have J4 : Inv X pins σ' H' { s' with heap := h4 } := J.landed nb fl4.1 (((up.trans up3).trans (Heap.UpToSlots.of_keeps kp)).trans up4) os ag
    obtain ⟨oe4, vs4, he4, hz4, hd4⟩ := fl4.there
    have S4 := J4.suite he4 hd4 na nL nF
    refine store_ok (X := X.suite a ((a, oe4) :: (X.pn ++ pins))) (v := .ref a) S4 hN hi (.inl hln) rfl (fun s5 S5 => ?_) (.inr hln)
    refine wpAny_mono ((hsu a oe4 cls d (X.pn ++ pins) hz4 ⟨_, hd4⟩).run [] s5 _ H' _ S5 (hyes a na)) (fun f s6 hsp => ?_) (fun _ _ z => False.elim z)
    have end_ : ∀ {σ6 : L2.St} {H6 : Hp} {Q : Shared → Prop}, Inv (X.suite a ((a, oe4) :: (X.pn ++ pins))) [] σ6 H6 s6 → (∀ s7, Inv X pins (σ6.set i none) H6 s7 → Q s7) →
        wpAny (model X.prog X.w) X.A (do bindName X.env n .none; unbindBehindTheSuite X.env n pos') (fun _ s7 => Q s7) X.xe s6 := fun {σ6 H6 Q} S6 hq => gone_ok (S6.unsuite ok) hN hi hln hq
    cases f with
    | next =>
      obtain ⟨σ6, H6, S6, q6⟩ := hsp
      exact end_ S6 fun s7 J7 => ⟨_, _, J7, q6⟩
    | brk =>
      obtain ⟨σ6, H6, S6, q6⟩ := hsp
      exact end_ S6 fun s7 J7 => ⟨_, _, J7, q6⟩
    | cont =>
      obtain ⟨σ6, H6, S6, q6⟩ := hsp
      exact end_ S6 fun s7 J7 => ⟨_, _, J7, q6⟩
    | ret u =>
      obtain ⟨v6, σ6, H6, S6, r6, q6⟩ := hsp
      exact end_ S6 fun s7 J7 => ⟨_, _, _, J7, r6, q6⟩
  · cases f with
    | next =>
      obtain ⟨σ6, H6, S6, q6⟩ := hsp
      exact wpAny_execs_nil ⟨_, _, S6.ofTry ok, q6⟩
    | brk =>
      obtain ⟨σ6, H6, S6, q6⟩ := hsp
      exact ⟨_, _, S6.ofTry ok, q6⟩
    | cont =>
      obtain ⟨σ6, H6, S6, q6⟩ := hsp
      exact ⟨_, _, S6.ofTry ok, q6⟩
    | ret u =>
      obtain ⟨v6, σ6, H6, S6, r6, q6⟩ := hsp
      exact ⟨_, _, _, S6.ofTry ok, r6, q6⟩
end
/-! ### isinstance(e, ..), e the exception that the suite holds -/
def rIsA (K : PySem.W.Frag) (a : Addr) (cls : Value) (d : Option Addr) : List V → Hp → VK → Prop := fun xs H Q => ∃ (D : Addr) (c : V) (cv : Value) (b : Bool), cls = .ref D ∧ d = none ∧ ExcC K D ∧ xs = [.ref a, c] ∧ ClsV c cv ∧ PySem.W.kitOne K (.ref D) cv = some b ∧ Q (.bl b) H
def rIsAT (K : PySem.W.Frag) (a : Addr) (cls : Value) (d : Option Addr) : List V → Hp → VK → Prop := fun xs H Q => ∃ (D tp : Addr) (cs : List V) (us : List Value) (b : Bool), cls = .ref D ∧ d = none ∧ ExcC K D ∧ xs = [.ref a, .ref tp] ∧ H tp = some (.tup cs) ∧ Paired ClsV cs us ∧ PySem.W.kitAny K (.ref D) us = some b ∧ Q (.bl b) H
section
variable {X : Cx} {a : Addr} {cls : Value} {d : Option Addr} {oe : Obj} {pn : List (Addr × Obj)}
theorem suite_inst {pins : List (Addr × Obj)} {s : Shared} {σ : L2.St} {H : Hp} {D : Addr} (I : Inv (X.suite a ((a, oe) :: pn)) pins σ H s) (hz : Zc (.ref D) none oe) (hf : ∃ vs, oe.data = .fields vs) : PySem.W.InstAt s.heap a oe D none := by
  obtain ⟨hget, _⟩ := I.pin (a, oe) (List.mem_append.mpr (.inl List.mem_cons_self))
  obtain ⟨vs, hv⟩ := hf
  obtain ⟨oc, od, oda, osl⟩ := oe
  obtain ⟨h1, h2⟩ := hz
  dsimp only at h1 h2 hv
  subst h1 h2 hv
  exact ⟨hget, rfl, rfl, trivial⟩
theorem call_isA (hz : Zc cls d oe) (hf : ∃ vs, oe.data = .fields vs) : CallR (X.suite a ((a, oe) :: pn)) (.builtin "isinstance") (rIsA X.K a cls d) := by
  intro pins s σ H xs us Q I r h
  obtain ⟨D, c, cv, b, rfl, rfl, C, rfl, k, e, q⟩ := h
  obtain ⟨u1, u2, rfl, r1, r2⟩ := vals2 r
  have e2 := k.eq r2
  subst e2
  cases (show u1 = Value.ref a from r1)
  exact PySem.W.kia_one (PySem.W.handS_kitx_exc C.hg C.hk C.hs C.hd C.ha C.hn C.ht C.hm) I.kIn (suite_inst I hz hf) e (fun z => nomatch z) fun tk => ⟨.bl b, H, I.kept (t' := tk) fun _ _ z => z, rfl, q⟩
theorem call_isAT (hz : Zc cls d oe) (hf : ∃ vs, oe.data = .fields vs) : CallR (X.suite a ((a, oe) :: pn)) (.builtin "isinstance") (rIsAT X.K a cls d) := by
  intro pins s σ H xs us Q I r h
  obtain ⟨D, tp, cs, ws, b, rfl, rfl, C, rfl, hT, k, e, q⟩ := h
  obtain ⟨u1, u2, rfl, r1, r2⟩ := vals2 r
  cases (show u1 = Value.ref a from r1)
  cases (show u2 = Value.ref tp from r2)
  obtain ⟨_, its, rv, o, h1, h2, n, h3⟩ := (show ObjOk X.prog X.w H s.heap tp (.tup cs) from I.hok tp _ hT)
  have e3 := ClsV.all k rv
  subst e3
  obtain ⟨oc, od, dt, sl⟩ := o
  simp only at h2 h3
  subst h2 h3
  exact PySem.W.kia_tup (PySem.W.handS_kitx_exc C.hg C.hk C.hs C.hd C.ha C.hn C.ht C.hm) I.kIn (suite_inst I hz hf) h1 e (fun z => nomatch z) fun tk => ⟨.bl b, H, I.kept (t' := tk) fun _ _ z => z, rfl, q⟩
end
def excCB (x : Str) : Fx := fun K => He.eqO (PySem.W.findIn K (.ref (He.ga K x)) "__getattribute__") (some (some (.builtin "BaseException.__getattribute__"))) && (He.eqO (PySem.W.findIn K (.ref (He.ga K x)) "__getattr__") (some none) && (decide (PySem.W.subIn K (.ref (He.ga K x)) (.type "BaseException") = some true) && (PySem.W.hasDictIn K (He.ga K x) &&
  (He.eqO (PySem.W.findIn K (.ref (He.ga K x)) "__class__") (some (some (.builtin "object.__class__"))) && (He.eqO (PySem.W.specialIn K (.builtin "object.__class__") "__get__") (some (some (.builtin "getset_descriptor.__get__"))) && (decide (PySem.W.takesIn K (.builtin "object.__class__") = some true) && decide (PySem.W.mroIn K (He.ga K x) (.type "object") = some true)))))))
theorem excC_of {x : Str} {K : PySem.W.Frag} (h : excCB x K = true) : ExcC K (He.ga K x) := by
  obtain ⟨h1, h⟩ := He.ba h
  obtain ⟨h2, h⟩ := He.ba h
  obtain ⟨h3, h⟩ := He.ba h
  obtain ⟨h4, h⟩ := He.ba h
  obtain ⟨h5, h⟩ := He.ba h
  obtain ⟨h6, h⟩ := He.ba h
  obtain ⟨h7, h8⟩ := He.ba h
  exact ⟨He.eqO_ok h1, He.eqO_ok h2, of_decide_eq_true h3, h4, He.eqO_ok h5, He.eqO_ok h6, of_decide_eq_true h7, of_decide_eq_true h8⟩
def kitF (x y : Str) (b : Bool) : Fx := fun K => decide (PySem.W.kitOne K (.ref (He.ga K x)) (.ref (He.ga K y)) = some b)
def kitFT (x : Str) (y : String) (b : Bool) : Fx := fun K => decide (PySem.W.kitOne K (.ref (He.ga K x)) (.type y) = some b)
def exm3F (x : Str) (ys : List Str) : Fx := fun K => decide (PySem.W.exmAny K (.ref (He.ga K x)) (ys.map fun y => .ref (He.ga K y)) = some true)
end L3
set_option Elab.async false
set_option linter.all false
set_option maxRecDepth 100000
set_option maxHeartbeats 4000000
namespace L3
open PySem PySem.Spec PyProof.Rows L2
/-! ### repr of data with dicts in it -/
def keyD : Key → PyData
  | .inl i => .int i
  | .inr x => .str x
def zipK : List (Key × V) → List PyData → List (PyData × PyData)
  | (k, _) :: r, d :: ds => (keyD k, d) :: zipK r ds
  | _, _ => []
inductive Dq (K : PySem.W.Frag) (H : Hp) : V → PyData → Prop
  | non : Dq K H .non .none
  | bl (b : Bool) : Dq K H (.bl b) (.bool b)
  | int (i : Int) : Dq K H (.int i) (.int i)
  | str (x : Str) : Dq K H (.str x) (.str x)
  | lst {a : Addr} {xs : List V} {ds : List PyData} : SqL K H a xs → xs.length = ds.length → (∀ (i : Nat) (x : V) (d : PyData), xs[i]? = some x → ds[i]? = some d → Dq K H x d) → Dq K H (.ref a) (.list ds)
  | tup {a : Addr} {xs : List V} {ds : List PyData} : SqT K H a xs → xs.length = ds.length → (∀ (i : Nat) (x : V) (d : PyData), xs[i]? = some x → ds[i]? = some d → Dq K H x d) → Dq K H (.ref a) (.tuple ds)
  | dct {a : Addr} {kvs : List (Key × V)} {ds : List PyData} : H a = some (.dK kvs) → kvs.length = ds.length → (∀ (i : Nat) (k : Key) (x : V) (d : PyData), kvs[i]? = some (k, x) → ds[i]? = some d → Dq K H x d) → Dq K H (.ref a) (.dict (zipK kvs ds))
theorem Dq.mono {K : PySem.W.Frag} {H H' : Hp} {x : V} {d : PyData} (e : Ex H H') (h : Dq K H x d) : Dq K H' x d := by
  induction h with
  | non => exact .non
  | bl b => exact .bl b
  | int i => exact .int i
  | str x => exact .str x
  | lst s l _ ih => exact .lst (ex_sql e s) l ih
  | tup s l _ ih => exact .tup (ex_sqt e s) l ih
  | dct s l _ ih => exact .dct (e _ _ s) l ih
theorem all_reads {h : Heap} : ∀ (xs : List V) (ds : List PyData) (us : List Value), xs.length = ds.length → Vals xs us → (∀ (i : Nat) (x : V) (d : PyData), xs[i]? = some x → ds[i]? = some d → ∀ u, RelV x u → ∃ as, Reads h u d as ∧ sysModules ∉ as) → ∃ as, ReadsAll h us ds as ∧ sysModules ∉ as
  | [], [], _, _, r, _ => by
    cases r
    exact ⟨_, .nil, by simp⟩
  | x :: xs, d :: ds, _, l, r, h => by
    cases r with
    | cons r1 r2 =>
      obtain ⟨as, q1, n1⟩ := h 0 x d rfl rfl _ r1
      obtain ⟨bs, q2, n2⟩ := all_reads xs ds _ (by simpa using l) r2 fun i y e h1 h2 => h (i + 1) y e (by simpa using h1) (by simpa using h2)
      refine ⟨_, .cons q1 q2, fun z => ?_⟩
      rcases List.mem_append.mp z with z | z
      · exact n1 z
      · exact n2 z
theorem key_reads {h : Heap} {k : Key} {v : Value} (e : keyIs k v = true) : Reads h v (keyD k) [] := by
  rcases keyIs_shape e with ⟨i, t, rfl, rfl⟩ | ⟨x, t, rfl, rfl⟩
  · exact .int i t
  · exact .str x t
theorem kv_reads {P : Program} {w : World} {h : Heap} : ∀ (kvs : List (Key × V)) (ds : List PyData) (es : List DictEntry) (vs : List (Key × Value)), kvs.length = ds.length → KV kvs vs → Pairs (mixKind P w) es vs →
    (∀ (i : Nat) (k : Key) (x : V) (d : PyData), kvs[i]? = some (k, x) → ds[i]? = some d → ∀ u, RelV x u → ∃ as, Reads h u d as ∧ sysModules ∉ as) →
    ReadsAll h (es.map (·.key)) ((zipK kvs ds).map (·.1)) [] ∧ ∃ bs, ReadsAll h (es.map (·.val)) ((zipK kvs ds).map (·.2)) bs ∧ sysModules ∉ bs
  | [], [], es, vs, _, r, p, _ => by
    cases r
    cases p
    exact ⟨.nil, _, .nil, by simp⟩
  | (k, x) :: kvs, d :: ds, es, vs, l, r, p, h => by
    cases r with
    | cons r1 r2 =>
      cases p with
      | cons p1 p2 p3 =>
        obtain ⟨as, q1, n1⟩ := h 0 k x d rfl rfl _ r1.2
        obtain ⟨h1, bs, q2, n2⟩ := kv_reads kvs ds _ _ (by simpa using l) r2 p3 fun i k' y e h1 h2 => h (i + 1) k' y e (by simpa using h1) (by simpa using h2)
        refine ⟨ReadsAll.cons (as := []) (bs := []) (key_reads (by have e : k = _ := r1.1; subst e; exact p1)) h1, as ++ bs, ReadsAll.cons (by rw [← p2] at q1; exact q1) q2, fun z => ?_⟩
        rcases List.mem_append.mp z with z | z
        · exact n1 z
        · exact n2 z
/-- the part that is written holds sys.modules: a dict -/
def SysK (K : PySem.W.Frag) : Prop := ∃ o, K.lookup sysModules = some o ∧ o.cls = .type "dict"
def sysB : Fx := fun K => match K.lookup sysModules with
  | some o => match o.cls with
    | .type n => n == "dict"
    | _ => false
  | none => false
theorem sys_of {K : PySem.W.Frag} (h : sysB K = true) : SysK K := by
  unfold sysB at h
  split at h
  · rename_i o e
    split at h
    · rename_i n c
      have : n = "dict" := by simpa using h
      exact ⟨o, e, by rw [c, this]⟩
    · cases h
  · cases h
theorem Dq.reads {X : Cx} {pins : List (Addr × Obj)} {σ : L2.St} {H : Hp} {s : Shared} (I : Inv X pins σ H s) (S : SysK X.K) {x : V} {d : PyData} (h : Dq X.K H x d) : ∀ u, RelV x u → ∃ as, Reads s.heap u d as ∧ sysModules ∉ as := by
  obtain ⟨o1, k1, c1⟩ := S
  have g1 := I.kIn _ _ k1
  induction h with
  | non =>
    intro u r
    cases r
    exact ⟨_, .none, by simp⟩
  | bl b =>
    intro u r
    cases r
    exact ⟨_, .bool b, by simp⟩
  | int i =>
    rintro u ⟨t, rfl⟩
    exact ⟨_, .int i t, by simp⟩
  | str x =>
    rintro u ⟨t, rfl⟩
    exact ⟨_, .str x t, by simp⟩
  | @lst a xs ds hs l _ ih =>
    intro u r
    cases r
    obtain ⟨its, rv, ⟨o, n, ho, hc, _, hd⟩, _⟩ := I.list hs
    obtain ⟨as, hr, hn⟩ := all_reads xs ds its l rv ih
    refine ⟨_, .list ho hc hd hr, fun z => ?_⟩
    rcases List.mem_cons.mp z with z | z
    · rw [← z, g1] at ho
      cases ho
      rw [c1] at hc
      injection hc with z2
      exact absurd z2 (by decide)
    · exact hn z
  | @tup a xs ds hs l _ ih =>
    intro u r
    cases r
    obtain ⟨its, rv, ⟨o, ho, hc, n, hd⟩, _⟩ := I.tuple hs
    obtain ⟨as, hr, hn⟩ := all_reads xs ds its l rv ih
    exact ⟨_, .tuple ho hc hd hr, hn⟩
  | @dct a kvs ds hs l _ ih =>
    intro u r
    cases r
    obtain ⟨_, ns, vs, rk, o, es, ep, ho, ⟨hc, _, _⟩, hd, _, hp, _⟩ := dk_of I.hok hs
    obtain ⟨h1, bs, h2, hn⟩ := kv_reads kvs ds es.toList vs l rk hp ih
    refine ⟨_, .dict ho hc hd h1 h2, fun z => ?_⟩
    rcases List.mem_cons.mp z with z | z
    · rw [← z] at ns
      simp at ns
    · exact hn (by simpa using z)
@[irreducible] def rReprQ (K : PySem.W.Frag) : List V → Hp → VK → Prop := fun xs H Q => ∃ (a : Addr) (d : PyData), xs = [.ref a] ∧ Dq K H (.ref a) d ∧ d.showable = true ∧ d.depth ≤ 60 ∧ d.shown.length ≤ sizeLine ∧ Q (.str d.shown) H
theorem call_reprQ {X : Cx} {k : Nat} (S : SysK X.K) (hr : Rm k X.A) : CallR X (.builtin "repr") (rReprQ X.K) := by
  intro pins s σ H xs us Q I r h
  unfold rReprQ at h
  obtain ⟨a, d, rfl, hd, hs, hdp, hsz, q⟩ := h
  cases r with
  | cons r1 r2 =>
    cases r2
    obtain ⟨as, rd, nm⟩ := Dq.reads I S hd _ r1
    obtain rfl : _ = Value.ref a := r1
    refine repr_of_reads' rd hs (fun _ => nm) hr.gd (by have := hr.rm.un; omega) (fun _ _ e => e) (fun h' u tk hk => ?_) hsz
    exact ⟨.str d.shown, H, I.kept hk, ⟨u, rfl⟩, q⟩
/-- small data, shown -/
structure ShD (d : PyData) : Prop where
  ok : d.showable = true
  len : d.shown.length ≤ 5000
  dep : d.depth ≤ 3
theorem shd_int {i : Int} (h1 : -(10 ^ 150) < i) (h2 : i < 10 ^ 150) : ShD (.int i) := by
  obtain ⟨_, h3, h4⟩ := okD_tells (.int i) (okI_of h1 h2)
  exact ⟨h3, Nat.le_trans h4 (by show 1921 ≤ 5000; decide), by show 0 ≤ 3; decide⟩
theorem shd_list {ds : List PyData} (h : ∀ d ∈ ds, ShD d) (hl : ds.length ≤ 100) : PyData.showableAll ds = true ∧ PyData.depthAll ds ≤ 3 ∧ ((PyData.shownAll ds).map (·.length)).sum ≤ 5000 * ds.length := by
  induction ds with
  | nil => exact ⟨rfl, by show 0 ≤ 3; decide, by show 0 ≤ 0; decide⟩
  | cons d r ih =>
    obtain ⟨h1, h2, h3⟩ := ih (fun x hx => h x (List.mem_cons_of_mem _ hx)) (by simp at hl; omega)
    obtain ⟨g1, g2, g3⟩ := h d List.mem_cons_self
    refine ⟨?_, ?_, ?_⟩
    · show (d.showable && PyData.showableAll r) = true
      rw [g1, h1]
      rfl
    · show max d.depth (PyData.depthAll r) ≤ 3
      omega
    · show d.shown.length + ((PyData.shownAll r).map (·.length)).sum ≤ 5000 * (r.length + 1)
      omega
theorem rq_list {K : PySem.W.Frag} {H : Hp} {a : Addr} {ds : List PyData} {Q : VK} (h : Dq K H (.ref a) (.list ds)) (hs : ∀ d ∈ ds, ShD d) (hl : ds.length ≤ 100) (q : Q (.str (PyData.shown (.list ds))) H) : rReprQ K [.ref a] H Q := by
  unfold rReprQ
  obtain ⟨h1, h2, h3⟩ := shd_list hs hl
  refine ⟨a, _, rfl, h, h1, ?_, ?_, q⟩
  · show PyData.depthAll ds + 1 ≤ 60
    omega
  · have e := listText_len_le (PyData.shownAll ds)
    rw [PyData.shownAll_length] at e
    show (listText (PyData.shownAll ds)).length ≤ sizeLine
    rw [sizeLine_eq]
    omega
end L3
set_option Elab.async false
set_option linter.all false
set_option maxRecDepth 100000
set_option maxHeartbeats 4000000
namespace L3
open PySem PySem.Spec PyProof.Rows L2
theorem Rm.in1 {k : Nat} {A : Around} (r : Rm (k + 1) A) : Rm k A.in1 := ⟨r.rm.in1, r.gd⟩
section
variable {X : Cx} {k : Nat} {f C : Addr} {ks : List Str} {sp : Sp} {W : WX} {x m : Str} {p pos apos : Pos} {e o : Expr} {es : List Expr} {kws : List Keyword} {ta : TE} {t tk : TA}
/-- a def that runs somewhere below the body -/
theorem run_fcA {A : Around} {pins : List (Addr × Obj)} {σ : L2.St} {H : Hp} {s : Shared} {Q : VK} {us ws : List Value} {vs : List V} (F : Fc X.prog X.w X.K X.mg X.base k f ks sp) (hr : Rm k A) (hf : A.frames = X.A.frames) (hx : Takes X W)
    (I : Inv X pins σ H s) (r : Vals vs (us ++ ws)) (hl : ws.length = ks.length) (h : sp vs H Q (WE W σ)) : wpAny (model X.prog X.w) A (call (.ref f) us (ks.zip ws)) (EP X pins σ Q) X.xe s := by
  have e0 : Env0 X.prog X.w X.K X.mg X.base A X.stack s H := by
    have e := I.env0
    exact ⟨by rw [hf]; exact e.frames, e.mod, e.bs, e.bsz, e.funs, e.frf, e.hok, e.bare⟩
  refine wpAny_call (codeAny_mono (F A X.stack s H us ws vs Q (WE W σ) hr e0 r hl h) fun r s' hq => ?_)
  cases r with
  | error e => exact passAt hx σ pins H s e s' I hq
  | ok fl =>
    cases fl with
    | ret u => exact I.after hq
    | next => exact False.elim hq
    | brk => exact False.elim hq
    | cont => exact False.elim hq
/-- o.m(e, ..) of an instance of the class at C -/
def tMt (C : Addr) (m : Str) (sp : Sp) (W : WX) (ta : TE) (t : TA) : TE := fun σ H Q => ta σ H fun x H1 => ∃ a dx fs, x = .ref a ∧ H1 a = some (.ins C dx fs) ∧ fs.lookup m = none ∧ t σ H1 fun vs H2 => sp (x :: vs) H2 Q (WE W σ)
theorem c_meth {pl : Sem Bool} (he : PE X o ta) (c : Cls X.K C) (hm : Meth X.K C m f) (F : Fc X.prog X.w X.K X.mg X.base k f [] sp) (hr : Rm k X.A) (hx : Takes X W) (ha : PA X (e :: es) t)
    (hst : starEach (e :: es) X.env = (false, eval e X.env) :: starEach es X.env := by rfl) (hpl : (backTo pos (starEach es X.env)).any (·.1) = false := by rfl)
    (ht : eval (.Call (.Attribute o m apos) (e :: es) [] pos) X.env = (do
      let ov ← eval o X.env
      standAt apos.atName
      let (f, first) ← holding [ov] (getMethod ov m pl)
      callWith pos f first (backTo pos (starEach (e :: es) X.env)) (backToKw pos (keywordEach [] X.env))) := by rfl) :
    PE X (.Call (.Attribute o m apos) (e :: es) [] pos) (tMt C m sp W ta t) := by
  refine ⟨fun pins s σ H Q I h => ?_⟩
  refine PySem.W.methodCall_KW (pl := pl) (thn (he.run pins s σ H _ I h) fun u s1 ⟨x, H1, I1, rx, a, dx, fs, ex, ea, l, q⟩ => ?_) ht
  subst ex
  obtain rfl : u = Value.ref a := rx
  refine getmeth_ok I1 ea c hm l ?_
  refine PySem.W.callWith_K (first := [.ref a]) (h₀ := X.base) I.ok.mod.kin hm.kp (thn (ha.run pos pins s1 σ H1 _ I1 q) fun us s2 ⟨vs, H2, I2, r, q2⟩ => ⟨I2.kIn, ?_⟩) hst hpl
  exact run_fc (us := .ref a :: us) (ws := []) (vs := .ref a :: vs) F hr hx I2 (by rw [List.append_nil]; exact .cons rfl r) rfl q2
theorem c_meth0 {pl : Sem Bool} (he : PE X o ta) (c : Cls X.K C) (hm : Meth X.K C m f) (F : Fc X.prog X.w X.K X.mg X.base k f [] sp) (hr : Rm k X.A) (hx : Takes X W)
    (ht : eval (.Call (.Attribute o m apos) [] [] pos) X.env = (do
      let ov ← eval o X.env
      standAt apos.atName
      let (f, first) ← holding [ov] (getMethod ov m pl)
      callWith pos f first (backTo pos (starEach [] X.env)) (backToKw pos (keywordEach [] X.env))) := by rfl) :
    PE X (.Call (.Attribute o m apos) [] [] pos) (tMt C m sp W ta tNil) := by
  refine ⟨fun pins s σ H Q I h => ?_⟩
  refine PySem.W.methodCall_KW (pl := pl) (thn (he.run pins s σ H _ I h) fun u s1 ⟨x, H1, I1, rx, a, dx, fs, ex, ea, l, q⟩ => ?_) ht
  subst ex
  obtain rfl : u = Value.ref a := rx
  refine getmeth_ok I1 ea c hm l ?_
  exact PySem.W.callWith_K0 (first := [.ref a]) I1.kIn hm.kp (run_fc (us := [.ref a]) (ws := []) (vs := [.ref a]) F hr hx I1 (.cons rfl .nil) rfl q)
/-- o.m(k = v, ..) -/
def tMtK (C : Addr) (m : Str) (ks : List Str) (sp : Sp) (W : WX) (ta : TE) (tk : TA) : TE := fun σ H Q => ta σ H fun x H1 => ∃ a dx fs, x = .ref a ∧ H1 a = some (.ins C dx fs) ∧ fs.lookup m = none ∧ tk σ H1 fun zs H2 => zs.length = ks.length ∧ sp (x :: zs) H2 Q (WE W σ)
theorem c_methK0 {pl : Sem Bool} (he : PE X o ta) (c : Cls X.K C) (hm : Meth X.K C m f) (F : Fc X.prog X.w X.K X.mg X.base k f ks sp) (hr : Rm k X.A) (hx : Takes X W)
    (hkw : PK X kws tk) (hall : (backToKw pos (keywordEach kws X.env)).all (·.1.isSome) = true := by rfl) (hks : (backToKw pos (keywordEach kws X.env)).filterMap (·.1) = ks := by rfl)
    (hpl : ((backTo pos (starEach [] X.env)).any (·.1) || (backToKw pos (keywordEach kws X.env)).any (·.1.isNone)) = false := by rfl)
    (ht : eval (.Call (.Attribute o m apos) [] kws pos) X.env = (do
      let ov ← eval o X.env
      standAt apos.atName
      let (f, first) ← holding [ov] (getMethod ov m pl)
      callWith pos f first (backTo pos (starEach [] X.env)) (backToKw pos (keywordEach kws X.env))) := by rfl) :
    PE X (.Call (.Attribute o m apos) [] kws pos) (tMtK C m ks sp W ta tk) := by
  refine ⟨fun pins s σ H Q I h => ?_⟩
  refine PySem.W.methodCall_KW (pl := pl) (thn (he.run pins s σ H _ I h) fun u s1 ⟨x, H1, I1, rx, a, dx, fs, ex, ea, l, q⟩ => ?_) ht
  subst ex
  obtain rfl : u = Value.ref a := rx
  refine getmeth_ok I1 ea c hm l ?_
  refine PySem.W.callWith_KW0 (first := [.ref a]) (h₀ := X.base) I.ok.mod.kin hm.kp hall ?_ hpl
  refine thn (hkw.run pos pins s1 σ H1 _ I1 q) fun ws s2 ⟨zs, H2, I2, rz, l2, q2⟩ => ⟨I2.kIn, ?_⟩
  rw [hks]
  exact run_fc (us := [.ref a]) (vs := .ref a :: zs) F hr hx I2 (.cons rfl rz) (rz.length.symm.trans l2) q2
/-- o.m(e, .., k = v, ..) -/
def tMtN (C : Addr) (m : Str) (ks : List Str) (sp : Sp) (W : WX) (ta : TE) (t tk : TA) : TE := fun σ H Q => ta σ H fun x H1 => ∃ a dx fs, x = .ref a ∧ H1 a = some (.ins C dx fs) ∧ fs.lookup m = none ∧ t σ H1 fun vs H2 => tk σ H2 fun zs H3 => zs.length = ks.length ∧ sp (x :: (vs ++ zs)) H3 Q (WE W σ)
theorem c_methK {pl : Sem Bool} (he : PE X o ta) (c : Cls X.K C) (hm : Meth X.K C m f) (F : Fc X.prog X.w X.K X.mg X.base k f ks sp) (hr : Rm k X.A) (hx : Takes X W)
    (ha : PA X (e :: es) t) (hkw : PK X kws tk) (hall : (backToKw pos (keywordEach kws X.env)).all (·.1.isSome) = true := by rfl) (hks : (backToKw pos (keywordEach kws X.env)).filterMap (·.1) = ks := by rfl)
    (hst : starEach (e :: es) X.env = (false, eval e X.env) :: starEach es X.env := by rfl)
    (hpl : ((backTo pos (starEach (e :: es) X.env)).any (·.1) || (backToKw pos (keywordEach kws X.env)).any (·.1.isNone)) = false := by rfl)
    (ht : eval (.Call (.Attribute o m apos) (e :: es) kws pos) X.env = (do
      let ov ← eval o X.env
      standAt apos.atName
      let (f, first) ← holding [ov] (getMethod ov m pl)
      callWith pos f first (backTo pos (starEach (e :: es) X.env)) (backToKw pos (keywordEach kws X.env))) := by rfl) :
    PE X (.Call (.Attribute o m apos) (e :: es) kws pos) (tMtN C m ks sp W ta t tk) := by
  refine ⟨fun pins s σ H Q I h => ?_⟩
  refine PySem.W.methodCall_KW (pl := pl) (thn (he.run pins s σ H _ I h) fun u s1 ⟨x, H1, I1, rx, a, dx, fs, ex, ea, l, q⟩ => ?_) ht
  subst ex
  obtain rfl : u = Value.ref a := rx
  refine getmeth_ok I1 ea c hm l ?_
  refine PySem.W.callWith_KW (first := [.ref a]) (h₀ := X.base) I.ok.mod.kin hm.kp hall (thn (ha.run pos pins s1 σ H1 _ I1 q) fun us s2 ⟨vs, H2, I2, r, q2⟩ => ?_) hpl hst
  refine thn (hkw.run pos pins s2 σ H2 _ I2 q2) fun ws s3 ⟨zs, H3, I3, rz, l2, q3⟩ => ⟨I3.kIn, ?_⟩
  rw [hks]
  exact run_fc (us := .ref a :: us) (vs := .ref a :: (vs ++ zs)) F hr hx I3 (.cons rfl (r.append rz)) (rz.length.symm.trans l2) q3
/-! ### a new instance -/
theorem run_mk {pins : List (Addr × Obj)} {σ : L2.St} {H : Hp} {s : Shared} {Q : VK} {us ws : List Value} {vs : List V} (M : Mk X.K C f) (F : Fc X.prog X.w X.K X.mg X.base k f ks sp) (hr : Rm (k + 1) X.A) (hx : Takes X W)
    (I : Inv X pins σ H s) (r : Vals vs (us ++ ws)) (hl : ws.length = ks.length)
    (h : ∀ x dx, H x = none → H dx = none → dx ≠ x → sp (.ref x :: vs) (upd (upd H dx (.own x)) x (.ins C dx [])) (fun v H2 => v = .non ∧ Q (.ref x) H2) (WE W σ)) :
    wpAny (model X.prog X.w) X.A (call (.ref C) us (ks.zip ws)) (EP X pins σ Q) X.xe s := by
  have hq := h (s.heap.objs.size + 1) s.heap.objs.size (I.hok.fresh (Nat.le_succ _)) (I.hok.fresh (Nat.le_refl _)) (Nat.ne_of_lt (Nat.lt_succ_self _))
  have I2 := Inv.made (C := C) I
  refine wpAny_call (make_map (f := f) I.kIn M.makes M.init (beq_iff_eq.mp M.fn) (codeAny_mono (F _ X.stack _ _ (Value.ref (s.heap.objs.size + 1) :: us) ws (V.ref (s.heap.objs.size + 1) :: vs) _ (WE W σ) (hr.make C us (ks.zip ws))
    (I2.env0.make C us (ks.zip ws)) (.cons rfl r) hl hq) fun r s' hq' => ?_))
  cases r with
  | error e => exact passAt hx σ pins _ _ e s' I2 hq'
  | ok fl =>
    cases fl with
    | ret u =>
      obtain ⟨v, H', I3, rv, ev, q3⟩ := I2.after hq'
      subst ev
      exact ⟨rv, ⟨V.ref (s.heap.objs.size + 1), H', I3, rfl, q3⟩⟩
    | next => exact False.elim hq'
    | brk => exact False.elim hq'
    | cont => exact False.elim hq'
def tMk (C : Addr) (sp : Sp) (W : WX) (t : TA) : TE := fun σ H Q => t σ H fun vs H1 => ∀ x dx, H1 x = none → H1 dx = none → dx ≠ x →
  sp (.ref x :: vs) (upd (upd H1 dx (.own x)) x (.ins C dx [])) (fun v H2 => v = .non ∧ Q (.ref x) H2) (WE W σ)
theorem c_make (M : Mk X.K C f) (F : Fc X.prog X.w X.K X.mg X.base k f [] sp) (hr : Rm (k + 1) X.A) (hm : X.mg x = some (.ref C)) (hx : Takes X W)
    (ha : PA X (e :: es) t) (hg : Gl X x := by rfl) (hdb : (x == ("__debug__" : Str)) = false := by decide) (he : starEach (e :: es) X.env = (false, eval e X.env) :: starEach es X.env := by rfl) (hpl : (backTo pos (starEach es X.env)).any (·.1) = false := by rfl) :
    PE X (.Call (.Name x p) (e :: es) [] pos) (tMk C sp W t) := by
  refine ⟨fun pins s σ H Q I h => ?_⟩
  refine wpAny_Call_Name_kw (ld_glob I hg hm ?_ hdb)
  refine PySem.W.callWith_K (h₀ := X.base) I.ok.mod.kin M.kp (thn (ha.run pos pins s σ H _ I h) fun us s1 ⟨vs, H1, I1, r, q⟩ => ⟨I1.kIn, ?_⟩) he hpl
  exact run_mk (ws := []) M F hr hx I1 (by rw [List.append_nil]; exact r) rfl q
theorem c_make0 (M : Mk X.K C f) (F : Fc X.prog X.w X.K X.mg X.base k f [] sp) (hr : Rm (k + 1) X.A) (hm : X.mg x = some (.ref C)) (hx : Takes X W)
    (hg : Gl X x := by rfl) (hdb : (x == ("__debug__" : Str)) = false := by decide) : PE X (.Call (.Name x p) [] [] pos) (tMk C sp W tNil) := by
  refine ⟨fun pins s σ H Q I h => ?_⟩
  refine wpAny_Call_Name_kw (ld_glob I hg hm ?_ hdb)
  exact PySem.W.callWith_K0 I.kIn M.kp (run_mk (us := []) (ws := []) M F hr hx I .nil rfl h)
def tMkK (C : Addr) (ks : List Str) (sp : Sp) (W : WX) (t tk : TA) : TE := fun σ H Q => t σ H fun vs H1 => tk σ H1 fun zs H2 => zs.length = ks.length ∧ ∀ x dx, H2 x = none → H2 dx = none → dx ≠ x →
  sp (.ref x :: (vs ++ zs)) (upd (upd H2 dx (.own x)) x (.ins C dx [])) (fun v H3 => v = .non ∧ Q (.ref x) H3) (WE W σ)
theorem c_makeK (M : Mk X.K C f) (F : Fc X.prog X.w X.K X.mg X.base k f ks sp) (hr : Rm (k + 1) X.A) (hm : X.mg x = some (.ref C)) (hx : Takes X W)
    (ha : PA X (e :: es) t) (hkw : PK X kws tk) (hg : Gl X x := by rfl) (hall : (backToKw pos (keywordEach kws X.env)).all (·.1.isSome) = true := by rfl) (hks : (backToKw pos (keywordEach kws X.env)).filterMap (·.1) = ks := by rfl)
    (hdb : (x == ("__debug__" : Str)) = false := by decide) (he : starEach (e :: es) X.env = (false, eval e X.env) :: starEach es X.env := by rfl)
    (hpl : ((backTo pos (starEach (e :: es) X.env)).any (·.1) || (backToKw pos (keywordEach kws X.env)).any (·.1.isNone)) = false := by rfl) :
    PE X (.Call (.Name x p) (e :: es) kws pos) (tMkK C ks sp W t tk) := by
  refine ⟨fun pins s σ H Q I h => ?_⟩
  refine wpAny_Call_Name_kw (ld_glob I hg hm ?_ hdb)
  refine PySem.W.callWith_KW (h₀ := X.base) I.ok.mod.kin M.kp hall (thn (ha.run pos pins s σ H _ I h) fun us s1 ⟨vs, H1, I1, r, q⟩ => ?_) hpl he
  refine thn (hkw.run pos pins s1 σ H1 _ I1 q) fun ws s2 ⟨zs, H2, I2, rz, l2, q2⟩ => ⟨I2.kIn, ?_⟩
  rw [hks]
  exact run_mk M F hr hx I2 (r.append rz) (rz.length.symm.trans l2) q2
def tMkK0 (C : Addr) (ks : List Str) (sp : Sp) (W : WX) (tk : TA) : TE := fun σ H Q => tk σ H fun zs H2 => zs.length = ks.length ∧ ∀ x dx, H2 x = none → H2 dx = none → dx ≠ x →
  sp (.ref x :: zs) (upd (upd H2 dx (.own x)) x (.ins C dx [])) (fun v H3 => v = .non ∧ Q (.ref x) H3) (WE W σ)
theorem c_makeK0 (M : Mk X.K C f) (F : Fc X.prog X.w X.K X.mg X.base k f ks sp) (hr : Rm (k + 1) X.A) (hm : X.mg x = some (.ref C)) (hx : Takes X W)
    (hkw : PK X kws tk) (hg : Gl X x := by rfl) (hall : (backToKw pos (keywordEach kws X.env)).all (·.1.isSome) = true := by rfl) (hks : (backToKw pos (keywordEach kws X.env)).filterMap (·.1) = ks := by rfl)
    (hdb : (x == ("__debug__" : Str)) = false := by decide)
    (hpl : ((backTo pos (starEach [] X.env)).any (·.1) || (backToKw pos (keywordEach kws X.env)).any (·.1.isNone)) = false := by rfl) :
    PE X (.Call (.Name x p) [] kws pos) (tMkK0 C ks sp W tk) := by
  refine ⟨fun pins s σ H Q I h => ?_⟩
  refine wpAny_Call_Name_kw (ld_glob I hg hm ?_ hdb)
  refine PySem.W.callWith_KW0 (h₀ := X.base) I.ok.mod.kin M.kp hall ?_ hpl
  refine thn (hkw.run pos pins s σ H _ I h) fun ws s2 ⟨zs, H2, I2, rz, l2, q2⟩ => ⟨I2.kIn, ?_⟩
  rw [hks]
  exact run_mk (us := []) M F hr hx I2 rz (rz.length.symm.trans l2) q2
/-! ### len, str, repr of an instance by its own methods -/
/-- xs is one instance of C; the promise of its method, at it -/
def rOwn (C : Addr) (sp : Sp) (G : V → Prop) : List V → Hp → VK → Prop := fun xs H Q => ∃ a dx fs, xs = [.ref a] ∧ H a = some (.ins C dx fs) ∧ sp [.ref a] H (fun v H' => G v ∧ Q v H') (fun _ _ _ => False)
def isLen : V → Prop
  | .int n => 0 ≤ n ∧ n < 2 ^ 63
  | _ => False
def isTxt : V → Prop
  | .str _ => True
  | _ => False
end
section
variable {X : Cx} {k : Nat} {f C : Addr} {sp : Sp}
theorem call_lenO (hm : Meth X.K C "__len__" f) (F : Fc X.prog X.w X.K X.mg X.base k f [] sp) (hr : Rm (k + 1) X.A) :
    CallR X (.builtin "len") (rOwn C sp isLen) := by
  intro pins s σ H xs us Q I r h
  obtain ⟨a, dx, fs, rfl, ha, hsp⟩ := h
  obtain ⟨u, rfl, ru⟩ := vals1 r
  obtain rfl : u = Value.ref a := ru
  obtain ⟨mA, J, _⟩ := ins_get I.hok ha
  obtain ⟨od, J, _⟩ := J.look
  refine Calls.call_function_entry kind_len plain_len entry_len (args_len1 _) ?_
  unfold Builtin.«len»
  refine wpAny_bind (m := oneArg "len" _) (wpAny_pure ?_)
  have run := run_fcA (A := X.A.in1) (W := fun _ _ _ _ => False) (us := [.ref a]) (ws := []) (vs := [.ref a]) (σ := σ) F hr.in1 rfl takes0 I (.cons rfl .nil) rfl hsp
  refine wpAny_bind (m := callSpecial? (.ref a) (Str.ofString "__len__")) (PySem.W.special_fn I.kIn J hm.at_ (beq_iff_eq.mp hm.fn) (wpAny_mono run (fun v s' hv => ?_) fun _ _ y => y))
  obtain ⟨z, H', I', rz, gz, q⟩ := hv
  cases z with
  | int n =>
    obtain ⟨t, rfl⟩ := rz
    obtain ⟨h0, h1⟩ : 0 ≤ n ∧ n < 2 ^ 63 := gz
    refine wpAny_bind (wpAny_holding (wpAny_pure ?_))
    refine wpAny_bind (wpAny_letGo ?_)
    show wpAny _ _ (if n < 0 then _ else _) _ _ _
    rw [if_neg (by omega)]
    show wpAny _ _ (if n ≥ 2 ^ 63 then _ else _) _ _ _
    rw [if_neg (by omega)]
    exact wpAny_bind (wpAny_mkInt (wpAny_pure ⟨_, rfl, ⟨.int n, H', I'.tok _, ⟨_, rfl⟩, q⟩⟩))
  | _ => exact gz.elim
theorem call_reprO (hm : Meth X.K C "__repr__" f) (F : Fc X.prog X.w X.K X.mg X.base k f [] sp) (hr : Rm (k + 1) X.A) :
    CallR X (.builtin "repr") (rOwn C sp isTxt) := by
  intro pins s σ H xs us Q I r h
  obtain ⟨a, dx, fs, rfl, ha, hsp⟩ := h
  obtain ⟨u, rfl, ru⟩ := vals1 r
  obtain rfl : u = Value.ref a := ru
  obtain ⟨mA, J, _⟩ := ins_get I.hok ha
  obtain ⟨od, J, _⟩ := J.look
  refine Calls.call_function_entry PySem.F.kind_repr PySem.F.plain_repr PySem.F.entry_repr (PySem.F.args_repr1 _) ?_
  unfold Builtin.«repr»
  refine wpAny_bind (m := oneArg "repr" _) (wpAny_pure ?_)
  refine wpAny_bind (wpAny_cRoomFor (by have := hr.in1.rm.un; omega) ?_)
  refine wpAny_bind (wpAny_bind (J.type.here ((PySem.W.looks_findIn I.kIn hm.at_).here ?_)))
  show wpAny _ _ (if (some (Value.ref f)).isNone = true then _ else _) _ _ _
  rw [if_neg (by simp)]
  have run := run_fcA (A := X.A.in1) (W := fun _ _ _ _ => False) (us := [.ref a]) (ws := []) (vs := [.ref a]) (σ := σ) F hr.in1 rfl takes0 I (.cons rfl .nil) rfl hsp
  refine wpAny_bind (m := callSpecialIfBound? (.ref a) (Str.ofString "__repr__") _) (PySem.W.ifBound_K I.kIn J hm.at_ hm.fn (wpAny_mono run (fun v s' hv => ?_) fun _ _ y => y))
  obtain ⟨z, H', I', rz, gz, q⟩ := hv
  cases z with
  | str y =>
    obtain ⟨t, rfl⟩ := rz
    refine wpAny_bind (wpAny_isInstance (typeIs_str _ _ _) isSubtype_str_str ?_)
    first
      | exact wpAny_pure ⟨_, rfl, ⟨.str y, H', I', ⟨t, rfl⟩, q⟩⟩
      | (rw [if_pos rfl]; exact wpAny_pure ⟨_, rfl, ⟨.str y, H', I', ⟨t, rfl⟩, q⟩⟩)
      | (simp only [if_true]; exact wpAny_pure ⟨_, rfl, ⟨.str y, H', I', ⟨t, rfl⟩, q⟩⟩)
  | _ => exact gz.elim
theorem call_strO (hm : Meth X.K C "__str__" f) (F : Fc X.prog X.w X.K X.mg X.base k f [] sp) (hr : Rm (k + 2) X.A) :
    CallR X (.type "str") (rOwn C sp isTxt) := by
  intro pins s σ H xs us Q I r h
  obtain ⟨a, dx, fs, rfl, ha, hsp⟩ := h
  obtain ⟨u, rfl, ru⟩ := vals1 r
  obtain rfl : u = Value.ref a := ru
  obtain ⟨mA, J, _⟩ := ins_get I.hok ha
  obtain ⟨od, J, _⟩ := J.look
  have run := run_fcA (A := X.A.in1.in1) (W := fun _ _ _ _ => False) (us := [.ref a]) (ws := []) (vs := [.ref a]) (σ := σ) F hr.in1.in1 rfl takes0 I (.cons rfl .nil) rfl hsp
  refine PySem.W.kso_call (by have := hr.in1.in1.rm.un; omega) I.kIn J hm.at_ hm.fn (wpAny_mono run (fun v s' hv => ?_) fun _ _ y => y)
  obtain ⟨z, H', I', rz, gz, q⟩ := hv
  cases z with
  | str y =>
    obtain ⟨t, rfl⟩ := rz
    exact ⟨.str y, H', I', ⟨t, rfl⟩, q⟩
  | _ => exact gz.elim
end
/-! ### isinstance of instances -/
structure InsC (K : PySem.W.Frag) (C : Addr) : Prop where
  ha : PySem.W.findIn K (.ref C) "__class__" = some (some (.builtin "object.__class__"))
  hn : PySem.W.specialIn K (.builtin "object.__class__") "__get__" = some (some (.builtin "getset_descriptor.__get__"))
  ht : PySem.W.takesIn K (.builtin "object.__class__") = some true
  hm : PySem.W.mroIn K C (.type "object") = some true
def insB (x : Str) : Fx := fun K => He.eqO (PySem.W.findIn K (.ref (He.ga K x)) "__class__") (some (some (.builtin "object.__class__"))) && (He.eqO (PySem.W.specialIn K (.builtin "object.__class__") "__get__") (some (some (.builtin "getset_descriptor.__get__"))) &&
  (decide (PySem.W.takesIn K (.builtin "object.__class__") = some true) && decide (PySem.W.mroIn K (He.ga K x) (.type "object") = some true)))
theorem insC_of {x : Str} {K : PySem.W.Frag} (h : insB x K = true) : InsC K (He.ga K x) := by
  obtain ⟨h1, h⟩ := He.ba h
  obtain ⟨h2, h⟩ := He.ba h
  obtain ⟨h3, h4⟩ := He.ba h
  exact ⟨He.eqO_ok h1, He.eqO_ok h2, of_decide_eq_true h3, of_decide_eq_true h4⟩
theorem ty_ins {K : PySem.W.Frag} {H : Hp} {a C dx : Addr} {fs : List (Str × V)} (i : InsC K C) (c : Cls K C) (e : H a = some (.ins C dx fs)) : TyX K H (.ref a) (.ref C) := .base (.ins e c i.ha i.hn i.ht i.hm)
def kitBF (y : String) (x : Str) (b : Bool) : Fx := fun K => decide (PySem.W.kitOne K (.type y) (.ref (He.ga K x)) = some b)
def exm1F (x y : Str) (b : Bool) : Fx := fun K => decide (PySem.W.exmOne K (.ref (He.ga K x)) (.ref (He.ga K y)) = some b)
def sameF (x y m : Str) : Fx := fun K => decide (He.ma K (He.ga K x) m = He.ma K (He.ga K y) m)
/-! ### the same rules with the written part named (for bodies of comprehensions) -/
section
variable {X : Cx} {K : PySem.W.Frag}
theorem op_in_seqK (K : PySem.W.Frag) (h : X.K = K := by rfl) : OpR X (compareOp .In) (rIn K false) := h ▸ op_in_seq
theorem op_notIn_seqK (K : PySem.W.Frag) (h : X.K = K := by rfl) : OpR X (compareOp .NotIn) (rIn K true) := h ▸ op_notIn_seq
theorem ix_listK (K : PySem.W.Frag) (h : X.K = K := by rfl) : IxR X (rIxL K) := h ▸ ix_list
theorem ix_tupK (K : PySem.W.Frag) (h : X.K = K := by rfl) : IxR X (rIxT K) := h ▸ ix_tup
theorem call_lenK (K : PySem.W.Frag) (h : X.K = K := by rfl) : CallR X (.builtin "len") (fun xs H Q => ∃ x n, xs = [x] ∧ LenV K x H n ∧ Q (.int n) H) := h ▸ call_len
theorem pe_fldK (K : PySem.W.Frag) {e : Expr} {f : Str} {pos : Pos} {ta : TE} (he : PE X e ta) (hb : attributeBase e f X.env (eval e X.env) = eval e X.env) (h : X.K = K := by rfl) : PE X (.Attribute e f pos) (tFld K ta f) := h ▸ pe_fld he hb
theorem op_eqDK (K : PySem.W.Frag) (hu : X.A.units + 64 < cLine) (h : X.K = K := by rfl) : OpR X (compareOp .Eq) (rEqD K) := h ▸ op_eqD hu
theorem op_neDK (K : PySem.W.Frag) (hu : X.A.units + 64 < cLine) (h : X.K = K := by rfl) : OpR X (compareOp .NotEq) (rNeD K) := h ▸ op_neD hu
theorem cr_allK (K : PySem.W.Frag) (hc : X.calm = true) (h : X.K = K := by rfl) : CallR X (.builtin "all") (rAll K) := h ▸ cr_all hc
theorem call_reprK (K : PySem.W.Frag) {k : Nat} (hr : Rm k X.A) (h : X.K = K := by rfl) : CallR X (.builtin "repr") (rRepr K) := h ▸ call_repr hr
/-- repr(text) -/
theorem call_repr_str : CallR X (.builtin "repr") (fun xs H Q => ∃ x, xs = [.str x] ∧ (reprText x).length ≤ sizeLine ∧ Q (.str (reprText x)) H) := by
  intro pins s σ H xs us Q I r h
  obtain ⟨i, rfl, hz, q⟩ := h
  obtain ⟨u, rfl, t, rfl⟩ := vals1 r
  exact PySem.P.repr_of_str ⟨.str _, H, I.tok _, ⟨_, rfl⟩, q⟩ hz
end
end L3
set_option Elab.async false
set_option linter.all false
set_option maxRecDepth 100000
set_option maxHeartbeats 4000000
namespace L3
open PySem PySem.Spec PyProof.Rows L2
/-! ### repr of a plain text -/
def okC (c : Nat) : Bool := decide (32 ≤ c) && (decide (c ≤ 126) && (decide (c ≠ 39) && decide (c ≠ 92)))
theorem okC_char : ∀ {c : Nat}, okC c = true → Builtin.Str.reprChar 39 c = [c] := by
  have all : ∀ c, c < 127 → okC c = true → Builtin.Str.reprChar 39 c = [c] := by decide +kernel
  intro c h
  refine all c ?_ h
  have := of_decide_eq_true (Bool.and_eq_true_iff.mp (Bool.and_eq_true_iff.mp h).2).1
  omega
theorem repr_fold : ∀ (l : List Nat) (acc : Array Nat), l.all okC = true → l.foldl (fun out c => out ++ (Builtin.Str.reprChar 39 c).toArray) acc = acc ++ l.toArray
  | [], acc, _ => by simp
  | c :: r, acc, h => by
    obtain ⟨h1, h2⟩ := He.ba (show (okC c && r.all okC) = true from h)
    rw [List.foldl_cons, okC_char h1, repr_fold r _ h2]
    simp
theorem repr_plain {l : List Nat} (h : l.all okC = true) : reprText (SX.S l) = SX.S (39 :: l ++ [39]) := by
  have n39 : (SX.S l).cps.contains 39 = false := by
    cases e : (SX.S l).cps.contains 39 with
    | false => rfl
    | true =>
      have m : 39 ∈ l := by simpa using e
      exact absurd (List.all_eq_true.mp h 39 m) (by decide)
  have q : reprQuote (SX.S l) = 39 := by
    unfold reprQuote
    rw [n39]
    rfl
  unfold reprText
  rw [q]
  have e := repr_fold l #[39] h
  have e2 : (SX.S l).cps.foldl (fun out c => out ++ (Builtin.Str.reprChar 39 c).toArray) #[39] = l.foldl (fun out c => out ++ (Builtin.Str.reprChar 39 c).toArray) #[39] := by simp
  rw [e2, e]
  refine TL.ext_tl ?_
  show (((#[39] ++ l.toArray).push 39).toList) = _
  simp
theorem repr_plain_len {l : List Nat} (h : l.all okC = true) : (reprText (SX.S l)).length = l.length + 2 := by
  rw [repr_plain h, SX.S_len]
  simp
theorem okC_le {l : List Nat} (p : Nat → Bool) (hp : ∀ c, p c = true → okC c = true) (h : l.all p = true) : l.all okC = true := List.all_eq_true.mpr fun c hc => hp c (List.all_eq_true.mp h c hc)
/-! ### a comprehension whose items are not told one by one -/
section
variable {J : It} {n : Nat} {G : Hp → Prop} {Y : Nat → Hp → V → Hp → Prop} {g : TG} {tt : TT} {te : TE} {vs : List Nat} {σ : L2.St} {H1 : Hp} {D : Addr} {Qd : Hp → Prop}
theorem lc_any (w : L2.Walk J n G Y) (I : Nat → List V → Hp → Prop) (hI : ∀ i acc H l, I i acc H → I i acc (upd H D (.lst l))) (i0 : I 0 [] H1) (hn : n ≤ 100000) (hl : ∀ i acc H, I i acc H → acc.length ≤ i) (hG : ∀ i acc H, I i acc H → G H)
    (hs : ∀ (i : Nat) (x : V) (H H' : Hp) (acc : List V) (N : Hp → Prop), i < n → I i acc H → H D = some (.lst acc) → acc.length < sizeLine → Y i H x H' →
      (∀ y H4, H4 D = some (.lst acc) → I (i + 1) (acc ++ [y]) H4 → N (upd H4 D (.lst (acc ++ [y])))) → (∀ H4, H4 D = some (.lst acc) → I (i + 1) acc H4 → N H4) → Turn g tt te vs σ D x H' N)
    (hd : ∀ acc H, I n acc H → H D = some (.lst acc) → Qd H) :
    ∃ W : Nat → Nat → Hp → Prop, (∃ m, W 0 m (upd H1 D (.lst []))) ∧ ∀ i m H, W i m H →
      (J.stop i H ∧ Qd H) ∨ (J.go i H ∧ ∃ Nx : Hp → Prop, (∀ H', Nx H' → ∃ m', m' < m ∧ W (i + 1) m' H') ∧ ∀ x H', J.yld i H x H' → Turn g tt te vs σ D x H' Nx) := by
  refine L2.lc_it w (fun i H => i ≤ n ∧ ∃ acc, I i acc H ∧ H D = some (.lst acc)) ⟨Nat.zero_le _, [], hI _ _ _ _ i0, upd_same⟩ (fun i H _ p => ?_) ?_ (fun H p => ?_)
  · obtain ⟨_, acc, p, _⟩ := p
    exact hG i acc H p
  · rintro i x H H' hi ⟨p1, acc, p2, p3⟩ y
    have := hl _ _ _ p2
    refine hs i x H H' acc _ hi p2 p3 (small_len (by omega)) y (fun y H4 d4 i4 => ⟨hi, _, hI _ _ _ _ i4, upd_same⟩) fun H4 d4 i4 => ⟨hi, _, i4, d4⟩
  · obtain ⟨_, acc, p, d⟩ := p
    exact hd acc H p d
end
/-! ### try, its reading named -/
def tTryOnly (K : PySem.W.Frag) (c : Value) (ts : Addr → Value → Option Addr → TS) (Wout : WX) (tb : WX → TS) : TS := fun D σ H => tb (wOnly K c ts Wout D) D σ H
def tTryTup (K : PySem.W.Frag) (cs : List Value) (i : Nat) (ts : Addr → Value → Option Addr → TS) (tb : WX → TS) : TS := fun D σ H => tb (wTup K cs i ts D) D σ H
section
variable {X : Cx} {x x1 x2 x3 n : Str} {c c1 c2 c3 : Value} {i k3 : Nat} {body suite : List Stmt} {b₀ : Stmt} {np p1 p2 p3 tp pos pos' : Pos} {tb : WX → TS} {ts : Addr → Value → Option Addr → TS} {Wout : WX}
theorem ps_tryO (hs : X.stack = X.env :: X.outer) (hf : X.env.frame = some X.env.locals) (hc : Names X x c) (tk : Takes X Wout)
    (hb : ∀ (W : WX) (pn : List (Addr × Obj)) (xe : Value → Shared → Prop), Takes (X.tr pn xe) W → PassesOwn (model X.prog X.w) X.A X.env xe → PSs (X.tr pn xe) body (tb W))
    (hsu : ∀ (a : Addr) (oe : Obj) (cls : Value) (d : Option Addr) (pn : List (Addr × Obj)), Zc cls d oe → (∃ vs, oe.data = .fields vs) → PSs (X.suite a ((a, oe) :: pn)) (b₀ :: suite) (ts a cls d)) :
    PS X (.Try body [.ExceptHandler (some (.Name x np)) none (b₀ :: suite) pos'] [] [] pos) (tTryOnly X.K c ts Wout tb) := ps_try_only hs hf hc tk hb hsu
theorem ps_tryT (hs : X.stack = X.env :: X.outer) (hf : X.env.frame = some X.env.locals) (hN : X.N.Nodup) (hi : X.N[i]? = some n) (hln : X.env.kindOf n = some .local)
    (m1 : X.mg x1 = some c1) (m2 : X.mg x2 = some c2) (m3 : X.mg x3 = some c3)
    (hb : ∀ (W : WX) (pn : List (Addr × Obj)) (xe : Value → Shared → Prop), Takes (X.tr pn xe) W → PassesOwn (model X.prog X.w) X.A X.env xe → PSs (X.tr pn xe) body (tb W))
    (hsu : ∀ (a : Addr) (oe : Obj) (cls : Value) (d : Option Addr) (pn : List (Addr × Obj)), Zc cls d oe → (∃ vs, oe.data = .fields vs) → PSs (X.suite a ((a, oe) :: pn)) (b₀ :: suite) (ts a cls d))
    (g1 : Gl X x1 := by rfl) (g2 : Gl X x2 := by rfl) (g3 : Gl X x3 := by rfl) (d1 : (x1 == ("__debug__" : Str)) = false := by decide) (d2 : (x2 == ("__debug__" : Str)) = false := by decide) (d3 : (x3 == ("__debug__" : Str)) = false := by decide) :
    PS X (.Try body [.ExceptHandler (some (.Tuple [.Name x1 p1, .Name x2 p2, .Name x3 p3] k3 tp)) (some n) (b₀ :: suite) pos'] [] [] pos) (tTryTup X.K [c1, c2, c3] i ts tb) := ps_try_tup hs hf hN hi hln m1 m2 m3 hb hsu g1 g2 g3 d1 d2 d3
end
end L3
set_option Elab.async false
set_option linter.all false
set_option maxRecDepth 100000
set_option maxHeartbeats 4000000
/-! ### sorted(xs) of whole numbers, xs a list or a tuple -/
namespace SrtA
open PySem PyProof.Rows Srt SrtO
section
variable {prog : Program} {w : World} {A : Around} {E : Value → Shared → Prop} {s : Shared}
theorem collect_tup {l : Addr} {vs : List Value} {Q : List Value → Shared → Prop} (hl : s.heap.IsTuple l vs.toArray)
    (h : Q vs { s with heap := (s.heap.push (seqObj "list" #[] 0)).update s.heap.objs.size (Obj.mapSeq (· ++ vs.toArray)) }) (hsz : vs.length ≤ sizeLine) :
    wpAny (model prog w) A (collect (.ref l)) Q E s := by
  obtain ⟨o, ho, hc, n, hd⟩ := id hl
  unfold collect
  refine wpAny_bind (wpAny_runValue (codeAny_builtin entry_proto_collect' ?_))
  show wpAny _ _ (do again (.builtin "list.__iadd__" ⟨[← newList [], .ref l], []⟩)) _ _ s
  refine wpAny_bind (wpAny_newList (wpAny_pure ⟨Code.quiet_builtin _ (by decide +kernel), codeAny_builtin entry_list_iadd' ?_⟩))
  show wpAny _ _ (Builtin.List.listExtendWith (.ref s.heap.objs.size) (.ref l) (.ref s.heap.objs.size)) _ _ { s with heap := s.heap.push (seqObj "list" #[] 0) }
  unfold Builtin.List.listExtendWith
  have ho' : (s.heap.push (seqObj "list" #[] 0)).get? l = some o := Heap.get?_push_of_some _ ho
  refine wpAny_bind (wpAny_typeOf (T := "tuple") ⟨o, ho', hc⟩ ?_)
  have ht : (Value.type "tuple" == Value.type "tuple") = true := by rfl
  rw [if_pos (by rw [ht]; simp)]
  refine wpAny_bind (listItems_at ho' hd ?_)
  refine wpAny_bind (listItems_at (xs := #[]) (n := 0) (Heap.get?_push_size _ rfl) rfl ?_)
  rw [if_neg (by simp)]
  refine wpAny_bind (listUpdate_at (xs := #[]) (n := 0) (Heap.get?_push_size _ rfl) rfl ?_ (Nat.zero_le _) (by show (#[] ++ vs.toArray).size ≤ sizeLine + 1; simp only [Array.size_append, List.size_toArray, List.length_nil]; omega))
  refine wpAny_pure ?_
  show wpAny (model prog w) A (do
      let o ← load s.heap.objs.size
      match o.data with
      | .seq xs _ => pure xs.toList
      | _ => unsupported "internal:collect") Q E { s with heap := (s.heap.push (seqObj "list" #[] 0)).update s.heap.objs.size (Obj.mapSeq (· ++ vs.toArray)) }
  refine wpAny_bind (wpAny_load (get?_update_seq (Heap.get?_push_size _ rfl) _) ?_)
  show wpAny _ _ (pure ((#[] : Array Value) ++ vs.toArray).toList) Q E _
  rw [show ((#[] : Array Value) ++ vs.toArray).toList = vs by simp]
  exact wpAny_pure h
theorem sorted_tup {l : Addr} {vs : List Value} {ltv : Value → Value → Bool} {Q : Value → Shared → Prop} (O : Swo ltv) (hl : s.heap.IsTuple l vs.toArray) (hz : vs.length ≤ sizeLine)
    (hS : 2 ≤ vs.length → ∀ (h₁ : Heap) (a : Addr), h₁.get? a = some (seqObj "list" vs.toArray 0) → (∀ b o, s.heap.get? b = some o → b ≠ a ∧ h₁.get? b = some o) → SortableO prog w A.in1.in1 { s with heap := h₁ } a vs ltv)
    (h : ∀ out : List Value, Srtd ltv out → Stb ltv out vs → Q (.ref (s.heap.objs.size + 1)) { s with heap := sortedAll s.heap vs out.toArray }) :
    wpAny (model prog w) A (call (.builtin "sorted") [.ref l]) Q E s := by
  refine Calls.call_function_entry kind_sorted plain_sorted entry_sorted (args_sorted1 _) ?_
  unfold Builtin.«sorted»
  refine wpAny_bind (m := checkCount "sorted" 1 1 _) (wpAny_pure ?_)
  refine wpAny_bind (collect_tup hl ?_ hz)
  refine wpAny_bind (wpAny_newList ?_ hz)
  have hsz : ((s.heap.push (seqObj "list" #[] 0)).update s.heap.objs.size (Obj.mapSeq (· ++ vs.toArray))).objs.size = s.heap.objs.size + 1 := by
    rw [Heap.size_update, size_push']
  have hoL : (((s.heap.push (seqObj "list" #[] 0)).update s.heap.objs.size (Obj.mapSeq (· ++ vs.toArray))).push (seqObj "list" vs.toArray 0)).get? (s.heap.objs.size + 1) = some (seqObj "list" vs.toArray 0) := by
    rw [← hsz]; exact Heap.get?_push_size _ rfl
  have keep : ∀ b o, s.heap.get? b = some o → b ≠ s.heap.objs.size + 1 ∧ (((s.heap.push (seqObj "list" #[] 0)).update s.heap.objs.size (Obj.mapSeq (· ++ vs.toArray))).push (seqObj "list" vs.toArray 0)).get? b = some o := fun b o q => by
    have hlt : b < s.heap.objs.size := Heap.lt_size q
    refine ⟨Nat.ne_of_lt (Nat.lt_succ_of_lt hlt), Heap.get?_push_of_some _ ?_⟩
    rw [Heap.get?_update_ne _ _ _ _ (Nat.ne_of_lt hlt)]
    exact Heap.get?_push_of_some _ q
  show wpAny _ _ _ _ _ { s with heap := ((s.heap.push (seqObj "list" #[] 0)).update s.heap.objs.size (Obj.mapSeq (· ++ vs.toArray))).push (seqObj "list" vs.toArray 0) }
  rw [hsz]
  refine wpAny_bind (wpAny_holding (wpAny_call_entry slot_list_sort ⟨_, hoL, rfl⟩ entry_list_sort (list_sort_ord O hoL hz (fun h2 => hS h2 _ _ hoL keep) fun out hs hb => ⟨_, rfl, ?_⟩) (args_list_sort _)))
  exact wpAny_pure ⟨_, rfl, h out hs hb⟩
end
end SrtA
namespace L3
open PySem PySem.Spec PyProof.Rows L2
/-- the numbers in order -/
def srt (ns : List Int) : List Int := ns.mergeSort (fun a b => decide (a ≤ b))
theorem srt_perm (ns : List Int) : (srt ns).Perm ns := List.mergeSort_perm ns _
theorem srt_sorted (ns : List Int) : (srt ns).Pairwise (· ≤ ·) := by
  have h := List.pairwise_mergeSort (le := fun a b : Int => decide (a ≤ b)) (fun a b c h1 h2 => decide_eq_true (Int.le_trans (of_decide_eq_true h1) (of_decide_eq_true h2))) (fun a b => by
    rcases Int.le_total a b with h | h
    · rw [decide_eq_true h]; rfl
    · rw [decide_eq_true h, Bool.or_true]) ns
  exact h.imp fun h => of_decide_eq_true h
theorem sorted_uniq : ∀ {xs ys : List Int}, xs.Perm ys → xs.Pairwise (· ≤ ·) → ys.Pairwise (· ≤ ·) → xs = ys
  | [], ys, p, _, _ => p.nil_eq
  | x :: xs, [], p, _, _ => absurd p.symm.nil_eq (by simp)
  | x :: xs, y :: ys, p, hx, hy => by
    have e : x = y := by
      have h1 : x ∈ y :: ys := p.subset List.mem_cons_self
      have h2 : y ∈ x :: xs := p.symm.subset List.mem_cons_self
      have l1 : y ≤ x := by
        rcases List.mem_cons.mp h1 with h | h
        · omega
        · exact (List.pairwise_cons.mp hy).1 x h
      have l2 : x ≤ y := by
        rcases List.mem_cons.mp h2 with h | h
        · omega
        · exact (List.pairwise_cons.mp hx).1 y h
      omega
    subst e
    rw [sorted_uniq (List.perm_cons x |>.mp p) (List.pairwise_cons.mp hx).2 (List.pairwise_cons.mp hy).2]
theorem srt_eq {xs ns : List Int} (p : xs.Perm ns) (h : xs.Pairwise (· ≤ ·)) : xs = srt ns := sorted_uniq (p.trans (srt_perm ns).symm) h (srt_sorted ns)
/-- sorted(xs), xs a list or a tuple of whole numbers -/
def rSortedA (K : PySem.W.Frag) : List V → Hp → VK → Prop := fun vs H Q => ∃ (a : Addr) (ns : List Int), vs = [V.ref a] ∧ (SqL K H a (ns.map V.int) ∨ SqT K H a (ns.map V.int)) ∧ ∀ p : Addr, H p = none → Q (.ref p) (upd H p (.lst ((srt ns).map V.int)))
section
variable {X : Cx}
theorem cr_sortedA (K : PySem.W.Frag) (hK : X.K = K := by rfl) : CallR X (.builtin "sorted") (rSortedA K) := by
  subst hK
  intro pins s σ H vs us Q I r h
  obtain ⟨a, ns, rfl, hs | hs, q⟩ := h
  · exact cr_sortedI pins s σ H [.ref a] us Q I r ⟨a, ns, rfl, hs, fun ns' p h1 h2 hp => by rw [srt_eq h1 h2]; exact q p hp⟩
  · obtain ⟨its, rv, hl, hz⟩ := I.tuple hs
    rw [Vals.ref1 r]
    have hi := rv.ints
    refine SrtA.sorted_tup SrtO.swo_int hl (by rw [← rv.length]; exact hz) (fun h2 h₁ a' _ _ => SrtO.ints_sortable hi h2) fun out h1 h2 => ?_
    obtain ⟨k1, k2, k3⟩ := SrtO.ints_out hi h1 h2
    obtain ⟨ep, he'⟩ := PyProof.Rows.sortedAll_at s.heap its out.toArray
    have hlen : ((out.map SrtO.iv).map V.int).length ≤ sizeLine := by
      rw [List.length_map, k2.length_eq]
      rw [List.length_map] at hz
      exact hz
    have q2 := q (s.heap.objs.size + 1) (I.hok.fresh (Nat.le_succ _))
    rw [← srt_eq k2 k3] at q2
    exact ⟨.ref _, upd H (s.heap.objs.size + 1) (.lst ((out.map SrtO.iv).map V.int)), I.laid (t' := s.toks) (fun _ _ => PyProof.Rows.sortedAll_old) (Nat.le_succ _) ⟨hlen, out, ep, vals_of_ints k1, he'⟩, rfl, q2⟩
end
/-! ### what is a list or a tuple, walked; zip of tuples; targets with the written part named -/
section
variable {X : Cx} {K : PySem.W.Frag}
def iSeq (K : PySem.W.Frag) (tl : TE) : TI := fun σ H R => iList K tl σ H R ∨ iTup K tl σ H R
theorem pi_seq {tg l : Expr} {tl : TE} (hl : PE X l tl) : PI X tg l (iSeq X.K tl) := ⟨fun pins s σ H R I h => h.elim ((pi_list hl).run pins s σ H R I) ((pi_tup hl).run pins s σ H R I)⟩
theorem pg_tupK (K : PySem.W.Frag) {es : List Expr} {k : Nat} {t : TGs} {n : Nat} {pos : Pos} (hc : X.calm = true) (h : PGs X es t)
    (hn : (assignEach es X.env).length = n := by rfl) (hst : (assignEach es X.env).findIdx? (·.1) = none := by rfl) (hK : X.K = K := by rfl) : PG X (.Tuple es k pos) (gTup K n t) := hK ▸ pg_tup hc h hn hst
theorem walk_zipT {a b : Addr} {xs ys : List V} {n : Nat} (hn : n = min xs.length ys.length) : L2.Walk (RZ.ItzT K a b) n (fun H => SqT K H a xs ∧ SqT K H b ys) (L2.YPair (fun i => xs[i]?) (fun i => ys[i]?)) := by
  subst hn
  refine ⟨fun i _ hi q => ?_, fun _ q => ⟨xs, ys, q.1, q.2, by omega⟩, fun i H v H' _ q y => ?_⟩
  · have h1 : i < xs.length := by omega
    have h2 : i < ys.length := by omega
    exact ⟨xs, ys, xs[i], ys[i], q.1, q.2, by simp [h1], by simp [h2]⟩
  · obtain ⟨T, x, z, h1, h2, h3, h4, h5⟩ := y
    exact ⟨T, x, z, h1, h2, h3, h4 xs q.1, h5 ys q.2⟩
theorem inV_int (d : Int) (ns : List Int) : inV (.int d) (ns.map V.int) = decide (d ∈ ns) := by
  induction ns with
  | nil => rfl
  | cons n r ih =>
    show (eqV (.int n) (.int d) || inV (.int d) (r.map V.int)) = _
    rw [ih]
    have e : eqV (.int n) (.int d) = decide (d = n) := by
      show decide (n = d) = _
      exact decide_eq_decide.mpr ⟨fun h => h.symm, fun h => h.symm⟩
    rw [e]
    by_cases h : d = n
    · simp [h]
    · simp [h]
theorem flat_ints (ns : List Int) : (ns.map V.int).all flatV = true := by
  induction ns with
  | nil => rfl
  | cons n r ih => exact (Bool.and_eq_true_iff.mpr ⟨rfl, ih⟩)
end
theorem isM_nat (n : Nat) : isM (.int (n : Int)) = true := decide_eq_true (Int.natCast_nonneg n)
theorem isM_no {n : Nat} {C : Prop} (h : isM (.int (n : Int)) = false) : C := absurd ((isM_nat n).symm.trans h) Bool.noConfusion
end L3
set_option Elab.async false
set_option linter.all false
set_option maxRecDepth 100000
set_option maxHeartbeats 4000000
namespace L3
open PySem PySem.Spec PyProof.Rows L2
/-! ### sorted(d), d a dict of whole numbers, any many; list.sort of intsA at the model's level -/
section
variable {X : Cx}
def rSortedDI : List V → Hp → VK → Prop := fun xs H Q => ∃ (a : Addr) (kvs : List (Key × V)) (ks : List Int), xs = [.ref a] ∧ Rd H a (.dK kvs) ∧ kvs.map (·.1) = ks.map Sum.inl ∧ ∀ p : Addr, H p = none → Q (.ref p) (upd H p (.lst ((srt ks).map V.int)))
theorem call_sortedDA (cm : X.calm = true) : CallR X (.builtin "sorted") rSortedDI := by
  intro pins s σ H xs us Q I r q
  obtain ⟨a, kvs, ks, rfl, hd, kk, q⟩ := q
  obtain ⟨u, rfl, rx⟩ := vals1 r
  cases rx
  obtain ⟨zl, lo, vs, rel, dd⟩ := dk_rd I.hok hd
  obtain ⟨ep, hat⟩ := dd.dictAt
  have kv : vs.map (·.1) = ks.map Sum.inl := rel.keys.symm.trans kk
  have vl : vs.length = ks.length := by
    have := congrArg List.length kv
    simpa using this
  have sz : vs.length ≤ sizeLine := by rw [← rel.length]; exact zl
  refine Calls.call_function_entry kind_sorted plain_sorted entry_sorted (args_sorted1 _) ?_
  unfold Builtin.«sorted»
  refine wpAny_bind (m := checkCount "sorted" 1 1 _) (wpAny_pure ?_)
  refine wpAny_bind (PySem.W.kdu_collect (A := X.A.in1) (PySem.W.kdl_dict (knd := mixKind X.prog X.w) (kvs := vs) (ep := ep) lo) (I.ok.hd cm) hat sz fun h1 tk acc keep facc => ?_)
  have la : acc.toList.length = ks.length := by rw [Array.length_toList, facc.1, vl]
  have iv : IntsAre acc.toList ks := ints_each la fun j v e => by
    obtain ⟨k, x, e1, e2⟩ := facc.2 j v (by rw [← Array.getElem?_toList]; exact e)
    have f3 : (vs.map (·.1))[j]? = some k := by rw [List.getElem?_map, e1]; rfl
    rw [kv, List.getElem?_map] at f3
    obtain ⟨y, f4, f5⟩ := Option.map_eq_some_iff.mp f3
    subst f5
    rcases keyIs_shape (show keyIs (Sum.inl y) v = true from e2) with ⟨i, t, ek, ev⟩ | ⟨z, t, ek, ev⟩
    · cases ek
      exact ⟨y, t, f4, ev⟩
    · cases ek
  have J : Inv X pins σ H { s with heap := h1, toks := tk } := I.kept keep
  have l1 : acc.toList.length ≤ sizeLine := by rw [la, ← vl]; exact sz
  refine wpAny_bind (wpAny_newList ?_ l1)
  have at1 : (h1.push (seqObj "list" acc.toList.toArray 0)).get? h1.objs.size = some (seqObj "list" acc.toList.toArray 0) := Heap.get?_push_size _ rfl
  show wpAny _ _ _ _ _ { s with heap := h1.push (seqObj "list" acc.toList.toArray 0), toks := tk }
  refine wpAny_bind (wpAny_holding (wpAny_call_entry slot_list_sort ⟨_, at1, rfl⟩ entry_list_sort
    (SrtO.list_sort_ord (s := { s with heap := h1.push (seqObj "list" acc.toList.toArray 0), toks := tk }) SrtO.swo_int at1 l1 (fun h2 => SrtO.ints_sortable iv h2) fun out g1 g2 => ⟨_, rfl, ?_⟩) (args_list_sort _)))
  obtain ⟨k1, k2, k3⟩ := SrtO.ints_out iv g1 g2
  obtain ⟨e2, at2⟩ := sortedHeap_at (vs := acc.toList) (out := out.toArray) at1
  have ln : ((srt ks).map V.int).length ≤ sizeLine := by
    rw [List.length_map, (srt_perm ks).length_eq, ← la]
    exact l1
  have q2 := q h1.objs.size (J.hok.fresh (Nat.le_refl _))
  have es := srt_eq k2 k3
  refine wpAny_pure ⟨_, rfl, .ref h1.objs.size, _, J.laid (t' := tk) (fun b u e => ?_) (Nat.le_refl _) (show ObjOk X.prog X.w _ _ _ (.lst ((srt ks).map V.int)) from ⟨ln, out, e2, by rw [← es]; exact vals_of_ints k1, at2⟩), rfl, q2⟩
  have lt : b < h1.objs.size := Heap.lt_size e
  rw [sortedHeap_old (Nat.ne_of_lt lt) (by rw [size_push']; exact Nat.lt_succ_of_lt lt)]
  exact Heap.get?_push_of_some _ e
end
/-! ### set(xs), xs a list or a tuple of whole numbers; sorted of it -/
section
variable {P : Program} {w : World} {A : Around} {E : Value → Shared → Prop} {s : Shared}
abbrev newSet (w : World) : Obj := { cls := .type "set", dict := none, data := .set #[] 0 (.fresh 0 0 (!w.params.followText "set-order")) }
theorem call_set_lstI {l : Addr} {its : Array Value} (ns : List Int) {Q : Value → Shared → Prop} (calm : A.handled = none) (isl : s.heap.IsList l its) (intsA : IntsAre its.toList ns) (few : ns.length + 1 < scanBound)
    (fin : ∀ (h' : Heap) (tk c : Nat), SetR w h' s.heap.objs.size (fun j => decide (j ∈ ns)) c → c ≤ ns.length → (∀ b o, s.heap.get? b = some o → h'.get? b = some o) → Q (.ref s.heap.objs.size) { s with heap := h', toks := tk }) :
    wpAny (model P w) A (call (.type "set") [.ref l]) Q E s := by
  have size : its.size = ns.length := by
    have q := IntsAre.length intsA
    rwa [Array.length_toList] at q
  obtain ⟨c, tl, k1⟩ := F.called_set.mro
  have k2 := F.called_set.made
  have k3 := F.called_set.sub
  refine wpAny_call (codeAny_of_tree ?_)
  show wpAny _ _ (callAny (.type "set") _) _ _ _
  refine wpAny_pure ⟨Code.quiet_builtin _ (by decide +kernel), codeAny_builtin F.entry_type_call ?_⟩
  rw [Around.under_plain (weight_type_call_type "set" [.ref l] []) rfl]
  have k4 := F.called_set.notType
  have k5 := F.called_set.canCreate
  have k6 := F.typeCall_set_1 (.ref l)
  repeat (any_goals (first | assumption | wp_step))
  refine codeAny_mono (code_set_led1 (.ref l) (E := E) (Q₁ := fun obj z => obj = .ref s.heap.objs.size ∧ z = { s with heap := s.heap.push (newSet w) }) ⟨rfl, rfl⟩) fun r z hr => ?_
  cases r with
  | error e => exact hr
  | ok fl =>
    cases fl with
    | ret obj =>
      obtain ⟨rfl, rfl⟩ := hr
      have there : (s.heap.push (newSet w)).get? s.heap.objs.size = some (newSet w) := Heap.get?_push_size _ rfl
      have ty : Shared.TypeIs { s with heap := s.heap.push (newSet w) } (.ref s.heap.objs.size) "set" := ⟨_, there, rfl⟩
      have k7 := F.called_set.init.lookup
      have k8 := F.called_set.init.bind (.ref s.heap.objs.size)
      repeat (any_goals (first | assumption | wp_step))
      refine codeAny_mono (codeAny_call_builtin (R := wants (fun r z => r = .none ∧ ∃ h' tk c, z = { s with heap := h', toks := tk } ∧ SetR w h' s.heap.objs.size (fun j => decide (j ∈ ns)) c ∧ c ≤ ns.length ∧ (∀ b o, s.heap.get? b = some o → h'.get? b = some o)) E) F.called_set.init.plain F.entry_set_init (check_set_init_1 ty ?_)) fun r₂ z hr₂ => ?_
      · obtain ⟨⟨oc, od, oda, osl⟩, at0, e1, nl, e2⟩ := isl
        simp only at e1 e2
        subst e1; subst e2
        have at1 : (s.heap.push (newSet w)).get? l = some { cls := .type "list", dict := od, data := .seq its nl, slots := osl } := Heap.get?_push_of_some _ at0
        have m1 := F.sub_list_set
        have m2 := F.sub_list_frozenset
        have m3 : (Value.type "list" == Value.type "dict") = false := by decide
        have m4 : (s.heap.push (newSet w)).IsList l its := ⟨_, at1, rfl, nl, rfl⟩
        unfold Builtin.«set.__init__» noKeywords Builtin.Frozenset.updateFrom
        generalize hPI : pyIter = PI
        wp_walk
        subst hPI
        refine wpAny_pyIter_list m4 ?_
        refine wpAny_bind (wpAny_runValue ?_)
        have lt : l < s.heap.objs.size := Heap.lt_size at0
        have calm3 : A.in1.in1.in1.handled = none := by simp [calm]
        have ne1 : l ≠ (s.heap.push (newSet w)).objs.size := by
          rw [Heap.size_push]
          exact Nat.ne_of_lt (Nat.lt_succ_of_lt lt)
        have ne2 : s.heap.objs.size ∉ [(s.heap.push (newSet w)).objs.size, l] := by
          rw [Heap.size_push]
          intro hm
          rcases List.mem_cons.mp hm with hm | hm
          · exact Nat.ne_of_lt (Nat.lt_succ_self _) hm
          · exact Nat.ne_of_gt lt (List.mem_singleton.mp hm)
        have vals : ∀ (i : Nat) (v : Value), its[i]? = some v → ∃ k t, ns[i]? = some k ∧ v = .int k t := fun i v hv => by
          have hi : i < ns.length := by rw [← size]; exact (Array.getElem?_eq_some_iff.mp hv).1
          obtain ⟨t, e⟩ := IntsAre.int_at intsA i v (by rw [Array.getElem?_toList]; exact hv)
          refine ⟨ns[i], t, List.getElem?_eq_getElem hi, ?_⟩
          rw [e, List.getD_eq_getElem?_getD, List.getElem?_eq_getElem hi] <;> rfl
        refine set_update_ints ((Walks.list calm3 _ l ne1 its).toS) s.heap.objs.size ne2 ns size few vals (its.size - 0) 0 _ (by omega) (Nat.zero_le _) ⟨⟨_, Heap.get?_push_size _ rfl, rfl, rfl⟩, (m4.push _)⟩ ?g1 ?g2
        case g1 =>
          have at2 : ((s.heap.push (newSet w)).push { cls := .type "list_iterator", data := .fields #[.ref l, .int 0 0] }).get? s.heap.objs.size = some (newSet w) := Heap.get?_push_of_some _ there
          exact ⟨0, Nat.le_refl 0, setR_new_at at2⟩
        case g2 =>
          intro z c2 mv lc sr
          obtain ⟨h2, gn, dr, tk2, os2⟩ := z
          have e1 : gn = s.gens := mv.gens
          have e2 : dr = s.drawn := mv.drawn
          have e3 : os2 = s.os := mv.os
          subst e1; subst e2; subst e3
          show wpAny _ _ _ _ _ _
          refine wpAny_pure ?_
          show wpAny _ _ (ret Value.none) _ _ _
          rw [size] at lc
          refine wpAny_pure ⟨rfl, h2, tk2, c2, rfl, sr, lc, fun b o e => ?_⟩
          have l0 : b < s.heap.objs.size := Heap.lt_size e
          refine mv.heap b o (fun hm => ?_) (Heap.get?_push_of_some _ (Heap.get?_push_of_some _ e))
          rcases List.mem_cons.mp hm with hm | hm
          · exact Nat.ne_of_lt l0 hm
          · have e9 := List.mem_singleton.mp hm
            rw [Heap.size_push] at e9
            exact Nat.ne_of_lt (Nat.lt_succ_of_lt l0) e9
      · cases r₂ with
        | error e => exact hr₂
        | ok fl₂ =>
          cases fl₂ with
          | ret r =>
            obtain ⟨rfl, h', tk, c', rfl, sr, lc, kp⟩ := hr₂
            repeat (any_goals (first | assumption | wp_step))
            exact fin _ _ _ sr lc kp
          | _ => exact hr₂.elim
    | _ => exact hr.elim
/-- sorted(x), x a set of whole numbers -/
theorem sorted_setA {a : Addr} {S : Int → Bool} {n : Nat} {Q : Value → Shared → Prop} (R : SetR w s.heap a S n) (calm : A.handled = none)
    (fin : ∀ z p (out : List Value) (c : Nat) (ns : List Int), (∀ b o, s.heap.get? b = some o → z.heap.get? b = some o) → z.gens = s.gens → z.os = s.os → s.heap.objs.size ≤ p →
      z.heap.get? p = some (seqObj "list" out.toArray c) → IntsAre out ns → ns.Pairwise (· < ·) → (∀ k, k ∈ ns ↔ S k = true) → ns.length ≤ sizeLine ∧ ns.length = n → Q (.ref p) z) :
    wpAny (model P w) A (call (.builtin "sorted") [.ref a]) Q E s := by
  obtain ⟨o, es, ep, t, ho, hex, hd, g, nd, hm, hb, hf, hn, hr, hl⟩ := R
  refine Calls.call_function_entry kind_sorted plain_sorted entry_sorted (args_sorted1 _) ?_
  unfold Builtin.«sorted»
  refine wpAny_bind (m := checkCount "sorted" 1 1 _) (wpAny_pure ?_)
  refine wpAny_bind (collect_set (A := A.in1) calm ⟨o, ho, hex.1, hd⟩ hf hb hr hl fun z1 vs keep zl g1 o1 pm => ?_)
  have vn : vs.length = n := by rw [pm.length_eq, List.length_map, Array.length_toList]; exact hn
  have iv : IntsAre vs (vs.map Builtin.Re.reRawOf) := ints_of vs fun v hv => by
    obtain ⟨e, he, q⟩ := List.mem_map.mp (pm.mem_iff.mp hv)
    obtain ⟨k, tk, h1, _⟩ := g e he
    exact ⟨k, tk, by rw [← q]; exact h1⟩
  have pk : (vs.map Builtin.Re.reRawOf).Perm (es.toList.map keyOf) := by
    have := pm.map Builtin.Re.reRawOf
    rwa [List.map_map] at this
  have lz : vs.length ≤ sizeLine := by
    rw [vn, sizeLine_eq, ← hn]
    unfold scanBound at hb
    omega
  refine wpAny_bind (wpAny_newList ?_ lz)
  have at1 : (z1.heap.push (seqObj "list" vs.toArray 0)).get? z1.heap.objs.size = some (seqObj "list" vs.toArray 0) := Heap.get?_push_size _ rfl
  refine wpAny_bind (wpAny_holding (wpAny_call_entry slot_list_sort ⟨_, at1, rfl⟩ entry_list_sort (SrtO.list_sort_ord SrtO.swo_int at1 lz (fun h2 => SrtO.ints_sortable iv h2) fun out q1 q2 => ⟨_, rfl, ?_⟩) (args_list_sort _)))
  obtain ⟨k1, k2, k3⟩ := SrtO.ints_out iv q1 q2
  obtain ⟨c, at2⟩ := sortedHeap_at (vs := vs) (out := out.toArray) at1
  have pn : (out.map SrtO.iv).Perm (es.toList.map keyOf) := k2.trans pk
  refine wpAny_pure ⟨_, rfl, fin _ z1.heap.objs.size out c (out.map SrtO.iv) (fun b u e => ?_) g1 o1 zl at2 k1 (lt_of_le_nodup _ k3 (pn.nodup_iff.mpr nd)) (fun k => by rw [pn.mem_iff, ← hm k]) ?_⟩
  · have q := keep b u e
    have lt := Heap.lt_size q
    show (sortedHeap (z1.heap.push (seqObj "list" vs.toArray 0)) z1.heap.objs.size vs out.toArray).get? b = some u
    rw [sortedHeap_old (Nat.ne_of_lt lt) (by rw [size_push']; exact Nat.lt_succ_of_lt lt)]
    exact Heap.get?_push_of_some _ q
  · rw [pn.length_eq, ← pk.length_eq, List.length_map]
    exact ⟨lz, vn⟩
end
section
variable {X : Cx}
/-- set(xs) -/
def rSetI (w : World) (K : PySem.W.Frag) : List V → Hp → VK → Prop := fun xs H Q => ∃ (a : Addr) (ns : List Int), xs = [.ref a] ∧ (SqL K H a (ns.map V.int) ∨ SqT K H a (ns.map V.int)) ∧ ns.length ≤ 4000 ∧ ∀ p n, H p = none → n ≤ ns.length → Q (.ref p) (upd H p (SetO w p (fun j => decide (j ∈ ns)) n))
theorem cr_setI (K : PySem.W.Frag) (cm : X.calm = true) (hK : X.K = K := by rfl) : CallR X (.type "set") (rSetI X.w K) := by
  subst hK
  intro pins s σ H xs us Q I r h
  obtain ⟨a, ns, rfl, hs, few, q⟩ := h
  rw [Vals.ref1 r]
  have done : ∀ (h' : Heap) (tk c : Nat), SetR X.w h' s.heap.objs.size (fun j => decide (j ∈ ns)) c → c ≤ ns.length → (∀ b o, s.heap.get? b = some o → h'.get? b = some o) → EP X pins σ Q (.ref s.heap.objs.size) { s with heap := h', toks := tk } := fun h' tk c R lc keep =>
    ⟨.ref _, upd H s.heap.objs.size (SetO X.w s.heap.objs.size (fun j => decide (j ∈ ns)) c), I.laid (t' := tk) keep (Nat.le_refl _) (setO_new R), rfl, q _ c (I.hok.fresh (Nat.le_refl _)) lc⟩
  have sb : ns.length + 1 < scanBound := by unfold scanBound; omega
  rcases hs with hs | hs
  · obtain ⟨its, rv, pl, hz⟩ := I.list hs
    exact call_set_lstI ns (I.ok.hd cm) pl.isList (by simpa using ints_of_vals rv) sb done
  · obtain ⟨its, rv, pl, hz⟩ := I.tuple hs
    exact call_set_tupI ns (I.ok.hd cm) (show s.heap.IsTuple a its.toArray from pl) (by simpa using ints_of_vals rv) sb done
def rSortedS (w : World) : List V → Hp → VK → Prop := fun vs H Q => ∃ (a : Addr) (S : Int → Bool) (n : Nat), vs = [V.ref a] ∧ H a = some (SetO w a S n) ∧
  ∀ (ns : List Int) (p : Addr), ns.Pairwise (· < ·) → (∀ k : Int, k ∈ ns ↔ S k = true) → ns.length = n → H p = none → Q (.ref p) (upd H p (.lst (ns.map V.int)))
theorem cr_sortedSA (cm : X.calm = true) : CallR X (.builtin "sorted") (rSortedS X.w) := by
  intro pins s σ H vs us Q I r h
  obtain ⟨a, S, n, rfl, ha, q⟩ := h
  have R := setO_get I ha
  rw [Vals.ref1 r]
  refine sorted_setA R (I.ok.hd cm) fun z p out c ns keep g o hp hg hi hs hm hl => ?_
  have ln : (ns.map V.int).length ≤ sizeLine := by rw [List.length_map]; exact hl.1
  have hn : H p = none := I.hok.fresh hp
  have J : Inv X pins σ (upd H p (.lst (ns.map V.int))) { s with heap := z.heap, gens := z.gens, drawn := z.drawn, toks := z.toks } :=
    I.call (ch := []) (Un.laid keep hp hn) (I.hok.laid keep hp ⟨ln, out, c, vals_of_ints hi, hg⟩) (by rw [g]; exact I.bare) (fun _ z => nomatch z)
  have e : z = { s with heap := z.heap, gens := z.gens, drawn := z.drawn, toks := z.toks } := by
    cases z; cases s; cases o; rfl
  rw [e]
  exact ⟨.ref p, _, J, rfl, q ns p hs hm hl.2 hn⟩
end
end L3
set_option Elab.async false
set_option linter.all false
set_option maxRecDepth 100000
set_option maxHeartbeats 4000000
/-! ### ranges of whole numbers of any size -/
namespace LR
open PySem PySem.Builtin.Range
theorem own_l : Manifest.owners.lookup (String.ofList ['r', 'o', 't', 'a', 'r', 'e', 't', 'i', '_', 'e', 'g', 'n', 'a', 'r', 'g', 'n', 'o', 'l'].reverse) = some Manifest.sig_longrange_iterator := by kernel_rfl
theorem slot_l_next : Slot "longrange_iterator" "__next__" "longrange_iterator.__next__" :=
  .of (owner := "longrange_iterator") (n := "__next__") (by rw [typeLookup_type, builtinLookup_eq_fast]; kernel_rfl) (by decide +kernel) (by decide +kernel) (by decide +kernel) (by first | exact .inl (by decide +kernel) | exact .inr (by decide +kernel)) (by rw [isSubtype_type]; kernel_rfl)
theorem slot_l_iter : Slot "longrange_iterator" "__iter__" "longrange_iterator.__iter__" :=
  .of (owner := "longrange_iterator") (n := "__iter__") (by rw [typeLookup_type, builtinLookup_eq_fast]; kernel_rfl) (by decide +kernel) (by decide +kernel) (by decide +kernel) (by first | exact .inl (by decide +kernel) | exact .inr (by decide +kernel)) (by rw [isSubtype_type]; kernel_rfl)
theorem entry_l_next : entryFor table "longrange_iterator.__next__" = some Builtin.«longrange_iterator.__next__» := entryFor_of_tree (by kernel_rfl)
theorem entry_l_iter : entryFor table "longrange_iterator.__iter__" = some Builtin.«dict_keyiterator.__iter__» :=
  entryFor_alias (id' := "dict_keyiterator.__iter__") (by kernel_rfl) (by first | rfl | decide +kernel | (unfold String.splitOn; simp +decide [String.splitOnAux])) (by decide +kernel) (by kernel_rfl)
theorem args_l_next (a : Value) : argsOk "longrange_iterator.__next__" ⟨[a], []⟩ := by
  unfold argsOk
  rw [signature?_of (id := "longrange_iterator.__next__") (n := ['_', '_', 't', 'x', 'e', 'n', '_', '_']) (o := ['r', 'o', 't', 'a', 'r', 'e', 't', 'i', '_', 'e', 'g', 'n', 'a', 'r', 'g', 'n', 'o', 'l']) (by kernel_rfl) own_l]
  kernel_rfl
theorem args_l_iter (a : Value) : argsOk "longrange_iterator.__iter__" ⟨[a], []⟩ := by
  unfold argsOk
  rw [signature?_of (id := "longrange_iterator.__iter__") (n := ['_', '_', 'r', 'e', 't', 'i', '_', '_']) (o := ['r', 'o', 't', 'a', 'r', 'e', 't', 'i', '_', 'e', 'g', 'n', 'a', 'r', 'g', 'n', 'o', 'l']) (by kernel_rfl) own_l]
  kernel_rfl
def rin (b : Bool) : String := if b then "range_iterator" else "longrange_iterator"
/-- a range's iterator, short or long -/
def IsRI (b : Bool) (h : Heap) (it : Addr) (x left step : Int) : Prop := h.get? it = some { cls := .type (rin b), dict := none, data := .fields #[rawInt x, rawInt left, rawInt step], slots := #[] }
section
variable {prog : Program} {w : World} {A : Around} {E : Value → Shared → Prop} {s : Shared}
theorem iter_any {r : Addr} {a b c : Int} {t u v : Tok} {Q : Value → Shared → Prop} (hr : IsRange s.heap r a b c t u v)
    (q : Q (.ref s.heap.objs.size) { s with heap := s.heap.push { cls := .type (rin (small a b c)), data := .fields #[rawInt a, rawInt (rangeSize a b c), rawInt c] } }) :
    wpAny (model prog w) A (pyIter (.ref r)) Q E s := by
  cases e : small a b c with
  | true =>
    rw [e] at q
    exact wpAny_pyIter_range hr e q
  | false =>
    rw [e] at q
    have ty : s.TypeIs (.ref r) "range" := ⟨_, hr, rfl⟩
    unfold small at e
    refine wpAny_pyIter_slot ty F.slot_range_iter (call_meets F.slot_range_iter ty F.entry_range_iter (F.args_range_iter_1 _) (AutoRange.range___iter___range_0 r a b c t u v (by simp [e])) ⟨hr, ?_⟩)
    simp only [e]
    exact ⟨"longrange_iterator", _, ⟨_, Heap.get?_push_size _ rfl, rfl⟩, slot_l_next.lookup, q⟩
theorem next_l (it : Addr) (x left step : Int) (more : ¬left ≤ 0) :
    Meets (Builtin.«longrange_iterator.__next__» ⟨[.ref it], []⟩) (fun _ R s => IsRI false s.heap it x left step ∧ R (.ok (.ret (Value.int x s.toks))) { s with heap := (s.heap.update it (Obj.mapFields fun y => y.setIfInBounds 0 (rawInt (x + step)))).update it (Obj.mapFields fun y => y.setIfInBounds 1 (rawInt (left - 1))), toks := s.toks + 1 }) :=
  .of_wp fun prog w A R s h => by
    obtain ⟨hp, g, d, tk, os⟩ := s
    obtain ⟨at0, h⟩ := h
    have at1 : hp.get? it = some { cls := .type "longrange_iterator", dict := none, data := .fields #[rawInt x, rawInt left, rawInt step], slots := #[] } := at0
    clear at0
    wp_walk
    exact ⟨_, rfl, h⟩
theorem item_any {bb : Bool} {it : Addr} {x left step : Int} {Q : Option Value → Shared → Prop} (hit : IsRI bb s.heap it x left step) (more : 0 < left)
    (q : ∀ h', IsRI bb h' it (x + step) (left - 1) step → Heap.SameBut it s.heap h' → Q (some (.int x s.toks)) { s with heap := h', toks := s.toks + 1 }) :
    wpAny (model prog w) A (pyNext (.ref it)) Q E s := by
  cases bb with
  | true => exact wpAny_pyNext_range_item hit more q
  | false =>
    have ty : s.TypeIs (.ref it) "longrange_iterator" := ⟨_, hit, rfl⟩
    unfold pyNext
    refine wpAny_bind (wpAny_attempt (wpAny_callSpecial?_slot (name := Str.ofString "__next__") ty slot_l_next (call_meets slot_l_next ty entry_l_next (args_l_next _) (next_l it x left step (by omega)) ⟨hit, ?_⟩)))
    exact wpAny_pure (q _ (Heap.get?_update_self _ (Heap.get?_update_self _ hit rfl) rfl) ((Heap.SameBut.update ..).trans (Heap.SameBut.update ..)))
theorem end_any {bb : Bool} {it : Addr} {x left step : Int} {Q : Option Value → Shared → Prop} (calm : A.handled = none) (hit : IsRI bb s.heap it x left step) (none_ : left ≤ 0)
    (q : ∀ h', Heap.ExtBut it s.heap h' → Q none { s with heap := h' }) : wpAny (model prog w) A (pyNext (.ref it)) Q E s := by
  cases bb with
  | true => exact wpAny_pyNext_range_end calm hit none_ q
  | false =>
    have ty : s.TypeIs (.ref it) "longrange_iterator" := ⟨_, hit, rfl⟩
    unfold pyNext
    refine wpAny_bind (wpAny_attempt (wpAny_callSpecial?_slot (name := Str.ofString "__next__") ty slot_l_next (wpAny_call_entry slot_l_next ty entry_l_next ?_ (args_l_next _))))
    have f0 : s.heap.get? it = some { cls := .type "longrange_iterator", dict := none, data := .fields #[rawInt x, rawInt left, rawInt step], slots := #[] } := hit
    unfold Builtin.«longrange_iterator.__next__»
    obtain ⟨hp, g, d, tk, os⟩ := s
    wp_walk
    simp only [raiseNew]
    refine wpAny_bind (wpAny_handled ?_)
    first | rw [show A.in1.handled = none from calm] | rw [calm]
    refine wpAny_bind (wpAny_pure (wpAny_throw ?_))
    refine wpAny_bind (wpAny_isInstance (T := "StopIteration") (b := true) ⟨_, Heap.get?_push_size _ rfl, rfl⟩ isSubtype_stop ?_)
    exact wpAny_pure (q _ (((Heap.ExtBut.refl it hp).push _).push _))
theorem self_any {bb : Bool} {it : Addr} {x left step : Int} {Q : Value → Shared → Prop} (hit : IsRI bb s.heap it x left step) (h : Q (.ref it) s) : wpAny (model prog w) A (pyIter (.ref it)) Q E s := by
  cases bb with
  | true => exact wpAny_pyIter_rangeiter hit h
  | false =>
    have ty : s.TypeIs (.ref it) "longrange_iterator" := ⟨_, hit, rfl⟩
    refine wpAny_pyIter_slot ty slot_l_iter (wpAny_call_entry slot_l_iter ty entry_l_iter ?_ (args_l_iter _))
    show wpAny _ _ (ret (.ref it)) _ _ s
    exact wpAny_pure ⟨_, rfl, "longrange_iterator", _, ty, slot_l_next.lookup, h⟩
end
theorem walks_any {prog : Program} {w : World} {A : Around} (calm : A.handled = none) (bb : Bool) (I : Addr) (a c : Int) (n : Nat) :
    Walks prog w A I [I] [I] n (fun i v => ∃ t, v = .int (a + i * c) t) (fun i h => IsRI bb h I (a + (i : Nat) * c) ((n : Int) - (i : Nat)) c) where
  sub := fun _ hb => hb
  frame := fun _ _ _ st hk => hk I (by simp) _ st
  item := fun i s Q E hi st q => by
    refine item_any st (by omega) fun h1 it1 sb => ?_
    refine q _ h1 _ ⟨_, rfl⟩ ?_ fun b o hb e => sb.extBut b o (fun h => hb (by simp [h])) e
    have e1 : a + ((i + 1 : Nat) : Int) * c = a + (i : Int) * c + c := by
      rw [Int.natCast_add, Int.add_mul, Int.add_assoc]
      simp
    have e2 : (n : Int) - ((i + 1 : Nat) : Int) = (n : Int) - (i : Int) - 1 := by omega
    rw [e1, e2]
    exact it1
  done := fun s Q E st q => end_any calm st (by omega) fun h1 ex => q h1 s.toks fun b o hb e => ex b o (fun h => hb (by simp [h])) e
  self := fun _ _ _ _ st q => self_any st q
section
variable {prog : Program} {w : World} {A : Around} {E : Value → Shared → Prop} {s : Shared}
theorem extend_any {R : Result → Shared → Prop} {r : Addr} {a b c : Int} {t u v : Tok} {n : Nat} (calm : A.handled = none) (hr : IsRange s.heap r a b c t u v)
    (hn : rangeSize a b c = n) (few : n ≤ 2 ^ 24) (S : Addr) (res : Value) (c₀ : Nat) (at0 : s.heap.get? S = some { cls := .type "list", data := .seq #[] c₀ })
    (fin : ∀ h1 tk acc c1, (∀ b o, b ≠ S → s.heap.get? b = some o → h1.get? b = some o) → h1.get? S = some { cls := .type "list", dict := none, data := .seq acc c1, slots := #[] } → ItemsOf (fun i v => ∃ t, v = .int (a + i * c) t) acc n → R (.ok (.ret res)) { s with heap := h1, toks := tk }) :
    wpAny (model prog w) A.in1 (Builtin.List.listExtendWith (.ref S) (.ref r) res) (fun fin s' => match fin with | .done f => R (.ok f) s' | .again c' => c'.quiet = true ∧ codeAny (model prog w) A c' R s') (fun e s' => R (.error e) s') s := by
  have ne1 : S ≠ r := fun e => by rw [e, hr] at at0; simp at at0
  have lt1 : S < s.heap.objs.size := Heap.lt_size at0
  have ne2 : S ≠ s.heap.objs.size := Nat.ne_of_lt lt1
  have nf : S ∉ [s.heap.objs.size] := fun hm => ne2 (List.mem_singleton.mp hm)
  have W := (walks_any (prog := prog) (w := w) (A := A.in1) calm (small a b c) s.heap.objs.size a c n).toS
  have key : ∀ (h : Heap) (c₁ tk : Nat), IsRI (small a b c) h s.heap.objs.size (a + ((0 : Nat) : Int) * c) ((n : Int) - ((0 : Nat) : Int)) c → (∀ b o, b ≠ S → s.heap.get? b = some o → h.get? b = some o) →
      h.get? S = some { cls := .type "list", data := .seq #[] c₁ } → codeAny (model prog w) A (.builtin "list.extend.loop" ⟨[.ref S, .ref s.heap.objs.size, res], []⟩) R { s with heap := h, toks := tk } := by
    intro h c₁ tk hit hk at1
    refine codeAny_extend_loopS W (by rw [sizeLine_eq]; omega) S nf res n 0 _ #[] c₁ rfl (Nat.zero_le _) hit at1 (ItemsOf.nil _) fun z acc c1 hm at2 items => ?_
    rw [Moved.eq_with hm]
    refine fin z.heap z.toks acc c1 (fun b o hb e => hm.heap b o (fun hmem => ?_) (hk b o hb e)) at2 items
    rcases List.mem_cons.mp hmem with e' | hmem
    · exact hb e'
    · have lt := Heap.lt_size e
      rw [List.mem_singleton.mp hmem] at lt
      exact Nat.lt_irrefl _ lt
  unfold Builtin.List.listExtendWith
  refine wpAny_bind (wpAny_typeOf (T := "range") ⟨_, hr, rfl⟩ ?_)
  have k1 : Builtin.List.listSameRef (.ref S) (.ref r) = false := by simp [Builtin.List.listSameRef, ne1]
  have k2 : (Value.type "range" == Value.type "list") = false := by decide
  have k3 : (Value.type "range" == Value.type "tuple") = false := by decide
  simp only [k1, k2, k3, Bool.or_false, Bool.false_eq_true, if_false]
  refine wpAny_bind (iter_any hr ?_)
  refine wpAny_bind (wpAny_holding (wpAny_hint_range (n := n) (Heap.get?_push_of_some _ hr) hn few ?_))
  have it1 : IsRI (small a b c) (s.heap.push { cls := .type (rin (small a b c)), data := .fields #[rawInt a, rawInt (rangeSize a b c), rawInt c] }) s.heap.objs.size (a + ((0 : Nat) : Int) * c) ((n : Int) - ((0 : Nat) : Int)) c := by
    rw [hn]
    have e := Heap.get?_push_size s.heap (o := { cls := .type (rin (small a b c)), data := .fields #[rawInt a, rawInt (n : Int), rawInt c] }) rfl
    unfold IsRI
    simpa using e
  have at1 := Heap.get?_push_of_some { cls := .type (rin (small a b c)), data := .fields #[rawInt a, rawInt (rangeSize a b c), rawInt c] } at0
  refine wpAny_ite_split (fun _ => ?_) (fun _ => wpAny_pure ⟨plainId_quiet F.plain_extend_loop _, key _ c₀ _ it1 (fun b o _ e => Heap.get?_push_of_some _ e) at1⟩)
  refine wpAny_bind (wpAny_rule ?_)
  refine wpAny_bind ?_
  show wpAny _ _ (updateSeq S (·.push .none) >>= fun _ => updateSeq S (·.pop)) _ _ _
  refine wpAny_bind (wpAny_updateSeq at1 rfl ?_)
  have at2 := Heap.get?_update_self (Obj.mapSeq (·.push Value.none)) at1 rfl
  refine wpAny_updateSeq (hz := by seq_fits) at2 rfl ?_
  have at3 := Heap.get?_update_self (Obj.mapSeq (·.pop)) at2 rfl
  refine wpAny_pure ⟨plainId_quiet F.plain_extend_loop _, key _ _ _ ?_ (fun b o hb e => ?_) at3⟩
  · exact (Heap.get?_update_other _ _ ne2).trans ((Heap.get?_update_other _ _ ne2).trans it1)
  · exact (Heap.get?_update_other _ _ (Ne.symm hb)).trans ((Heap.get?_update_other _ _ (Ne.symm hb)).trans (Heap.get?_push_of_some _ e))
theorem init_any {R : Result → Shared → Prop} {r : Addr} {a b c : Int} {t u v : Tok} {n : Nat} (calm : A.handled = none) (hr : IsRange s.heap r a b c t u v)
    (hn : rangeSize a b c = n) (few : n ≤ 2 ^ 24) (S : Addr) (at0 : s.heap.get? S = some { cls := .type "list", data := .seq #[] })
    (fin : ∀ h1 tk acc c1, (∀ b o, b ≠ S → s.heap.get? b = some o → h1.get? b = some o) → h1.get? S = some { cls := .type "list", dict := none, data := .seq acc c1, slots := #[] } → ItemsOf (fun i v => ∃ t, v = .int (a + i * c) t) acc n → R (.ok (.ret .none)) { s with heap := h1, toks := tk }) :
    wpAny (model prog w) A.in1 (Builtin.«list.__init__» ⟨[.ref S, .ref r], []⟩) (fun fin s' => match fin with | .done f => R (.ok f) s' | .again c' => c'.quiet = true ∧ codeAny (model prog w) A c' R s') (fun e s' => R (.error e) s') s := by
  have ne1 : S ≠ r := fun e => by rw [e, hr] at at0; simp at at0
  show wpAny _ _ (do let old ← Builtin.List.listItems (.ref S); Builtin.List.listUpdate (.ref S) (fun _ => #[]); letGo old.toList.reverse; Builtin.List.listExtendWith (.ref S) (.ref r) .none) _ _ s
  refine wpAny_bind ?_
  unfold Builtin.List.listItems
  refine wpAny_bind (wpAny_seqItems at0 rfl (wpAny_pure ?_))
  show wpAny _ _ (updateSeq S (fun _ => #[]) >>= fun _ => letGo (#[] : Array Value).toList.reverse >>= fun _ => Builtin.List.listExtendWith (.ref S) (.ref r) .none) _ _ s
  refine wpAny_bind (wpAny_updateSeq at0 rfl ?_)
  have at1 := Heap.get?_update_self (Obj.mapSeq (fun _ => (#[] : Array Value))) at0 rfl
  have oth : ∀ b o, b ≠ S → s.heap.get? b = some o → (s.heap.update S (Obj.mapSeq (fun _ => (#[] : Array Value)))).get? b = some o := fun b o hb e => (Heap.get?_update_other _ _ (Ne.symm hb)).trans e
  refine wpAny_bind (wpAny_letGo ?_)
  refine extend_any calm (oth r _ (Ne.symm ne1) hr) hn few S .none _ at1 fun h1 tk acc c1 hk at2 items => ?_
  exact fin h1 tk acc c1 (fun b o hb e => hk b o hb (oth b o hb e)) at2 items
theorem list_any {Q : Value → Shared → Prop} {r : Addr} {a b c : Int} {t u v : Tok} {n : Nat} (calm : A.handled = none) (hr : IsRange s.heap r a b c t u v) (hn : rangeSize a b c = n) (few : n ≤ 2 ^ 24)
    (fin : ∀ h1 tk acc c1, (∀ b o, s.heap.get? b = some o → h1.get? b = some o) → h1.get? s.heap.objs.size = some { cls := .type "list", dict := none, data := .seq acc c1, slots := #[] } → ItemsOf (fun i v => ∃ t, v = .int (a + i * c) t) acc n → Q (.ref s.heap.objs.size) { s with heap := h1, toks := tk }) :
    wpAny (model prog w) A (call (.type "list") [.ref r]) Q E s := by
  refine callType_codes (Q₁ := fun obj z => obj = .ref s.heap.objs.size ∧ z = { s with heap := s.heap.push { cls := .type "list", data := .seq #[] } }) F.called_list (F.typeCall_list_1 _) F.entry_list_init (code_list_new _ ⟨rfl, rfl⟩) fun obj z h₁ => ?_
  obtain ⟨rfl, rfl⟩ := h₁
  have at0 : (s.heap.push { cls := .type "list", data := .seq #[] }).get? s.heap.objs.size = some { cls := .type "list", data := .seq #[] } := Heap.get?_push_size _ rfl
  refine ⟨⟨_, at0, rfl⟩, F.args_list_init_2 _ _, init_any (A := A.in1) calm (Heap.get?_push_of_some _ hr) hn few _ at0 fun h1 tk acc c1 hk at1 items => ?_⟩
  exact ⟨rfl, fin h1 tk acc c1 (fun b o e => hk b o (Nat.ne_of_lt (Heap.lt_size e)) (Heap.get?_push_of_some _ e)) at1 items⟩
end
end LR
namespace L3
open PySem PySem.Spec PyProof.Rows L2
theorem turn_rangeB {P : Program} {w : World} {K : PySem.W.Frag} {tg : Expr} (bb : Bool) (it : Addr) (lo : Int) (n : Nat) : L2.Turn P w K tg (Itr lo n) [it] it (fun i h => LR.IsRI bb h it (lo + (i : Nat) * 1) ((n : Int) - (i : Nat)) 1) where
  mem := by simp
  obj := fun i h st b hb => by
    obtain rfl : b = it := by simpa using hb
    exact ⟨_, st, fun v z => nomatch (show Data.fields _ = Data.cell v from z)⟩
  keep := fun i h h' st k => k it (by simp) _ st
  item := by
    intro X hP hw hK hc i pins s σ H E I hf st hg
    subst hP hw hK
    obtain ⟨f0, f1, f2, f3, f4, f5⟩ := hf it (by simp)
    refine (LR.walks_any (prog := X.prog) (w := X.w) (I.ok.hd hc) bb it lo 1 n).item i s _ _ hg st fun v h1 tk hv st1 kk => ?_
    obtain ⟨t, rfl⟩ := hv
    have J : Inv X pins σ H { s with heap := h1, toks := tk } := I.turned (fun b o hb e => kk b o (by simpa using hb) e) f0 f1 f3 f4 f5
    refine ⟨_, rfl, go_of (s := { s with heap := h1, toks := tk }) (n := LR.rin bb) st1 rfl rfl (by cases bb <;> decide) ⟨.int (lo + i), H, J, ⟨t, ?_⟩, ⟨rfl, rfl⟩, st1, fun b hb => (hf b hb).1⟩⟩
    rw [Int.mul_one]
  done := by
    intro X hP hw hK hc i pins s σ H E I hf st hg
    subst hP hw hK
    obtain ⟨f0, f1, f2, f3, f4, f5⟩ := hf it (by simp)
    exact LR.end_any (I.ok.hd hc) st (by have : n ≤ i := hg; omega) fun h1 eb => ⟨rfl, I.turned (t' := s.toks) (fun b o hb e => eb b o hb e) f0 f1 f3 f4 f5⟩
  self := fun _ _ _ _ _ st h => LR.self_any st h
section
variable {X : Cx} {tg : Expr}
theorem range_itB {pins : List (Addr × Obj)} {σ : L2.St} {H : Hp} {s : Shared} {R : It → Hp → Prop} {E : Value → Shared → Prop} {lo hi : Int} {t u v : Tok} {tk : Nat} (I : Inv X pins σ H s) (q : R (Itr lo (hi - lo).toNat) H) :
    wpAny (model X.prog X.w) X.A (pyIter (.ref s.heap.objs.size)) (PIE X pins σ tg R) E { s with heap := s.heap.push { cls := .type "range", data := .fields #[.int lo t, .int hi u, .int 1 v] }, toks := tk } := by
  refine LR.iter_any (IsRange.new ..) ?_
  have J : Inv X pins σ H { s with heap := s.heap.push { cls := .type "range", data := .fields #[.int lo t, .int hi u, .int 1 v] }, toks := tk } := I.kept fun b o e => Heap.get?_push_of_some _ e
  refine ⟨_, [_], _, _, H, rfl, J.kept (t' := tk) fun b o e => Heap.get?_push_of_some _ e, turn_rangeB (Builtin.Range.small lo hi 1) _ lo (hi - lo).toNat, ?_, fun b hb => ?_, q⟩
  · have e1 : lo + ((0 : Nat) : Int) * 1 = lo := by simp
    have e2 : (((hi - lo).toNat : Nat) : Int) - ((0 : Nat) : Int) = Builtin.Range.rangeSize lo hi 1 := by rw [rangeSize_one]; split <;> omega
    show LR.IsRI _ _ _ (lo + ((0 : Nat) : Int) * 1) ((((hi - lo).toNat : Nat) : Int) - ((0 : Nat) : Int)) 1
    rw [e1, e2]
    exact Heap.get?_push_size _ rfl
  · obtain rfl := List.mem_singleton.mp hb
    exact J.fpOk (Nat.le_refl _) (J.hok.fresh (Nat.le_refl _))
/-- range(a, b), walked, whatever their size -/
def iRngB (ta : TA) : TI := fun σ H R => ta σ H fun vs H1 => ∃ i j : Int, vs = [.int i, .int j] ∧ R (Itr i (j - i).toNat) H1
theorem pi_rangeB {a b : Expr} {ta : TA} {p pos : Pos} (hg : Gl X "range") (hm : X.mg "range" = none) (ha : PA X [a, b] ta) (hs : starEach [a, b] X.env = [(false, eval a X.env), (false, eval b X.env)] := by rfl) (hs2 : starEach [b] X.env = [(false, eval b X.env)] := by rfl) :
    PI X tg (.Call (.Name "range" p) [a, b] [] pos) (iRngB ta) := by
  refine ⟨fun pins s σ H R I h => ?_⟩
  refine Call_ (ld_blt I hg hm boot_range (callWith_type1 (thn (ha.run pos pins s σ H _ I h) fun us s1 ⟨vs, H1, I1, r1, q1⟩ => ?_) (by rw [hs, hs2]) (by rw [hs2]; rfl)))
  obtain ⟨i, j, e, q⟩ := q1
  subst e
  obtain ⟨u1, u2, rfl, ⟨t, rfl⟩, ⟨t', rfl⟩⟩ := vals2 r1
  exact call_range_2 (range_itB I1 q)
/-- list(range(..)) -/
def tLstRB (te : L2.St → Hp → (Int → Int → Hp → Prop) → Prop) : TE := fun σ H Q => te σ H fun a b H1 => (b - a).toNat ≤ 2 ^ 24 ∧ ∀ q, H1 q = none → Q (.ref q) (upd H1 q (.lst (rgV a b)))
theorem pe_listRB {e : Expr} {te : L2.St → Hp → (Int → Int → Hp → Prop) → Prop} {p pos : Pos} (hc : X.calm = true) (hg : Gl X "list") (hm : X.mg "list" = none) (he : PRg X e te) (na : starEach [e] X.env = (false, eval e X.env) :: starEach [] X.env := by rfl) : PE X (.Call (.Name "list" p) [e] [] pos) (tLstRB te) := by
  refine ⟨fun pins s σ H Q I h => ?_⟩
  refine Call_ (ld_blt I hg hm boot_list (callWith_type1 (args_cons (thn (he pins s σ H _ I h) fun x s1 ⟨r, a, b, t, u, v, H1, ex, hr, I1, few, q⟩ => args_nil ?_) na) na))
  subst ex
  refine LR.list_any (n := (b - a).toNat) (I1.ok.hd hc) hr (rangeSize_nat a b) few fun h1 tk acc c1 hk e' hi => ?_
  refine ⟨.ref s1.heap.objs.size, upd H1 s1.heap.objs.size (.lst (rgV a b)), I1.laid hk (Nat.le_refl _) (show ObjOk X.prog X.w _ _ _ (.lst (rgV a b)) from ⟨?_, acc.toList, c1, vals_rg hi, ?_⟩), rfl, q _ (I1.hok.fresh (Nat.le_refl _))⟩
  · rw [rgV_length, sizeLine_eq]
    omega
  · rw [Array.toArray_toList]
    exact e'
end
end L3
set_option Elab.async false
set_option linter.all false
set_option maxRecDepth 100000
set_option maxHeartbeats 4000000
namespace L3
open PySem PySem.Spec PyProof.Rows L2
theorem range_fm {α β : Type} (g : α → Option β) : ∀ l : List α, (List.range l.length).filterMap (fun i => l[i]?.bind g) = l.filterMap g
  | [] => rfl
  | x :: l => by
    rw [List.length_cons, List.range_succ_eq_map, List.filterMap_cons, List.filterMap_map, List.filterMap_cons]
    have ih := range_fm g l
    have e : ((fun i => (x :: l)[i]?.bind g) ∘ Nat.succ) = fun i => l[i]?.bind g := funext fun i => by simp
    rw [e, ih]
    simp
section
variable {J : It} {G : Hp → Prop} {g : TG} {tt : TT} {te : TE} {vs : List Nat} {σ : L2.St} {H1 : Hp} {D : Addr} {Qd : Hp → Prop}
/-- a comprehension over xs (told as values by v), each of which gives gm x, or nothing -/
theorem lc_on {α : Type} (xs : List α) (v : α → V) (w : L2.Walk J (xs.map v).length G (L2.YAt (xs.map v))) (gm : α → Option V) (I : Hp → Prop) (hI : ∀ H l, I H → I (upd H D (.lst l))) (i0 : I H1) (hn : xs.length ≤ 100000) (hG : ∀ H, I H → G H)
    (hs : ∀ (i : Nat) (x : α) (H : Hp) (acc : List V) (N : Hp → Prop), xs[i]? = some x → I H → H D = some (.lst acc) → acc.length < sizeLine →
      (∀ H4, I H4 → H4 D = some (.lst acc) → match gm x with | some y => N (upd H4 D (.lst (acc ++ [y]))) | none => N H4) → Turn g tt te vs σ D (v x) H N)
    (hd : ∀ H, I H → H D = some (.lst (xs.filterMap gm)) → Qd H) :
    ∃ W : Nat → Nat → Hp → Prop, (∃ m, W 0 m (upd H1 D (.lst []))) ∧ ∀ i m H, W i m H →
      (J.stop i H ∧ Qd H) ∨ (J.go i H ∧ ∃ Nx : Hp → Prop, (∀ H', Nx H' → ∃ m', m' < m ∧ W (i + 1) m' H') ∧ ∀ x H', J.yld i H x H' → Turn g tt te vs σ D x H' Nx) := by
  refine lc_fm w (fun i => xs[i]?.bind gm) I hI i0 (by rw [List.length_map]; exact hn) hG (fun i x H H' acc N hi p hD la y k => ?_) fun H p hD => hd H p ?_
  · obtain ⟨rfl, hx⟩ := y
    rw [List.getElem?_map] at hx
    obtain ⟨z, hz, rfl⟩ := Option.map_eq_some_iff.mp hx
    refine hs i z _ acc N hz p hD la fun H4 p4 d4 => ?_
    have := k H4 p4 d4
    simp only [hz, Option.bind_some] at this
    exact this
  · rw [hD, List.length_map, range_fm]
/-- a comprehension over a range -/
theorem lc_rg {lo : Int} {n : Nat} (gm : Nat → Option V) (I : Hp → Prop) (hI : ∀ H l, I H → I (upd H D (.lst l))) (i0 : I H1) (hn : n ≤ 100000)
    (hs : ∀ (i : Nat) (H : Hp) (acc : List V) (N : Hp → Prop), i < n → I H → H D = some (.lst acc) → acc.length < sizeLine →
      (∀ H4, I H4 → H4 D = some (.lst acc) → match gm i with | some y => N (upd H4 D (.lst (acc ++ [y]))) | none => N H4) → Turn g tt te vs σ D (.int (lo + i)) H N)
    (hd : ∀ H, I H → H D = some (.lst ((List.range n).filterMap gm)) → Qd H) :
    ∃ W : Nat → Nat → Hp → Prop, (∃ m, W 0 m (upd H1 D (.lst []))) ∧ ∀ i m H, W i m H →
      ((Itr lo n).stop i H ∧ Qd H) ∨ ((Itr lo n).go i H ∧ ∃ Nx : Hp → Prop, (∀ H', Nx H' → ∃ m', m' < m ∧ W (i + 1) m' H') ∧ ∀ x H', (Itr lo n).yld i H x H' → Turn g tt te vs σ D x H' Nx) := by
  refine lc_fm (L2.walk_range (lo := lo) (n := n)) gm I hI i0 hn (fun _ _ => trivial) (fun i x H H' acc N hi p hD la y k => ?_) hd
  obtain ⟨rfl, rfl⟩ := y
  exact hs i _ acc N hi p hD la k
end
section
variable {J : It} {G : Hp → Prop} {g : TG} {tb : TS} {D : Ends} {σ : L2.St} {H : Hp}
/-- a for over xs (told as values by v) -/
theorem for_on {α : Type} (xs : List α) (v : α → V) (w : L2.Walk J (xs.map v).length G (L2.YAt (xs.map v))) (Pv : Nat → L2.St → Hp → Prop) (h0 : Pv 0 σ H) (hG : ∀ i σ H, Pv i σ H → G H)
    (hs : ∀ (i : Nat) (x : α) (σ : L2.St) (H : Hp), xs[i]? = some x → Pv i σ H → g (v x) σ H fun σ2 H2 => tb { D with nx := Pv (i + 1), ct := Pv (i + 1), bk := D.nx } σ2 H2) (hd : ∀ σ H, Pv xs.length σ H → D.nx σ H) :
    ∃ W : Nat → Nat → L2.St → Hp → Prop, (∃ m, W 0 m σ H) ∧ ∀ i m σ H, W i m σ H →
      (J.stop i H ∧ D.nx σ H) ∨ (J.go i H ∧ ∃ N : L2.St → Hp → Prop, (∀ σ' H', N σ' H' → ∃ m', m' < m ∧ W (i + 1) m' σ' H') ∧ ∀ x H', J.yld i H x H' → g x σ H' fun σ2 H2 => tb { D with nx := N, ct := N, bk := D.nx } σ2 H2) := by
  refine L2.for_it w Pv h0 (fun i σ H _ p => hG i σ H p) (fun i x σ H H' hi p y => ?_) (fun σ H p => hd σ H (by rw [List.length_map] at p; exact p))
  obtain ⟨rfl, hx⟩ := y
  rw [List.getElem?_map] at hx
  obtain ⟨z, hz, rfl⟩ := Option.map_eq_some_iff.mp hx
  exact hs i z σ _ hz p
end
theorem take_snoc {α : Type} {l : List α} {i : Nat} {x : α} (h : l[i]? = some x) : l.take (i + 1) = l.take i ++ [x] := by
  rw [List.take_add_one, h]
  rfl
theorem catA_of {K : PySem.W.Frag} {H : Hp} {a b : Addr} {xs ys : List V} {Q : VK} (ha : SqT K H a xs) (hb : SqT K H b ys) (hz : xs.length + ys.length ≤ sizeLine) (q : ∀ p H', Ex H H' → SqT K H' p (xs ++ ys) → Q (.ref p) H') : rCatA K (.ref a) (.ref b) H Q := by
  refine ⟨a, b, xs, ys, rfl, rfl, ha, hb, hz, fun e => ?_, fun _ e => ?_, fun _ _ p np => ?_⟩
  · exact q b H (.refl _) (by rw [e]; exact hb)
  · exact q a H (.refl _) (by rw [e, List.append_nil]; exact ha)
  · exact q p _ (ex_new np) (sq_tup upd_same)
/-- what stands elsewhere than at f stays -/
def Oth (f : Addr) (H H' : Hp) : Prop := ∀ b o, b ≠ f → H b = some o → H' b = some o
theorem Oth.refl (f : Addr) (H : Hp) : Oth f H H := fun _ _ _ e => e
theorem Oth.trans {f : Addr} {H H1 H2 : Hp} (a : Oth f H H1) (b : Oth f H1 H2) : Oth f H H2 := fun c o h e => b c o h (a c o h e)
theorem ex_oth {f : Addr} {H H1 : Hp} (a : Ex H H1) : Oth f H H1 := fun c o _ e => a c o e
theorem Oth.upd {f : Addr} {H H1 : Hp} {o : HO} (a : Oth f H H1) : Oth f H (L2.upd H1 f o) := fun b u nb e => by rw [upd_ne nb]; exact a b u nb e
theorem Oth.ex {f : Addr} {H0 H H1 : Hp} (x : Ex H0 H) (n : H0 f = none) (a : Oth f H H1) : Ex H0 H1 := fun b o e => a b o (ne_of_none e n) (x b o e)
/-! ### repr of any data -/
@[irreducible] def rReprX (K : PySem.W.Frag) : List V → Hp → VK → Prop := fun xs H Q => ∃ (x : V) (d : PyData), xs = [x] ∧ Dp K H x d ∧ d.hasDict = false ∧ d.showable = true ∧ d.depth ≤ 60 ∧ d.shown.length ≤ sizeLine ∧ Q (.str d.shown) H
theorem call_reprX {X : Cx} {k : Nat} (K : PySem.W.Frag) (hr : Rm k X.A) (hK : X.K = K := by rfl) : CallR X (.builtin "repr") (rReprX K) := by
  subst hK
  intro pins s σ H xs us Q I r h
  unfold rReprX at h
  obtain ⟨x, d, rfl, hd, hnd, hs, hdp, hsz, q⟩ := h
  have main : ∀ a, x = .ref a → wpAny (model X.prog X.w) X.A (call (.builtin "repr") us) (EP X pins σ Q) X.xe s := fun a ea => by
    subst ea
    refine call_repr hr pins s σ H [.ref a] us Q I r ?_
    unfold rRepr
    exact ⟨a, d, rfl, hd, hnd, hs, hdp, hsz, q⟩
  cases hd with
  | non =>
    obtain ⟨u, rfl, e⟩ := vals1 r
    obtain rfl : u = Value.none := e
    exact PySem.P.repr_of_none ⟨.str _, H, I.tok _, ⟨_, rfl⟩, q⟩
  | bl b =>
    obtain ⟨u, rfl, e⟩ := vals1 r
    obtain rfl : u = Value.bool b := e
    exact PySem.P.repr_of_bool ⟨.str _, H, I.tok _, ⟨_, rfl⟩, q⟩
  | int i =>
    obtain ⟨u, rfl, t, rfl⟩ := vals1 r
    exact PySem.P.repr_of_int (of_decide_eq_true hs) ⟨.str _, H, I.tok _, ⟨_, rfl⟩, q⟩
  | str z =>
    obtain ⟨u, rfl, t, rfl⟩ := vals1 r
    exact PySem.P.repr_of_str ⟨.str _, H, I.tok _, ⟨_, rfl⟩, q⟩ hsz
  | lst _ _ => exact main _ rfl
  | tup _ _ => exact main _ rfl
theorem rx_data {K : PySem.W.Frag} {H : Hp} {x : V} {d : PyData} {Q : VK} (h : Dp K H x d) (ho : okD d = true) (hz : szD d ≤ 16000000) (hd : d.depth ≤ 60) (q : Q (.str d.shown) H) : rReprX K [x] H Q := by
  obtain ⟨h1, h2, h3⟩ := okD_tells d ho
  unfold rReprX
  exact ⟨x, d, rfl, h, h1, h2, hd, Nat.le_trans h3 (Nat.le_trans hz (by rw [sizeLine_eq]; decide)), q⟩
theorem sz_le {n : Nat} (h : n ≤ 100000) : n ≤ sizeLine := Nat.le_of_lt (small_len h)
end L3
set_option Elab.async false
set_option linter.all false
set_option maxRecDepth 100000
set_option maxHeartbeats 4000000
namespace L3
open PySem PySem.Spec PyProof.Rows L2
theorem slA_of {K : PySem.W.Frag} {H : Hp} {a : Addr} {xs : List V} {lo hi : Option Int} {Q : VK} (ha : SqT K H a xs) (q : ∀ p H', Ex H H' → SqT K H' p (cutV xs lo hi) → Q (.ref p) H') : rSlA K (.ref a) lo hi H Q := by
  refine ⟨a, xs, rfl, ha, fun hw => q a H (.refl _) ?_, fun _ p np => q p _ (ex_new np) (sq_tup upd_same)⟩
  have e : cutV xs lo hi = xs := by
    unfold cutV
    rw [hw.1, hw.2]
    simp
  rw [e]
  exact ha
theorem tyOf_mono {K : PySem.W.Frag} {H H' : Hp} {x : V} {t : Value} (e : Ex H H') (h : TyOf K H x t) : TyOf K H' x t := by
  cases h with
  | non => exact .non
  | bl x => exact .bl x
  | int i => exact .int i
  | str x => exact .str x
  | flt x => exact .flt x
  | lst h => exact .lst (e _ _ h)
  | frz h => exact .frz (e _ _ h)
  | tup h => exact .tup (e _ _ h)
  | dK h => exact .dK (e _ _ h)
  | dT h => exact .dT (e _ _ h)
  | ins h cl ha hn htk hm => exact .ins (e _ _ h) cl ha hn htk hm
theorem tyX_mono {K : PySem.W.Frag} {H H' : Hp} {x : V} {t : Value} (e : Ex H H') (h : TyX K H x t) : TyX K H' x t := by
  cases h with
  | base h => exact .base (tyOf_mono e h)
  | byt b => exact .byt b
  | set h => exact .set (e _ _ h)
  | kList h c => exact .kList h c
  | kTuple h c => exact .kTuple h c
  | kDict h c => exact .kDict h c
  | fTuple h => exact .fTuple (e _ _ h)
  | fDict h => exact .fDict (e _ _ h)
theorem Cl.mono {K : PySem.W.Frag} {H H' : Hp} {x : V} (c : Cl K H x) (e : Ex H H') : Cl K H' x := let ⟨t, b, d, h1, h2⟩ := c; ⟨t, b, d, tyX_mono e h1, h2⟩
section
variable {J : It} {n : Nat} {G : Hp → Prop} {g : TG} {tt : TT} {te : TE} {vs : List Nat} {σ : L2.St} {H1 : Hp} {D : Addr} {Qd : Hp → Prop}
/-- a comprehension over pairs of xs and ys -/
theorem lc_zip {α β : Type} (xs : List α) (ys : List β) (v : α → V) (w : β → V) (wk : L2.Walk J n G (L2.YPair (fun i => (xs.map v)[i]?) (fun i => (ys.map w)[i]?))) (hn : n = min xs.length ys.length) (gm : α → β → Option V) (I : Hp → Prop) (hI : ∀ H l, I H → I (upd H D (.lst l))) (i0 : I H1) (hz : xs.length ≤ 100000) (hG : ∀ H, I H → G H)
    (hs : ∀ (i : Nat) (a : α) (b : β) (u : Addr) (H : Hp) (acc : List V) (N : Hp → Prop), xs[i]? = some a → ys[i]? = some b → I H → H u = none → H D = some (.lst acc) → acc.length < sizeLine →
      (∀ H4, I H4 → H4 D = some (.lst acc) → match gm a b with | some y => N (upd H4 D (.lst (acc ++ [y]))) | none => N H4) → Turn g tt te vs σ D (.ref u) (upd H u (.tup [v a, w b])) N)
    (hd : ∀ H, I H → H D = some (.lst ((xs.zip ys).filterMap fun p => gm p.1 p.2)) → Qd H) :
    ∃ W : Nat → Nat → Hp → Prop, (∃ m, W 0 m (upd H1 D (.lst []))) ∧ ∀ i m H, W i m H →
      (J.stop i H ∧ Qd H) ∨ (J.go i H ∧ ∃ Nx : Hp → Prop, (∀ H', Nx H' → ∃ m', m' < m ∧ W (i + 1) m' H') ∧ ∀ x H', J.yld i H x H' → Turn g tt te vs σ D x H' Nx) := by
  refine lc_fm wk (fun i => (xs.zip ys)[i]?.bind fun p => gm p.1 p.2) I hI i0 (by omega) hG (fun i x H H' acc N hi p hD la y k => ?_) fun H p hD => hd H p ?_
  · obtain ⟨u, x1, x2, rfl, nu, rfl, g1, g2⟩ := y
    dsimp only at g1 g2
    rw [List.getElem?_map] at g1 g2
    obtain ⟨a, ha, rfl⟩ := Option.map_eq_some_iff.mp g1
    obtain ⟨b, hb, rfl⟩ := Option.map_eq_some_iff.mp g2
    refine hs i a b u H acc N ha hb p nu hD la fun H4 p4 d4 => ?_
    have := k H4 p4 d4
    have ez : (xs.zip ys)[i]? = some (a, b) := by
      rw [List.getElem?_zip_eq_some]
      exact ⟨ha, hb⟩
    simp only [ez, Option.bind_some] at this
    exact this
  · rw [hD, hn, ← List.length_zip, range_fm]
end
end L3
set_option Elab.async false
set_option linter.all false
set_option maxRecDepth 100000
set_option maxHeartbeats 4000000
/-! own ==: both sides, != and in -/
namespace L3
open PySem PySem.Spec PyProof.Rows L2 PySem.SeqAt PySem.Calls
/-- a type, of which the class at C is no base, or which is that class -/
def NoSub (K : PySem.W.Frag) (C : Addr) (t : Value) : Prop := t = .ref C ∨ PySem.W.kitOne K t (.ref C) = some false
/-- the class at C is none of the types that decline -/
structure NoBase (K : PySem.W.Frag) (C : Addr) : Prop where
  non : PySem.W.mroIn K C (.type "NoneType") = some false
  bl : PySem.W.mroIn K C (.type "bool") = some false
  int : PySem.W.mroIn K C (.type "int") = some false
  str : PySem.W.mroIn K C (.type "str") = some false
  lst : PySem.W.mroIn K C (.type "list") = some false
  tup : PySem.W.mroIn K C (.type "tuple") = some false
  dct : PySem.W.mroIn K C (.type "dict") = some false
  ne : PySem.W.findIn K (.ref C) "__ne__" = some (some (.builtin "object.__ne__"))
  ob : PySem.W.mroIn K C (.type "object") = some true
def noBaseF (x : Str) : Fx := fun K => (["NoneType", "bool", "int", "str", "list", "tuple", "dict"].all fun T => decide (PySem.W.mroIn K (He.ga K x) (.type T) = some false)) &&
  (He.eqO (PySem.W.findIn K (.ref (He.ga K x)) "__ne__") (some (some (.builtin "object.__ne__"))) && decide (PySem.W.mroIn K (He.ga K x) (.type "object") = some true))
theorem noBase_of {x : Str} {K : PySem.W.Frag} (h : noBaseF x K = true) : NoBase K (He.ga K x) := by
  obtain ⟨h1, h⟩ := He.ba h
  obtain ⟨h2, h3⟩ := He.ba h
  have g : ∀ T ∈ ["NoneType", "bool", "int", "str", "list", "tuple", "dict"], PySem.W.mroIn K (He.ga K x) (.type T) = some false := fun T hT => of_decide_eq_true (List.all_eq_true.mp h1 T hT)
  exact ⟨g _ (by decide), g _ (by decide), g _ (by decide), g _ (by decide), g _ (by decide), g _ (by decide), g _ (by decide), He.eqO_ok h2, of_decide_eq_true h3⟩
theorem noSub_look {K : PySem.W.Frag} {C : Addr} {t : Value} (h : NoSub K C t) {M : Model} {hp : Heap} (X : K.In hp) (q : (Value.ref C != t) = true) : PySem.W.Looks M hp (isSubtype t (.ref C)) false := by
  rcases h with rfl | h
  · simp at q
  · unfold PySem.W.kitOne at h
    split at h
    · cases h
    · exact (PySem.W.kit_cls X h).2.2
section
variable {prog : Program} {w : World} {A : Around} {E : Value → Shared → Prop} {s : Shared} {K : PySem.W.Frag} {x C f : Addr} {ox : Obj} {od : Option Obj} {b tb : Value}
theorem try_own {Q : Value → Shared → Prop} {n : Str} (X : K.In s.heap) (I : PySem.W.InstAt s.heap x ox C od) (hm : Meth K C n f)
    (h : wpAny (model prog w) A (call (.ref f) [.ref x, b]) (PySem.W.CmpBack Q) E s) : wpAny (model prog w) A (tryCompare (.ref x) n b) (fun r s' => ∃ v, r = some v ∧ Q v s') E s := by
  unfold tryCompare
  refine wpAny_bind (PySem.W.ifBound_K X I hm.at_ hm.fn (wpAny_mono h (fun v s' hv => ?_) fun _ _ e => e))
  cases v <;> first | exact hv.elim | exact wpAny_pure ⟨_, rfl, hv⟩
theorem rc_ownL {Q : Value → Shared → Prop} (hu : A.units < cLine) (X : K.In s.heap) (I : PySem.W.InstAt s.heap x ox C od) (hb : PySem.W.Looks (model prog w) s.heap (typeOf b) tb) (hn : NoSub K C tb) (hm : Meth K C "__eq__" f)
    (h : wpAny (model prog w) A (call (.ref f) [.ref x, b]) (PySem.W.CmpBack Q) E s) : wpAny (model prog w) A (richCompare .Eq (.ref x) b) Q E s := by
  have one := try_own (b := b) X I hm h
  simp only [richCompare, cmpInfo_Eq, oneThing_ref]
  refine wpAny_holding (wpAny_bind (wpAny_cRoomFor hu ?_))
  refine wpAny_bind (I.type.here (wpAny_bind (hb.here ?_)))
  split
  · rename_i q
    refine wpAny_bind ((noSub_look hn X q).here ?_)
    simp only [Bool.false_eq_true, if_false]
    refine wpAny_bind (wpAny_mono one (fun r s' z => ?_) fun _ _ e => e)
    obtain ⟨v, rfl, hq⟩ := z
    exact wpAny_pure hq
  · refine wpAny_bind (wpAny_pure ?_)
    simp only [Bool.false_eq_true, if_false]
    refine wpAny_bind (wpAny_mono one (fun r s' z => ?_) fun _ _ e => e)
    obtain ⟨v, rfl, hq⟩ := z
    exact wpAny_pure hq
/-- a value that declines: then the right one's own == -/
theorem rc_ownR {Q : Value → Shared → Prop} {T : String} (hu : A.units < cLine) (X : K.In s.heap) (I : PySem.W.InstAt s.heap x ox C od) (hb : s.TypeIs b T) (ho : oneThing? .Eq b (.ref x) = none) (hn : PySem.W.mroIn K C (.type T) = some false) (hm : Meth K C "__eq__" f)
    (hd : ∀ Q' : Option Value → Shared → Prop, Q' none s → wpAny (model prog w) A (tryCompare b "__eq__" (.ref x)) Q' E s)
    (h : wpAny (model prog w) A (call (.ref f) [.ref x, b]) (PySem.W.CmpBack Q) E s) : wpAny (model prog w) A (richCompare .Eq b (.ref x)) Q E s := by
  have one := try_own (b := b) X I hm h
  simp only [richCompare, cmpInfo_Eq, ho]
  refine wpAny_holding (wpAny_bind (wpAny_cRoomFor hu ?_))
  refine wpAny_bind (wpAny_typeOf hb (wpAny_bind (I.type.here ?_)))
  split
  · refine wpAny_bind ((PySem.W.looks_mroIn X hn).here ?_)
    simp only [Bool.false_eq_true, if_false, Bool.not_false, if_true]
    refine wpAny_bind (m := tryCompare b _ (.ref x)) (hd _ ?_)
    refine wpAny_bind (m := tryCompare (.ref x) _ b) (wpAny_mono one (fun r s' z => ?_) fun _ _ e => e)
    obtain ⟨v, rfl, hq⟩ := z
    exact wpAny_pure hq
  · rename_i q
    exact absurd (by simp) q
end
section
variable {prog : Program} {w : World} {A : Around} {E : Value → Shared → Prop} {s : Shared} {K : PySem.W.Frag} {x C dx : Addr} {od : Option Obj}
theorem int_dec_ins (b : Int) (u : Tok) (l C dx : Addr) :
    Meets (Builtin.«int.__eq__» ⟨[.int b u, .ref l], []⟩) (fun _ R s => s.heap.get? l = some { cls := .ref C, dict := some dx, data := .plain } ∧ R (.ok (.ret .notImplemented)) s) :=
  .of_wp fun prog w A R s h => by obtain ⟨hp, g, d, tk, os⟩ := s; obtain ⟨hl, h⟩ := h; wp_walk using wpAny_loadPart' hl, wpAny_load hl; exact ⟨_, rfl, h⟩
theorem bool_dec_ins (b : Bool) (l C dx : Addr) :
    Meets (Builtin.«int.__eq__» ⟨[.bool b, .ref l], []⟩) (fun _ R s => s.heap.get? l = some { cls := .ref C, dict := some dx, data := .plain } ∧ R (.ok (.ret .notImplemented)) s) :=
  .of_wp fun prog w A R s h => by obtain ⟨hp, g, d, tk, os⟩ := s; obtain ⟨hl, h⟩ := h; wp_walk using wpAny_loadPart' hl, wpAny_load hl; exact ⟨_, rfl, h⟩
theorem str_dec_ins (b : Str) (u : Tok) (l C dx : Addr) :
    Meets (Builtin.«str.__eq__» ⟨[.str b u, .ref l], []⟩) (fun _ R s => s.heap.get? l = some { cls := .ref C, dict := some dx, data := .plain } ∧ R (.ok (.ret .notImplemented)) s) :=
  .of_wp fun prog w A R s h => by obtain ⟨hp, g, d, tk, os⟩ := s; obtain ⟨hl, h⟩ := h; wp_walk using wpAny_loadPart' hl, wpAny_load hl; exact ⟨_, rfl, h⟩
theorem wpAny_noInst {M : Model} {T : String} {Q : Bool → Shared → Prop} (X : K.In s.heap) (I : PySem.W.InstAt s.heap x (PySem.W.instObj C dx) C od) (hn : PySem.W.mroIn K C (.type T) = some false) (h : Q false s) : wpAny M A (isInstance (.ref x) (.type T)) Q E s := by
  unfold isInstance
  exact wpAny_bind (I.type.here ((PySem.W.looks_mroIn X hn).here h))
theorem list_dec_ins (l : Addr) (X : K.In s.heap) (I : PySem.W.InstAt s.heap x (PySem.W.instObj C dx) C od) (hn : PySem.W.mroIn K C (.type "list") = some false) {Q : Fin → Shared → Prop} (h : Q (.done (.ret .notImplemented)) s) :
    wpAny (model prog w) A (Builtin.«list.__eq__» ⟨[.ref l, .ref x], []⟩) Q E s := by
  unfold Builtin.«list.__eq__»
  wp_walk using wpAny_noInst X I hn
  exact h
theorem tuple_dec_ins (l : Addr) (X : K.In s.heap) (I : PySem.W.InstAt s.heap x (PySem.W.instObj C dx) C od) (hn : PySem.W.mroIn K C (.type "tuple") = some false) {Q : Fin → Shared → Prop} (h : Q (.done (.ret .notImplemented)) s) :
    wpAny (model prog w) A (Builtin.«tuple.__eq__» ⟨[.ref l, .ref x], []⟩) Q E s := by
  unfold Builtin.«tuple.__eq__»
  wp_walk using wpAny_noInst X I hn
  exact h
theorem dict_dec_ins (l : Addr) (hT : s.TypeIs (.ref l) "dict") (X : K.In s.heap) (I : PySem.W.InstAt s.heap x (PySem.W.instObj C dx) C od) (hn : PySem.W.mroIn K C (.type "dict") = some false) {Q : Fin → Shared → Prop} (h : Q (.done (.ret .notImplemented)) s) :
    wpAny (model prog w) A (Builtin.«dict.__eq__» ⟨[.ref l, .ref x], []⟩) Q E s := by
  show wpAny _ _ (Builtin.Dict.dictSlotArgs "__eq__" ⟨[.ref l, .ref x], []⟩ >>= _) _ _ s
  refine wpAny_bind ?_
  unfold Builtin.Dict.dictSlotArgs
  refine wpAny_bind (wpAny_notOrdered_dict hT ?_)
  show wpAny _ _ (pure (Value.ref l, Value.ref x)) _ _ s
  refine wpAny_pure ?_
  refine wpAny_bind (wpAny_noInst X I hn ?_)
  simp only [Bool.not_false, if_true]
  refine wpAny_bind (wpAny_rule ?_)
  exact wpAny_pure h
end
theorem cmpback_ {P : Value → Shared → Prop} {z : V} {v : Value} {s' : Shared} (r : RelV z v) (h : P v s') : PySem.W.CmpBack P v s' := by
  cases v with
  | notImplemented =>
    cases z with
    | int i => exact nomatch (show ∃ t, Value.notImplemented = Value.int i t from r)
    | str i => exact nomatch (show ∃ t, Value.notImplemented = Value.str i t from r)
    | byt i => exact nomatch (show ∃ t, Value.notImplemented = Value.bytes i t from r)
    | flt i => exact nomatch (show ∃ t, Value.notImplemented = Value.float i t from r)
    | non => exact nomatch (show Value.notImplemented = Value.none from r)
    | bl b => exact nomatch (show Value.notImplemented = Value.bool b from r)
    | ref a => exact nomatch (show Value.notImplemented = Value.ref a from r)
    | ty n => exact nomatch (show Value.notImplemented = Value.type n from r)
  | _ => exact h
/-- values whose == declines an instance -/
inductive Dec (K : PySem.W.Frag) (H : Hp) : V → Prop where
  | non : Dec K H .non
  | bl (b : Bool) : Dec K H (.bl b)
  | int (i : Int) : Dec K H (.int i)
  | str (z : Str) : Dec K H (.str z)
  | lst {a : Addr} {xs : List V} (e : SqL K H a xs) : Dec K H (.ref a)
  | tup {a : Addr} {xs : List V} (e : SqT K H a xs) : Dec K H (.ref a)
  | dK {a : Addr} {kvs : List (Key × V)} (e : H a = some (.dK kvs)) : Dec K H (.ref a)
/-- a rich comparison below the running body -/
def RcO (X : Cx) (k : Nat) (r : R2) : Prop := ∀ (A : Around) (pins : List (Addr × Obj)) (s : Shared) (σ : L2.St) (H : Hp) (x y : V) (u v : Value) (Q : VK), Rm k A → A.frames = X.A.frames → Inv X pins σ H s → RelV x u → RelV y v → r x y H Q →
  wpAny (model X.prog X.w) A (richCompare .Eq u v) (EP X pins σ Q) X.xe s
section
variable {X : Cx} {k : Nat} {f C : Addr} {sp : Sp} {pins : List (Addr × Obj)} {σ : L2.St} {H : Hp} {s : Shared}
theorem dec_try {x : Addr} {dx : Addr} {od : Option Obj} {z : V} {u : Value} (I : Inv X pins σ H s) (r : RelV z u) (d : Dec X.K H z) (J : PySem.W.InstAt s.heap x (PySem.W.instObj C dx) C od) (nb : NoBase X.K C) :
    ∃ T, s.TypeIs u T ∧ oneThing? .Eq u (.ref x) = none ∧ PySem.W.mroIn X.K C (.type T) = some false ∧ ∀ (A : Around) (E : Value → Shared → Prop) (Q' : Option Value → Shared → Prop), Q' none s → wpAny (model X.prog X.w) A (tryCompare u "__eq__" (.ref x)) Q' E s := by
  cases d with
  | non =>
    cases (show u = Value.none from r)
    exact ⟨"NoneType", rfl, rfl, nb.non, fun A E Q' h => wpAny_tryCompare_declines (show s.TypeIs .none "NoneType" from rfl) F.slot_NoneType_eq (call_gives F.slot_NoneType_eq rfl F.entry_NoneType_eq (F.args_NoneType_eq_2 _ _) (NoneType___eq___none_ref_0 x) ⟨rfl, h⟩)⟩
  | bl b =>
    cases (show u = Value.bool b from r)
    exact ⟨"bool", rfl, rfl, nb.bl, fun A E Q' h => wpAny_tryCompare_declines (show s.TypeIs (.bool b) "bool" from rfl) F.slot_bool_eq (call_meets F.slot_bool_eq rfl F.entry_int_eq (F.args_int_eq_2 _ _) (bool_dec_ins b x C dx) ⟨J.at_, rfl, h⟩)⟩
  | int i =>
    obtain ⟨t, e⟩ := (show ∃ t, u = Value.int i t from r)
    cases e
    exact ⟨"int", typeIs_int s i t, rfl, nb.int, fun A E Q' h => wpAny_tryCompare_declines (typeIs_int s i t) F.slot_int_eq (call_meets F.slot_int_eq (typeIs_int s i t) F.entry_int_eq (F.args_int_eq_2 _ _) (int_dec_ins i t x C dx) ⟨J.at_, rfl, h⟩)⟩
  | str z =>
    obtain ⟨t, e⟩ := (show ∃ t, u = Value.str z t from r)
    cases e
    exact ⟨"str", typeIs_str s z t, rfl, nb.str, fun A E Q' h => wpAny_tryCompare_declines (typeIs_str s z t) F.slot_str_eq (call_meets F.slot_str_eq (typeIs_str s z t) F.entry_str_eq (F.args_str_eq_2 _ _) (str_dec_ins z t x C dx) ⟨J.at_, rfl, h⟩)⟩
  | @lst a xs e =>
    cases (show u = Value.ref a from r)
    obtain ⟨its, rl, pl, hz⟩ := I.list e
    obtain ⟨o, n, ho, hc, _⟩ := pl
    have hT : s.TypeIs (.ref a) "list" := ⟨_, ho, hc⟩
    exact ⟨"list", hT, oneThing_ref _ _ _, nb.lst, fun A E Q' h => wpAny_tryCompare_declines hT F.slot_list_eq (wpAny_call_entry F.slot_list_eq hT F.entry_list_eq (list_dec_ins a I.kIn J nb.lst ⟨_, rfl, rfl, h⟩) (F.args_list_eq_2 _ _))⟩
  | @tup a xs e =>
    cases (show u = Value.ref a from r)
    obtain ⟨its, rl, ⟨o, ho, hc, n, d⟩, hz⟩ := I.tuple e
    have hT : s.TypeIs (.ref a) "tuple" := ⟨_, ho, hc⟩
    exact ⟨"tuple", hT, oneThing_ref _ _ _, nb.tup, fun A E Q' h => wpAny_tryCompare_declines hT F.slot_tuple_eq (wpAny_call_entry F.slot_tuple_eq hT F.entry_tuple_eq (tuple_dec_ins a I.kIn J nb.tup ⟨_, rfl, rfl, h⟩) (F.args_tuple_eq_2 _ _))⟩
  | @dK a kvs e =>
    cases (show u = Value.ref a from r)
    have hT : s.TypeIs (.ref a) "dict" := by
      obtain ⟨_, _, vs, _, hD⟩ := (show ObjOk _ _ H s.heap a (.dK kvs) from I.hok a _ e)
      exact hD.typeIs
    exact ⟨"dict", hT, oneThing_ref _ _ _, nb.dct, fun A E Q' h => wpAny_tryCompare_declines hT F.slot_dict_eq (wpAny_call_entry F.slot_dict_eq hT F.entry_dict_eq (dict_dec_ins a hT I.kIn J nb.dct ⟨_, rfl, rfl, h⟩) (F.args_dict_eq_2 _ _))⟩
/-- x == y: x an instance of C -/
def rEqL (K : PySem.W.Frag) (C : Addr) (sp : Sp) : R2 := fun x y H Q => ∃ a dx fs t, x = .ref a ∧ H a = some (.ins C dx fs) ∧ TyX K H y t ∧ NoSub K C t ∧ sp [x, y] H Q (fun _ _ _ => False)
/-- x == y: y an instance of C, x declines -/
def rEqR (K : PySem.W.Frag) (C : Addr) (sp : Sp) : R2 := fun x y H Q => ∃ a dx fs, y = .ref a ∧ H a = some (.ins C dx fs) ∧ Dec K H x ∧ sp [y, x] H Q (fun _ _ _ => False)
theorem rco_L (hm : Meth X.K C "__eq__" f) (F : Fc X.prog X.w X.K X.mg X.base k f [] sp) : RcO X k (rEqL X.K C sp) := by
  intro A pins s σ H x y u v Q hr hf I rx ry h
  obtain ⟨a, dx, fs, t, rfl, ha, ty, ns, hsp⟩ := h
  cases (show u = Value.ref a from rx)
  obtain ⟨mA, J, _⟩ := ins_get I.hok ha
  obtain ⟨od, J, _⟩ := J.look
  obtain ⟨P, kx, hP, _⟩ := kit_of I ry ty
  have run := run_fcA (A := A) (W := fun _ _ _ _ => False) (us := [.ref a, v]) (ws := []) (vs := [.ref a, y]) (σ := σ) F hr hf takes0 I (.cons rfl (.cons ry .nil)) rfl hsp
  refine rc_ownL (by have := hr.rm.un; omega) I.kIn J (kx.ty _ _ I.kIn hP) ns hm (wpAny_mono run (fun w s' z => ?_) fun _ _ x => x)
  obtain ⟨z', H', I', rz, qz⟩ := z
  exact cmpback_ rz ⟨z', H', I', rz, qz⟩
theorem rco_R (nb : NoBase X.K C) (hm : Meth X.K C "__eq__" f) (F : Fc X.prog X.w X.K X.mg X.base k f [] sp) : RcO X k (rEqR X.K C sp) := by
  intro A pins s σ H x y u v Q hr hf I rx ry h
  obtain ⟨a, dx, fs, rfl, ha, d, hsp⟩ := h
  cases (show v = Value.ref a from ry)
  obtain ⟨mA, J, _⟩ := ins_get I.hok ha
  obtain ⟨od, J, _⟩ := J.look
  obtain ⟨T, hT, h1, hn, hd⟩ := dec_try I rx d J nb
  have run := run_fcA (A := A) (W := fun _ _ _ _ => False) (us := [.ref a, u]) (ws := []) (vs := [.ref a, x]) (σ := σ) F hr hf takes0 I (.cons rfl (.cons rx .nil)) rfl hsp
  refine rc_ownR (by have := hr.rm.un; omega) I.kIn J hT h1 hn hm (hd _ _) (wpAny_mono run (fun w s' z => ?_) fun _ _ x => x)
  obtain ⟨z', H', I', rz, qz⟩ := z
  exact cmpback_ rz ⟨z', H', I', rz, qz⟩
def rOr (r r' : R2) : R2 := fun x y H Q => r x y H Q ∨ r' x y H Q
theorem rco_or {r r' : R2} (h : RcO X k r) (h' : RcO X k r') : RcO X k (rOr r r') := fun A pins s σ H x y u v Q hr hf I rx ry q =>
  q.elim (fun q => h A pins s σ H x y u v Q hr hf I rx ry q) fun q => h' A pins s σ H x y u v Q hr hf I rx ry q
theorem rco_mono {r : R2} {j : Nat} (h : RcO X j r) (hj : j ≤ k) : RcO X k r := fun A pins s σ H x y u v Q hr hf I rx ry q => h A pins s σ H x y u v Q (hr.mono hj) hf I rx ry q
theorem op_eqO {r : R2} (h : RcO X k r) (hr : Rm k X.A) : OpR X (compareOp .Eq) r := fun pins s σ H x y u v Q I rx ry q => h X.A pins s σ H x y u v Q hr rfl I rx ry q
theorem ifBound_objNe {M : Model} {A : Around} {E : Value → Shared → Prop} {K : PySem.W.Frag} {x : Addr} {ox : Obj} {od : Option Obj} {args : List Value} {Q : Option Value → Shared → Prop} (X : K.In s.heap) (I : PySem.W.InstAt s.heap x ox C od) (hs : PySem.W.findIn K (.ref C) "__ne__" = some (some (.builtin "object.__ne__")))
    (h : wpAny M A (call (.builtin "object.__ne__") (.ref x :: args)) (fun v => Q (some v)) E s) : wpAny M A (callSpecialIfBound? (.ref x) "__ne__" args) Q E s := by
  simp only [callSpecialIfBound?, bindSpecialIfBound?]
  refine wpAny_holding (wpAny_bind (wpAny_bind (wpAny_bind (I.type.here ((PySem.W.looks_findIn X hs).here ?_)))))
  refine wpAny_bind (wpAny_askSetting (wpAny_ite ?_))
  have fin : wpAny M A (call (.builtin "object.__ne__") ([.ref x] ++ args) >>= fun v => pure (some v)) Q E s := wpAny_bind (wpAny_mono h (fun v s' h' => wpAny_pure h') fun _ _ h' => h')
  split
  · exact wpAny_bind (wpAny_of_eq (F.cmp_object.ne.bind _) (wpAny_pure (by exact fin)))
  · exact wpAny_tryCatch (wpAny_bind (wpAny_of_eq (F.cmp_object.ne.bind _) (wpAny_pure (by exact fin))))
/-- x != y by the own ==: x an instance of C -/
def rNeL (K : PySem.W.Frag) (C : Addr) (sp : Sp) : R2 := fun x y H Q => ∃ a dx fs t, x = .ref a ∧ H a = some (.ins C dx fs) ∧ TyX K H y t ∧ NoSub K C t ∧ sp [x, y] H (fun v H' => ∃ b, v = .bl b ∧ Q (.bl (!b)) H') (fun _ _ _ => False)
theorem op_neO (nb : NoBase X.K C) (hm : Meth X.K C "__eq__" f) (F : Fc X.prog X.w X.K X.mg X.base k f [] sp) (hr : Rm (k + 1) X.A) : OpR X (compareOp .NotEq) (rNeL X.K C sp) := by
  intro pins s σ H x y u v Q I rx ry h
  obtain ⟨a, dx, fs, t, rfl, ha, ty, ns, hsp⟩ := h
  cases (show u = Value.ref a from rx)
  obtain ⟨mA, J, _⟩ := ins_get I.hok ha
  obtain ⟨od, J, _⟩ := J.look
  obtain ⟨P, kx, hP, _⟩ := kit_of I ry ty
  have hb := kx.ty (model X.prog X.w) _ I.kIn hP
  have run := run_fcA (A := X.A.in1) (W := fun _ _ _ _ => False) (us := [.ref a, v]) (ws := []) (vs := [.ref a, y]) (σ := σ) F hr.in1 rfl takes0 I (.cons rfl (.cons ry .nil)) rfl hsp
  have one : wpAny (model X.prog X.w) X.A (tryCompare (.ref a) "__ne__" v) (fun r s' => ∃ z, r = some z ∧ EP X pins σ Q z s') X.xe s := by
    unfold tryCompare
    refine wpAny_bind (ifBound_objNe I.kIn J nb.ne (wpAny_call (codeAny_call_builtin PySem.F.cmp_object.ne.plain PySem.F.cmpEntry_ne (PySem.W.check_slot PySem.F.cmpKind_ne PySem.F.cmpSplit_ne (J.type.andThen (PySem.W.looks_mroIn I.kIn nb.ob)) (PySem.F.cmpArgs_ne _ _) ?_))))
    show wpAny _ X.A.in1 _ _ _ _
    have two : wpAny (model X.prog X.w) X.A.in1 (callSpecialIfBound? (.ref a) "__eq__" [v]) (fun r s' => ∃ b, r = some (.bool b) ∧ ∃ H', Inv X pins σ H' s' ∧ Q (.bl (!b)) H') X.xe s := by
      refine PySem.W.ifBound_K I.kIn J hm.at_ hm.fn (wpAny_mono run (fun w s' z => ?_) fun _ _ x => x)
      obtain ⟨z', H', I', rz, b, rfl, qz⟩ := z
      cases (show w = Value.bool b from rz)
      exact ⟨b, rfl, H', I', qz⟩
    unfold Builtin.«object.__ne__»
    refine wpAny_bind (wpAny_pure ?_)
    refine wpAny_bind (wpAny_cRoomFor (by have := hr.in1.rm.un; omega) ?_)
    refine wpAny_bind (wpAny_mono two (fun r s' z => ?_) fun _ _ x => x)
    obtain ⟨b, rfl, H', I', qz⟩ := z
    refine wpAny_bind (wpAny_truthy_bool ?_)
    exact wpAny_pure (wpAny_pure ⟨_, rfl, ⟨.bl (!b), H', I', rfl, qz⟩⟩)
  show wpAny _ _ (richCompare .NotEq (.ref a) v) _ _ _
  simp only [richCompare, cmpInfo_NotEq, oneThing_ref]
  refine wpAny_holding (wpAny_bind (wpAny_cRoomFor (by have := hr.rm.un; omega) ?_))
  refine wpAny_bind (J.type.here (wpAny_bind (hb.here ?_)))
  split
  · rename_i q
    refine wpAny_bind ((noSub_look ns I.kIn q).here ?_)
    simp only [Bool.false_eq_true, if_false]
    refine wpAny_bind (wpAny_mono one (fun r s' z => ?_) fun _ _ e => e)
    obtain ⟨v, rfl, hq⟩ := z
    exact wpAny_pure hq
  · refine wpAny_bind (wpAny_pure ?_)
    simp only [Bool.false_eq_true, if_false]
    refine wpAny_bind (wpAny_mono one (fun r s' z => ?_) fun _ _ e => e)
    obtain ⟨v, rfl, hq⟩ := z
    exact wpAny_pure hq
/-- x in a list, each item compared by r, the same object found ahead -/
def inW (r : R2) (K : PySem.W.Frag) (a : Addr) (ys : List V) (b : Addr) : List V → Hp → (Bool → Hp → Prop) → Prop
  | [], H, Q => SqL K H a ys ∧ Q false H
  | y :: l, H, Q => SqL K H a ys ∧ ((y = .ref b ∧ Q true H) ∨ (y ≠ .ref b ∧ r y (.ref b) H fun v H' => ∃ z, v = .bl z ∧ if z = true then Q true H' else inW r K a ys b l H' Q))
def rInO (r : R2) (K : PySem.W.Frag) : R2 := fun x y H Q => ∃ b a ys, x = .ref b ∧ y = .ref a ∧ inW r K a ys b ys H fun b H' => Q (.bl b) H'
theorem eqBool_itm {A : Around} {r : R2} {b : Addr} {y : V} {u : Value} (h : RcO X k r) (hr : Rm k A) (hf : A.frames = X.A.frames) (I : Inv X pins σ H s) (ry : RelV y u) {Q : Bool → Hp → Prop}
    (q : (y = .ref b ∧ Q true H) ∨ (y ≠ .ref b ∧ r y (.ref b) H fun v H' => ∃ z, v = .bl z ∧ Q z H')) : wpAny (model X.prog X.w) A (eqBool u (.ref b)) (fun z s' => ∃ H', Inv X pins σ H' s' ∧ Q z H') X.xe s := by
  rcases q with ⟨rfl, q⟩ | ⟨ne, q⟩
  · cases (show u = Value.ref b from ry)
    exact SeqAt.EqAt.same (A := A) (s := s) (.ref b) X.prog X.w X.xe _ ⟨H, I, q⟩
  · have hu : (u == Value.ref b) = false := by
      rw [beq_eq_false_iff_ne]
      rintro rfl
      apply ne
      cases y with
      | ref a => injection (show Value.ref b = Value.ref a from ry) with e; rw [e]
      | int i => exact nomatch (show ∃ t, Value.ref b = Value.int i t from ry)
      | str i => exact nomatch (show ∃ t, Value.ref b = Value.str i t from ry)
      | byt i => exact nomatch (show ∃ t, Value.ref b = Value.bytes i t from ry)
      | flt i => exact nomatch (show ∃ t, Value.ref b = Value.float i t from ry)
      | non => exact nomatch (show Value.ref b = Value.none from ry)
      | bl c => exact nomatch (show Value.ref b = Value.bool c from ry)
      | ty n => exact nomatch (show Value.ref b = Value.type n from ry)
    have run := h A pins s σ H y (.ref b) u (.ref b) _ hr hf I ry rfl q
    unfold eqBool
    refine wpAny_holding ?_
    refine wpAny_ite_split (fun hab => absurd hab (by rw [hu]; decide)) (fun _ => ?_)
    have fin : wpAny (model X.prog X.w) A (richCompare .Eq u (.ref b) >>= fun v => truthOfDropped v) (fun z s' => ∃ H', Inv X pins σ H' s' ∧ Q z H') X.xe s := by
      refine wpAny_bind (wpAny_mono run (fun v s' hv => ?_) fun _ _ x => x)
      obtain ⟨z', H', I', rz, z, rfl, q⟩ := hv
      cases (show v = Value.bool z from rz)
      exact wpAny_truthy_bool ⟨H', I', q⟩
    cases u <;> exact fin
theorem in_loop {r : R2} {a b : Addr} {ys : List V} (h : RcO X k r) {R : Result → Shared → Prop} (hE : ∀ e s', X.xe e s' → R (.error e) s') (hr : Rm (k + 1) X.A) (Q : Bool → Hp → Prop) (hR : ∀ z H' s', Inv X pins σ H' s' → Q z H' → R (.ok (.ret (.bool z))) s') :
    ∀ (l : List V) (i : Nat) (H : Hp) (s : Shared), l = ys.drop i → Inv X pins σ H s → inW r X.K a ys b l H Q → wpAny (model X.prog X.w) X.A.in1 (Builtin.«list.__contains__.loop» ⟨[.ref a, .ref b, rawInt i], []⟩) (GQ.FinOf X.prog X.w X.A R) (fun e s' => R (.error e) s') s
  | [], i, H, s, el, I, hq => by
    obtain ⟨hS, q⟩ := hq
    obtain ⟨its, rl, pl, hz⟩ := I.list hS
    obtain ⟨⟨cls, dd, data, sl⟩, n, ho, hc, hd, hs⟩ := pl
    simp only at hc hd hs
    subst hc hd hs
    have hlen : ys.length ≤ i := List.drop_eq_nil_iff.mp el.symm
    have hR' := hR false H s I q
    have hl2 : its.length = ys.length := rl.length.symm
    obtain ⟨hp, g, d, tk, os⟩ := s
    wp_walk using AutoSeq1.wpAny_loadPart' ho
    have hi : its.toArray[((i : Nat) : Int).toNat]? = none := by simp; omega
    rw [hi]
    wp_walk
    exact hR'
  | y :: l, i, H, s, el, I, hq => by
    obtain ⟨hS, q⟩ := hq
    obtain ⟨its, rl, pl, hz⟩ := I.list hS
    obtain ⟨⟨cls, dd, data, sl⟩, n, ho, hc, hd, hs⟩ := pl
    simp only at hc hd hs
    subst hc hd hs
    have hy : ys[i]? = some y := by
      have : (ys.drop i)[0]? = some y := by rw [← el]; rfl
      rwa [List.getElem?_drop] at this
    obtain ⟨u, hu, ry⟩ : ∃ u, its[i]? = some u ∧ RelV y u := rl.get hy
    have step := eqBool_itm (A := X.A.in1) (Q := fun z H' => if z = true then Q true H' else inW r X.K a ys b l H' Q) h hr.in1 rfl I ry (q.imp (fun q => ⟨q.1, by simpa using q.2⟩) id)
    have rec_ := fun H' s' I' => in_loop (a := a) (b := b) h hE hr Q hR l (i + 1) H' s' (by rw [← List.tail_drop, ← el]; rfl) I'
    obtain ⟨hp, g, d, tk, os⟩ := s
    wp_walk using AutoSeq1.wpAny_loadPart' ho
    have hi : its.toArray[((i : Nat) : Int).toNat]? = some u := by simpa using hu
    rw [hi]
    refine wpAny_bind (wpAny_mono step (fun z s' hz => ?_) hE)
    obtain ⟨H', I', qz⟩ := hz
    cases z with
    | true =>
      have hR' := hR true H' s' I' (by simpa using qz)
      obtain ⟨hp2, g2, d2, tk2, os2⟩ := s'
      wp_walk
      exact hR'
    | false =>
      have hrec := rec_ H' s' I' (by simpa using qz)
      have hc : ((i : Int) + 1) = ((i + 1 : Nat) : Int) := by omega
      obtain ⟨hp2, g2, d2, tk2, os2⟩ := s'
      wp_walk
      rw [hc]
      exact ⟨plainId_quiet MeetsSeq.plain_contains_loop _, codeAny_builtin MeetsSeq.entry_contains_loop (by
        rw [Around.under_plainId MeetsSeq.plain_contains_loop _]
        exact hrec)⟩
theorem op_inO {r : R2} (h : RcO X k r) (hr : Rm (k + 1) X.A) : OpR X (compareOp .In) (rInO r X.K) := by
  intro pins s σ H x y u v Q I rx ry hq
  obtain ⟨b, a, ys, rfl, rfl, hq⟩ := hq
  cases (show u = Value.ref b from rx)
  cases (show v = Value.ref a from ry)
  have hS : SqL X.K H a ys := by cases ys with | nil => exact hq.1 | cons _ _ => exact hq.1
  obtain ⟨its, rl, pl, hz⟩ := I.list hS
  obtain ⟨o, n, ho, hc, _⟩ := pl
  have hT : s.TypeIs (.ref a) "list" := ⟨_, ho, hc⟩
  show wpAny _ X.A (contains (.ref a) (.ref b) >>= fun z => pure (Value.bool z)) _ _ s
  refine wpAny_bind (wpAny_contains_slot hT PySem.F.slot_list_contains (wpAny_mono (Q := fun (v : Value) s' => ∃ z, v = Value.bool z ∧ EP X pins σ Q (Value.bool z) s') (GQ.call_here PySem.F.slot_list_contains hT PySem.F.entry_list_contains (PySem.F.args_list_contains_2 _ _) ?_) (fun v s' hv => ?_) fun _ _ e => e))
  · have hrec := in_loop h (R := wants (fun v s' => ∃ z, v = .bool z ∧ EP X pins σ Q (.bool z) s') X.xe) (fun e s' x => x) hr (fun b H' => Q (.bl b) H') (fun z H' s' I' q => ⟨z, rfl, .bl z, H', I', rfl, q⟩) ys 0 H s rfl I hq
    obtain ⟨hp, g, d, tk, os⟩ := s
    wp_walk
    exact ⟨plainId_quiet MeetsSeq.plain_contains_loop _, codeAny_builtin MeetsSeq.entry_contains_loop (by
      rw [Around.under_plainId MeetsSeq.plain_contains_loop _]
      exact hrec)⟩
  · obtain ⟨z, rfl, hq⟩ := hv
    exact wpAny_truthy_bool (wpAny_pure hq)
theorem rco_LK (K : PySem.W.Frag) (hm : Meth K C "__eq__" f) (F : Fc X.prog X.w K X.mg X.base k f [] sp) (h : X.K = K := by rfl) : RcO X k (rEqL K C sp) := by
  subst h
  exact rco_L hm F
theorem rco_RK (K : PySem.W.Frag) (nb : NoBase K C) (hm : Meth K C "__eq__" f) (F : Fc X.prog X.w K X.mg X.base k f [] sp) (h : X.K = K := by rfl) : RcO X k (rEqR K C sp) := by
  subst h
  exact rco_R nb hm F
theorem op_neOK (K : PySem.W.Frag) (nb : NoBase K C) (hm : Meth K C "__eq__" f) (F : Fc X.prog X.w K X.mg X.base k f [] sp) (hr : Rm (k + 1) X.A) (h : X.K = K := by rfl) : OpR X (compareOp .NotEq) (rNeL K C sp) := by
  subst h
  exact op_neO nb hm F hr
theorem op_inOK (K : PySem.W.Frag) {r : R2} (h : RcO X k r) (hr : Rm (k + 1) X.A) (e : X.K = K := by rfl) : OpR X (compareOp .In) (rInO r K) := by
  subst e
  exact op_inO h hr
end
end L3
set_option Elab.async false
set_option linter.all false
set_option maxRecDepth 100000
set_option maxHeartbeats 4000000
namespace Toy
open PySem PySem.Spec PyProof.Rows L2 L3
def top (i : Nat) : Stmt := PySem.Challenge.pw_shortgoings_k49_whole_first_apart.main.body.getD i (.Pass ⟨0, 0, 0, 0⟩)
abbrev s__wall : Stmt := top 0
abbrev s_is_whole : Stmt := top 5
abbrev s_is_moment : Stmt := top 6
abbrev s_want_day : Stmt := top 11
abbrev s_are_signs : Stmt := top 12
abbrev s_Ring_init : Stmt := inClass (top 13) 0
abbrev s_Ring_eq : Stmt := inClass (top 13) 1
abbrev s_Ring_len : Stmt := inClass (top 13) 2
abbrev s_Ring_str : Stmt := inClass (top 13) 3
abbrev s_Ring_repr : Stmt := inClass (top 13) 4
abbrev s_Ring_rings : Stmt := inClass (top 13) 5
abbrev s_Ring_least : Stmt := inClass (top 13) 6
abbrev s_told_days : Stmt := top 20
abbrev s_want_till : Stmt := top 21
abbrev s_Days_init : Stmt := inClass (top 22) 0
abbrev s_Days_eq : Stmt := inClass (top 22) 1
abbrev s_Days_str : Stmt := inClass (top 22) 2
abbrev s_Days_repr : Stmt := inClass (top 22) 3
abbrev s_Days_has : Stmt := inClass (top 22) 4
abbrev s_Days_first_from : Stmt := inClass (top 22) 5
abbrev s_Days_how_many : Stmt := inClass (top 22) 6
abbrev s_Days_among : Stmt := inClass (top 22) 7
abbrev s_edges_of : Stmt := top 23
abbrev s_stretches : Stmt := top 24
abbrev s_first_days : Stmt := top 25
abbrev s_common_round : Stmt := top 26
abbrev s_first_apart : Stmt := top 27
abbrev s__law_pot : Stmt := top 29
abbrev s__law_take : Stmt := top 30
abbrev s__law_great : Stmt := top 31
abbrev s__law_bits : Stmt := top 32
abbrev s__law_near : Stmt := top 33
abbrev s__law_few : Stmt := top 34
abbrev s__law_some : Stmt := top 35
abbrev s__law_has : Stmt := top 36
abbrev s__law_made : Stmt := top 37
abbrev s__law_edges : Stmt := top 38
abbrev s__law_pair : Stmt := top 39
abbrev s__law_alike : Stmt := top 40
abbrev s__law_right : Stmt := top 41
abbrev s__law_unlike : Stmt := top 42
abbrev s_law : Stmt := top 43
theorem sc__wall : FnScope ["k"] ["k"] (defScope s__wall) := ⟨rfl, rfl, rfl, by decide +kernel, rfl, by decide +kernel, by decide +kernel⟩
theorem sc_is_whole : FnScope ["thing"] ["thing"] (defScope s_is_whole) := ⟨rfl, rfl, rfl, by decide +kernel, rfl, by decide +kernel, by decide +kernel⟩
theorem sc_is_moment : FnScope ["thing"] ["thing"] (defScope s_is_moment) := ⟨rfl, rfl, rfl, by decide +kernel, rfl, by decide +kernel, by decide +kernel⟩
theorem sc_want_day : FnScope ["thing"] ["thing"] (defScope s_want_day) := ⟨rfl, rfl, rfl, by decide +kernel, rfl, by decide +kernel, by decide +kernel⟩
theorem sc_are_signs : FnScope ["thing", "sign"] ["thing"] (defScope s_are_signs) := ⟨rfl, rfl, rfl, by decide +kernel, rfl, by decide +kernel, by decide +kernel⟩
theorem sc_Ring_init : FnScope ["self", "text"] ["self", "text"] (defScope s_Ring_init) := ⟨rfl, rfl, rfl, by decide +kernel, rfl, by decide +kernel, by decide +kernel⟩
theorem sc_Ring_eq : FnScope ["self", "other"] ["self", "other"] (defScope s_Ring_eq) := ⟨rfl, rfl, rfl, by decide +kernel, rfl, by decide +kernel, by decide +kernel⟩
theorem sc_Ring_len : FnScope ["self"] ["self"] (defScope s_Ring_len) := ⟨rfl, rfl, rfl, by decide +kernel, rfl, by decide +kernel, by decide +kernel⟩
theorem sc_Ring_str : FnScope ["self"] ["self"] (defScope s_Ring_str) := ⟨rfl, rfl, rfl, by decide +kernel, rfl, by decide +kernel, by decide +kernel⟩
theorem sc_Ring_repr : FnScope ["self"] ["self"] (defScope s_Ring_repr) := ⟨rfl, rfl, rfl, by decide +kernel, rfl, by decide +kernel, by decide +kernel⟩
theorem sc_Ring_rings : FnScope ["self", "day"] ["self", "day"] (defScope s_Ring_rings) := ⟨rfl, rfl, rfl, by decide +kernel, rfl, by decide +kernel, by decide +kernel⟩
theorem sc_Ring_least : FnScope ["self", "many", "some", "k"] ["self"] (defScope s_Ring_least) := ⟨rfl, rfl, rfl, by decide +kernel, rfl, by decide +kernel, by decide +kernel⟩
theorem sc_told_days : FnScope ["thing", "day", "found", "one", "other"] ["thing"] (defScope s_told_days) := ⟨rfl, rfl, rfl, by decide +kernel, rfl, by decide +kernel, by decide +kernel⟩
theorem sc_want_till : FnScope ["since", "till"] ["since", "till"] (defScope s_want_till) := ⟨rfl, rfl, rfl, by decide +kernel, rfl, by decide +kernel, by decide +kernel⟩
theorem sc_Days_init : FnScope ["self", "ring", "since", "till", "out", "also", "day"] ["self", "ring", "since", "till", "out", "also"] (defScope s_Days_init) := ⟨rfl, rfl, rfl, by decide +kernel, rfl, by decide +kernel, by decide +kernel⟩
theorem sc_Days_eq : FnScope ["self", "other"] ["self", "other"] (defScope s_Days_eq) := ⟨rfl, rfl, rfl, by decide +kernel, rfl, by decide +kernel, by decide +kernel⟩
theorem sc_Days_str : FnScope ["self", "words", "word", "some", "day"] ["self"] (defScope s_Days_str) := ⟨rfl, rfl, rfl, by decide +kernel, rfl, by decide +kernel, by decide +kernel⟩
theorem sc_Days_repr : FnScope ["self"] ["self"] (defScope s_Days_repr) := ⟨rfl, rfl, rfl, by decide +kernel, rfl, by decide +kernel, by decide +kernel⟩
theorem sc_Days_has : FnScope ["self", "day"] ["self", "day"] (defScope s_Days_has) := ⟨rfl, rfl, rfl, by decide +kernel, rfl, by decide +kernel, by decide +kernel⟩
theorem sc_Days_first_from : FnScope ["self", "day"] ["self", "day"] (defScope s_Days_first_from) := ⟨rfl, rfl, rfl, by decide +kernel, rfl, by decide +kernel, by decide +kernel⟩
theorem sc_Days_how_many : FnScope ["self", "begin", "end"] ["self", "begin", "end"] (defScope s_Days_how_many) := ⟨rfl, rfl, rfl, by decide +kernel, rfl, by decide +kernel, by decide +kernel⟩
theorem sc_Days_among : FnScope ["self", "begin", "many"] ["self", "begin", "many"] (defScope s_Days_among) := ⟨rfl, rfl, rfl, by decide +kernel, rfl, by decide +kernel, by decide +kernel⟩
theorem sc_edges_of : FnScope ["some", "found", "days", "day"] ["some"] (defScope s_edges_of) := ⟨rfl, rfl, rfl, by decide +kernel, rfl, by decide +kernel, by decide +kernel⟩
theorem sc_stretches : FnScope ["edges", "begin", "end", "starts", "found", "here", "there", "edge"] ["edges", "begin", "end"] (defScope s_stretches) := ⟨rfl, rfl, rfl, by decide +kernel, rfl, by decide +kernel, by decide +kernel⟩
theorem sc_first_days : FnScope ["begin", "end", "many"] ["begin", "end", "many"] (defScope s_first_days) := ⟨rfl, rfl, rfl, by decide +kernel, rfl, by decide +kernel, by decide +kernel⟩
theorem sc_common_round : FnScope ["one", "other", "found"] ["one", "other"] (defScope s_common_round) := ⟨rfl, rfl, rfl, by decide +kernel, rfl, by decide +kernel, by decide +kernel⟩
theorem sc_first_apart : FnScope ["one", "other", "many", "begin", "end", "day"] ["one", "other"] (defScope s_first_apart) := ⟨rfl, rfl, rfl, by decide +kernel, rfl, by decide +kernel, by decide +kernel⟩
theorem sc__law_pot : FnScope ["_law_script", "_law_k", "_law_cell"] ["_law_script", "_law_k"] (defScope s__law_pot) := ⟨rfl, rfl, rfl, by decide +kernel, rfl, by decide +kernel, by decide +kernel⟩
theorem sc__law_take : FnScope ["_law_pot_here", "_law_many", "_law_digit"] ["_law_pot_here", "_law_many"] (defScope s__law_take) := ⟨rfl, rfl, rfl, by decide +kernel, rfl, by decide +kernel, by decide +kernel⟩
theorem sc__law_great : FnScope ["_law_pot_here", "_law_bound", "_law_found", "_law_k"] ["_law_pot_here", "_law_bound"] (defScope s__law_great) := ⟨rfl, rfl, rfl, by decide +kernel, rfl, by decide +kernel, by decide +kernel⟩
theorem sc__law_bits : FnScope ["_law_pot_here", "_law_k"] ["_law_pot_here"] (defScope s__law_bits) := ⟨rfl, rfl, rfl, by decide +kernel, rfl, by decide +kernel, by decide +kernel⟩
theorem sc__law_near : FnScope ["_law_pot_here", "_law_low", "_law_high", "_law_way"] ["_law_pot_here", "_law_low", "_law_high"] (defScope s__law_near) := ⟨rfl, rfl, rfl, by decide +kernel, rfl, by decide +kernel, by decide +kernel⟩
theorem sc__law_few : FnScope ["_law_pot_here", "_law_low", "_law_high", "_law_taken", "_law_found", "_law_k", "_law_spot"] ["_law_pot_here", "_law_low", "_law_high", "_law_taken"] (defScope s__law_few) := ⟨rfl, rfl, rfl, by decide +kernel, rfl, by decide +kernel, by decide +kernel⟩
theorem sc__law_some : FnScope ["_law_pot_here", "_law_way", "_law_bits_here", "_law_low", "_law_high", "_law_gone"] ["_law_pot_here"] (defScope s__law_some) := ⟨rfl, rfl, rfl, by decide +kernel, rfl, by decide +kernel, by decide +kernel⟩
theorem sc__law_has : FnScope ["_law_some_here", "_law_spot", "_law_bits_here", "_law_low", "_law_high", "_law_gone", "_law_more"] ["_law_some_here", "_law_spot"] (defScope s__law_has) := ⟨rfl, rfl, rfl, by decide +kernel, rfl, by decide +kernel, by decide +kernel⟩
theorem sc__law_made : FnScope ["_law_some_here"] ["_law_some_here"] (defScope s__law_made) := ⟨rfl, rfl, rfl, by decide +kernel, rfl, by decide +kernel, by decide +kernel⟩
theorem sc__law_edges : FnScope ["_law_some_here", "_law_found", "_law_spot"] ["_law_some_here"] (defScope s__law_edges) := ⟨rfl, rfl, rfl, by decide +kernel, rfl, by decide +kernel, by decide +kernel⟩
theorem sc__law_pair : FnScope ["_law_pot_here", "_law_way", "_law_head", "_law_bits_here", "_law_low", "_law_high", "_law_gone", "_law_more", "_law_many", "_law_spot", "_law_at"] ["_law_pot_here"] (defScope s__law_pair) := ⟨rfl, rfl, rfl, by decide +kernel, rfl, by decide +kernel, by decide +kernel⟩
theorem sc__law_alike : FnScope ["_law_head", "_law_two", "_law_high", "_law_edges_here", "_law_cuts", "_law_here", "_law_there", "_law_last", "_law_edge", "_law_spot"] ["_law_head", "_law_two", "_law_high"] (defScope s__law_alike) := ⟨rfl, rfl, rfl, by decide +kernel, rfl, by decide +kernel, by decide +kernel⟩
theorem sc__law_right : FnScope ["_law_found", "_law_head", "_law_two"] ["_law_found", "_law_head", "_law_two"] (defScope s__law_right) := ⟨rfl, rfl, rfl, by decide +kernel, rfl, by decide +kernel, by decide +kernel⟩
theorem sc__law_unlike : FnScope ["_law_days", "_law_some_here", "_law_things", "_law_thing"] ["_law_days", "_law_some_here"] (defScope s__law_unlike) := ⟨rfl, rfl, rfl, by decide +kernel, rfl, by decide +kernel, by decide +kernel⟩
theorem sc_law : FnScope ["_law_script", "_law_k", "_law_some_here", "_law_made_here", "_law_shown", "_law_found", "_law_due", "_law_told"] ["_law_script"] (defScope s_law) := ⟨rfl, rfl, rfl, by decide +kernel, rfl, by decide +kernel, by decide +kernel⟩
structure Env (K : PySem.W.Frag) (mg : Str → Option Value) : Prop where
  g__wall : mg "_wall" = some (.ref (He.ga K "_wall"))
  g_is_whole : mg "is_whole" = some (.ref (He.ga K "is_whole"))
  g_is_moment : mg "is_moment" = some (.ref (He.ga K "is_moment"))
  g_want_day : mg "want_day" = some (.ref (He.ga K "want_day"))
  g_are_signs : mg "are_signs" = some (.ref (He.ga K "are_signs"))
  g_told_days : mg "told_days" = some (.ref (He.ga K "told_days"))
  g_want_till : mg "want_till" = some (.ref (He.ga K "want_till"))
  g_edges_of : mg "edges_of" = some (.ref (He.ga K "edges_of"))
  g_stretches : mg "stretches" = some (.ref (He.ga K "stretches"))
  g_first_days : mg "first_days" = some (.ref (He.ga K "first_days"))
  g_common_round : mg "common_round" = some (.ref (He.ga K "common_round"))
  g_first_apart : mg "first_apart" = some (.ref (He.ga K "first_apart"))
  g__law_pot : mg "_law_pot" = some (.ref (He.ga K "_law_pot"))
  g__law_take : mg "_law_take" = some (.ref (He.ga K "_law_take"))
  g__law_great : mg "_law_great" = some (.ref (He.ga K "_law_great"))
  g__law_bits : mg "_law_bits" = some (.ref (He.ga K "_law_bits"))
  g__law_near : mg "_law_near" = some (.ref (He.ga K "_law_near"))
  g__law_few : mg "_law_few" = some (.ref (He.ga K "_law_few"))
  g__law_some : mg "_law_some" = some (.ref (He.ga K "_law_some"))
  g__law_has : mg "_law_has" = some (.ref (He.ga K "_law_has"))
  g__law_made : mg "_law_made" = some (.ref (He.ga K "_law_made"))
  g__law_edges : mg "_law_edges" = some (.ref (He.ga K "_law_edges"))
  g__law_pair : mg "_law_pair" = some (.ref (He.ga K "_law_pair"))
  g__law_alike : mg "_law_alike" = some (.ref (He.ga K "_law_alike"))
  g__law_right : mg "_law_right" = some (.ref (He.ga K "_law_right"))
  g__law_unlike : mg "_law_unlike" = some (.ref (He.ga K "_law_unlike"))
  g_law : mg "law" = some (.ref (He.ga K "law"))
  v_MOST_SIGNS : ∃ u, mg "MOST_SIGNS" = some u ∧ RelV (.int (7)) u
  v_NOUGHT : ∃ u, mg "NOUGHT" = some u ∧ RelV (.str "0") u
  v_ONE : ∃ u, mg "ONE" = some u ∧ RelV (.str "1") u
  v_MOST_DAYS : ∃ u, mg "MOST_DAYS" = some u ∧ RelV (.int (8)) u
  v_FROM : ∃ u, mg "FROM" = some u ∧ RelV (.str "from") u
  v_TO : ∃ u, mg "TO" = some u ∧ RelV (.str "to") u
  v_NOT : ∃ u, mg "NOT" = some u ∧ RelV (.str "not") u
  v_ALSO : ∃ u, mg "ALSO" = some u ∧ RelV (.str "also") u
  n_all : mg "all" = none
  n_any : mg "any" = none
  n_bool : mg "bool" = none
  n_divmod : mg "divmod" = none
  n_int : mg "int" = none
  n_isinstance : mg "isinstance" = none
  n_len : mg "len" = none
  n_list : mg "list" = none
  n_max : mg "max" = none
  n_min : mg "min" = none
  n_range : mg "range" = none
  n_repr : mg "repr" = none
  n_set : mg "set" = none
  n_sorted : mg "sorted" = none
  n_str : mg "str" = none
  n_tuple : mg "tuple" = none
  n_zip : mg "zip" = none
  g_GoingError : mg "GoingError" = some (.ref (He.ga K "GoingError"))
  x_GoingError : Exo K (He.ga K "GoingError") bmV "ValueError.__new__"
  g_NoDays : mg "NoDays" = some (.ref (He.ga K "NoDays"))
  x_NoDays : Exo K (He.ga K "NoDays") bmV "ValueError.__new__"
  g_Ring : mg "Ring" = some (.ref (He.ga K "Ring"))
  g_Days : mg "Days" = some (.ref (He.ga K "Days"))
  sys : SysK K
  c_Ring : Cls K (He.ga K "Ring")
  i_Ring : InsC K (He.ga K "Ring")
  a_Ring_bits : NoAttr K (He.ga K "Ring") "bits"
  m_Ring_init : Meth K (He.ga K "Ring") "__init__" (He.ma K (He.ga K "Ring") "__init__")
  m_Ring_eq : Meth K (He.ga K "Ring") "__eq__" (He.ma K (He.ga K "Ring") "__eq__")
  m_Ring_len : Meth K (He.ga K "Ring") "__len__" (He.ma K (He.ga K "Ring") "__len__")
  m_Ring_str : Meth K (He.ga K "Ring") "__str__" (He.ma K (He.ga K "Ring") "__str__")
  m_Ring_repr : Meth K (He.ga K "Ring") "__repr__" (He.ma K (He.ga K "Ring") "__repr__")
  m_Ring_rings : Meth K (He.ga K "Ring") "rings" (He.ma K (He.ga K "Ring") "rings")
  m_Ring_least : Meth K (He.ga K "Ring") "least" (He.ma K (He.ga K "Ring") "least")
  mk_Ring : Mk K (He.ga K "Ring") (He.ma K (He.ga K "Ring") "__init__")
  nb_Ring : NoBase K (He.ga K "Ring")
  kit_Ring_Ring : PySem.W.kitOne K (.ref (He.ga K "Ring")) (.ref (He.ga K "Ring")) = some true
  kit_Ring_Days : PySem.W.kitOne K (.ref (He.ga K "Ring")) (.ref (He.ga K "Days")) = some false
  kit_Ring_int : PySem.W.kitOne K (.ref (He.ga K "Ring")) (.type "int") = some false
  kit_Ring_bool : PySem.W.kitOne K (.ref (He.ga K "Ring")) (.type "bool") = some false
  kit_Ring_str : PySem.W.kitOne K (.ref (He.ga K "Ring")) (.type "str") = some false
  kit_Ring_list : PySem.W.kitOne K (.ref (He.ga K "Ring")) (.type "list") = some false
  kit_Ring_tuple : PySem.W.kitOne K (.ref (He.ga K "Ring")) (.type "tuple") = some false
  c_Days : Cls K (He.ga K "Days")
  i_Days : InsC K (He.ga K "Days")
  a_Days_ring : NoAttr K (He.ga K "Days") "ring"
  a_Days_since : NoAttr K (He.ga K "Days") "since"
  a_Days_till : NoAttr K (He.ga K "Days") "till"
  a_Days_out : NoAttr K (He.ga K "Days") "out"
  a_Days_also : NoAttr K (He.ga K "Days") "also"
  m_Days_init : Meth K (He.ga K "Days") "__init__" (He.ma K (He.ga K "Days") "__init__")
  m_Days_eq : Meth K (He.ga K "Days") "__eq__" (He.ma K (He.ga K "Days") "__eq__")
  m_Days_str : Meth K (He.ga K "Days") "__str__" (He.ma K (He.ga K "Days") "__str__")
  m_Days_repr : Meth K (He.ga K "Days") "__repr__" (He.ma K (He.ga K "Days") "__repr__")
  m_Days_has : Meth K (He.ga K "Days") "has" (He.ma K (He.ga K "Days") "has")
  m_Days_first_from : Meth K (He.ga K "Days") "first_from" (He.ma K (He.ga K "Days") "first_from")
  m_Days_how_many : Meth K (He.ga K "Days") "how_many" (He.ma K (He.ga K "Days") "how_many")
  m_Days_among : Meth K (He.ga K "Days") "among" (He.ma K (He.ga K "Days") "among")
  mk_Days : Mk K (He.ga K "Days") (He.ma K (He.ga K "Days") "__init__")
  nb_Days : NoBase K (He.ga K "Days")
  kit_Days_Ring : PySem.W.kitOne K (.ref (He.ga K "Days")) (.ref (He.ga K "Ring")) = some false
  kit_Days_Days : PySem.W.kitOne K (.ref (He.ga K "Days")) (.ref (He.ga K "Days")) = some true
  kit_Days_int : PySem.W.kitOne K (.ref (He.ga K "Days")) (.type "int") = some false
  kit_Days_bool : PySem.W.kitOne K (.ref (He.ga K "Days")) (.type "bool") = some false
  kit_Days_str : PySem.W.kitOne K (.ref (He.ga K "Days")) (.type "str") = some false
  kit_Days_list : PySem.W.kitOne K (.ref (He.ga K "Days")) (.type "list") = some false
  kit_Days_tuple : PySem.W.kitOne K (.ref (He.ga K "Days")) (.type "tuple") = some false
  kit_int_Ring : PySem.W.kitOne K (.type "int") (.ref (He.ga K "Ring")) = some false
  kit_bool_Ring : PySem.W.kitOne K (.type "bool") (.ref (He.ga K "Ring")) = some false
  kit_str_Ring : PySem.W.kitOne K (.type "str") (.ref (He.ga K "Ring")) = some false
  kit_NoneType_Ring : PySem.W.kitOne K (.type "NoneType") (.ref (He.ga K "Ring")) = some false
  kit_list_Ring : PySem.W.kitOne K (.type "list") (.ref (He.ga K "Ring")) = some false
  kit_tuple_Ring : PySem.W.kitOne K (.type "tuple") (.ref (He.ga K "Ring")) = some false
  kit_dict_Ring : PySem.W.kitOne K (.type "dict") (.ref (He.ga K "Ring")) = some false
  kit_int_Days : PySem.W.kitOne K (.type "int") (.ref (He.ga K "Days")) = some false
  kit_bool_Days : PySem.W.kitOne K (.type "bool") (.ref (He.ga K "Days")) = some false
  kit_str_Days : PySem.W.kitOne K (.type "str") (.ref (He.ga K "Days")) = some false
  kit_NoneType_Days : PySem.W.kitOne K (.type "NoneType") (.ref (He.ga K "Days")) = some false
  kit_list_Days : PySem.W.kitOne K (.type "list") (.ref (He.ga K "Days")) = some false
  kit_tuple_Days : PySem.W.kitOne K (.type "tuple") (.ref (He.ga K "Days")) = some false
  kit_dict_Days : PySem.W.kitOne K (.type "dict") (.ref (He.ga K "Days")) = some false
  f__wall : ∃ fd, FunD K "_wall" "_wall" (defArgs s__wall) (defBody s__wall) (defScope s__wall) [] [] (He.ga K "_wall") fd
  f_is_whole : ∃ fd, FunD K "is_whole" "is_whole" (defArgs s_is_whole) (defBody s_is_whole) (defScope s_is_whole) [] [] (He.ga K "is_whole") fd
  f_is_moment : ∃ fd, FunD K "is_moment" "is_moment" (defArgs s_is_moment) (defBody s_is_moment) (defScope s_is_moment) [] [] (He.ga K "is_moment") fd
  f_want_day : ∃ fd, FunD K "want_day" "want_day" (defArgs s_want_day) (defBody s_want_day) (defScope s_want_day) [] [] (He.ga K "want_day") fd
  f_are_signs : ∃ fd, FunD K "are_signs" "are_signs" (defArgs s_are_signs) (defBody s_are_signs) (defScope s_are_signs) [] [] (He.ga K "are_signs") fd
  f_Ring_init : ∃ fd, FunD K "__init__" "Ring.__init__" (defArgs s_Ring_init) (defBody s_Ring_init) (defScope s_Ring_init) [] [] (He.ma K (He.ga K "Ring") "__init__") fd
  f_Ring_eq : ∃ fd, FunD K "__eq__" "Ring.__eq__" (defArgs s_Ring_eq) (defBody s_Ring_eq) (defScope s_Ring_eq) [] [] (He.ma K (He.ga K "Ring") "__eq__") fd
  f_Ring_len : ∃ fd, FunD K "__len__" "Ring.__len__" (defArgs s_Ring_len) (defBody s_Ring_len) (defScope s_Ring_len) [] [] (He.ma K (He.ga K "Ring") "__len__") fd
  f_Ring_str : ∃ fd, FunD K "__str__" "Ring.__str__" (defArgs s_Ring_str) (defBody s_Ring_str) (defScope s_Ring_str) [] [] (He.ma K (He.ga K "Ring") "__str__") fd
  f_Ring_repr : ∃ fd, FunD K "__repr__" "Ring.__repr__" (defArgs s_Ring_repr) (defBody s_Ring_repr) (defScope s_Ring_repr) [] [] (He.ma K (He.ga K "Ring") "__repr__") fd
  f_Ring_rings : ∃ fd, FunD K "rings" "Ring.rings" (defArgs s_Ring_rings) (defBody s_Ring_rings) (defScope s_Ring_rings) [] [] (He.ma K (He.ga K "Ring") "rings") fd
  f_Ring_least : ∃ fd, FunD K "least" "Ring.least" (defArgs s_Ring_least) (defBody s_Ring_least) (defScope s_Ring_least) [] [] (He.ma K (He.ga K "Ring") "least") fd
  f_told_days : ∃ fd, FunD K "told_days" "told_days" (defArgs s_told_days) (defBody s_told_days) (defScope s_told_days) [] [] (He.ga K "told_days") fd
  f_want_till : ∃ fd, FunD K "want_till" "want_till" (defArgs s_want_till) (defBody s_want_till) (defScope s_want_till) [] [] (He.ga K "want_till") fd
  f_Days_init : ∃ fd, FunD K "__init__" "Days.__init__" (defArgs s_Days_init) (defBody s_Days_init) (defScope s_Days_init) [.int (0), .non, .non, .non] [] (He.ma K (He.ga K "Days") "__init__") fd
  f_Days_eq : ∃ fd, FunD K "__eq__" "Days.__eq__" (defArgs s_Days_eq) (defBody s_Days_eq) (defScope s_Days_eq) [] [] (He.ma K (He.ga K "Days") "__eq__") fd
  f_Days_str : ∃ fd, FunD K "__str__" "Days.__str__" (defArgs s_Days_str) (defBody s_Days_str) (defScope s_Days_str) [] [] (He.ma K (He.ga K "Days") "__str__") fd
  f_Days_repr : ∃ fd, FunD K "__repr__" "Days.__repr__" (defArgs s_Days_repr) (defBody s_Days_repr) (defScope s_Days_repr) [] [] (He.ma K (He.ga K "Days") "__repr__") fd
  f_Days_has : ∃ fd, FunD K "has" "Days.has" (defArgs s_Days_has) (defBody s_Days_has) (defScope s_Days_has) [] [] (He.ma K (He.ga K "Days") "has") fd
  f_Days_first_from : ∃ fd, FunD K "first_from" "Days.first_from" (defArgs s_Days_first_from) (defBody s_Days_first_from) (defScope s_Days_first_from) [] [] (He.ma K (He.ga K "Days") "first_from") fd
  f_Days_how_many : ∃ fd, FunD K "how_many" "Days.how_many" (defArgs s_Days_how_many) (defBody s_Days_how_many) (defScope s_Days_how_many) [] [] (He.ma K (He.ga K "Days") "how_many") fd
  f_Days_among : ∃ fd, FunD K "among" "Days.among" (defArgs s_Days_among) (defBody s_Days_among) (defScope s_Days_among) [] [] (He.ma K (He.ga K "Days") "among") fd
  f_edges_of : ∃ fd, FunD K "edges_of" "edges_of" (defArgs s_edges_of) (defBody s_edges_of) (defScope s_edges_of) [] [] (He.ga K "edges_of") fd
  f_stretches : ∃ fd, FunD K "stretches" "stretches" (defArgs s_stretches) (defBody s_stretches) (defScope s_stretches) [] [] (He.ga K "stretches") fd
  f_first_days : ∃ fd, FunD K "first_days" "first_days" (defArgs s_first_days) (defBody s_first_days) (defScope s_first_days) [] [] (He.ga K "first_days") fd
  f_common_round : ∃ fd, FunD K "common_round" "common_round" (defArgs s_common_round) (defBody s_common_round) (defScope s_common_round) [] [] (He.ga K "common_round") fd
  f_first_apart : ∃ fd, FunD K "first_apart" "first_apart" (defArgs s_first_apart) (defBody s_first_apart) (defScope s_first_apart) [] [] (He.ga K "first_apart") fd
  f__law_pot : ∃ fd, FunD K "_law_pot" "_law_pot" (defArgs s__law_pot) (defBody s__law_pot) (defScope s__law_pot) [] [] (He.ga K "_law_pot") fd
  f__law_take : ∃ fd, FunD K "_law_take" "_law_take" (defArgs s__law_take) (defBody s__law_take) (defScope s__law_take) [] [] (He.ga K "_law_take") fd
  f__law_great : ∃ fd, FunD K "_law_great" "_law_great" (defArgs s__law_great) (defBody s__law_great) (defScope s__law_great) [] [] (He.ga K "_law_great") fd
  f__law_bits : ∃ fd, FunD K "_law_bits" "_law_bits" (defArgs s__law_bits) (defBody s__law_bits) (defScope s__law_bits) [] [] (He.ga K "_law_bits") fd
  f__law_near : ∃ fd, FunD K "_law_near" "_law_near" (defArgs s__law_near) (defBody s__law_near) (defScope s__law_near) [] [] (He.ga K "_law_near") fd
  f__law_few : ∃ fd, FunD K "_law_few" "_law_few" (defArgs s__law_few) (defBody s__law_few) (defScope s__law_few) [] [] (He.ga K "_law_few") fd
  f__law_some : ∃ fd, FunD K "_law_some" "_law_some" (defArgs s__law_some) (defBody s__law_some) (defScope s__law_some) [] [] (He.ga K "_law_some") fd
  f__law_has : ∃ fd, FunD K "_law_has" "_law_has" (defArgs s__law_has) (defBody s__law_has) (defScope s__law_has) [] [] (He.ga K "_law_has") fd
  f__law_made : ∃ fd, FunD K "_law_made" "_law_made" (defArgs s__law_made) (defBody s__law_made) (defScope s__law_made) [] [] (He.ga K "_law_made") fd
  f__law_edges : ∃ fd, FunD K "_law_edges" "_law_edges" (defArgs s__law_edges) (defBody s__law_edges) (defScope s__law_edges) [] [] (He.ga K "_law_edges") fd
  f__law_pair : ∃ fd, FunD K "_law_pair" "_law_pair" (defArgs s__law_pair) (defBody s__law_pair) (defScope s__law_pair) [] [] (He.ga K "_law_pair") fd
  f__law_alike : ∃ fd, FunD K "_law_alike" "_law_alike" (defArgs s__law_alike) (defBody s__law_alike) (defScope s__law_alike) [] [] (He.ga K "_law_alike") fd
  f__law_right : ∃ fd, FunD K "_law_right" "_law_right" (defArgs s__law_right) (defBody s__law_right) (defScope s__law_right) [] [] (He.ga K "_law_right") fd
  f__law_unlike : ∃ fd, FunD K "_law_unlike" "_law_unlike" (defArgs s__law_unlike) (defBody s__law_unlike) (defScope s__law_unlike) [] [] (He.ga K "_law_unlike") fd
  f_law : ∃ fd, FunD K "law" "law" (defArgs s_law) (defBody s_law) (defScope s_law) [] [] (He.ga K "law") fd
end Toy
namespace Toy
open PySem PySem.Spec PyProof.Rows L2 L3
theorem Env.k__wall {K : PySem.W.Frag} {mg : Str → Option Value} (T : Env K mg) : PySem.W.keepIn K (.ref (He.ga K "_wall")) = true := let ⟨_, F⟩ := T.f__wall; F.kp
theorem Env.k_is_whole {K : PySem.W.Frag} {mg : Str → Option Value} (T : Env K mg) : PySem.W.keepIn K (.ref (He.ga K "is_whole")) = true := let ⟨_, F⟩ := T.f_is_whole; F.kp
theorem Env.k_is_moment {K : PySem.W.Frag} {mg : Str → Option Value} (T : Env K mg) : PySem.W.keepIn K (.ref (He.ga K "is_moment")) = true := let ⟨_, F⟩ := T.f_is_moment; F.kp
theorem Env.k_want_day {K : PySem.W.Frag} {mg : Str → Option Value} (T : Env K mg) : PySem.W.keepIn K (.ref (He.ga K "want_day")) = true := let ⟨_, F⟩ := T.f_want_day; F.kp
theorem Env.k_are_signs {K : PySem.W.Frag} {mg : Str → Option Value} (T : Env K mg) : PySem.W.keepIn K (.ref (He.ga K "are_signs")) = true := let ⟨_, F⟩ := T.f_are_signs; F.kp
theorem Env.k_Ring_init {K : PySem.W.Frag} {mg : Str → Option Value} (T : Env K mg) : PySem.W.keepIn K (.ref (He.ma K (He.ga K "Ring") "__init__")) = true := let ⟨_, F⟩ := T.f_Ring_init; F.kp
theorem Env.k_Ring_eq {K : PySem.W.Frag} {mg : Str → Option Value} (T : Env K mg) : PySem.W.keepIn K (.ref (He.ma K (He.ga K "Ring") "__eq__")) = true := let ⟨_, F⟩ := T.f_Ring_eq; F.kp
theorem Env.k_Ring_len {K : PySem.W.Frag} {mg : Str → Option Value} (T : Env K mg) : PySem.W.keepIn K (.ref (He.ma K (He.ga K "Ring") "__len__")) = true := let ⟨_, F⟩ := T.f_Ring_len; F.kp
theorem Env.k_Ring_str {K : PySem.W.Frag} {mg : Str → Option Value} (T : Env K mg) : PySem.W.keepIn K (.ref (He.ma K (He.ga K "Ring") "__str__")) = true := let ⟨_, F⟩ := T.f_Ring_str; F.kp
theorem Env.k_Ring_repr {K : PySem.W.Frag} {mg : Str → Option Value} (T : Env K mg) : PySem.W.keepIn K (.ref (He.ma K (He.ga K "Ring") "__repr__")) = true := let ⟨_, F⟩ := T.f_Ring_repr; F.kp
theorem Env.k_Ring_rings {K : PySem.W.Frag} {mg : Str → Option Value} (T : Env K mg) : PySem.W.keepIn K (.ref (He.ma K (He.ga K "Ring") "rings")) = true := let ⟨_, F⟩ := T.f_Ring_rings; F.kp
theorem Env.k_Ring_least {K : PySem.W.Frag} {mg : Str → Option Value} (T : Env K mg) : PySem.W.keepIn K (.ref (He.ma K (He.ga K "Ring") "least")) = true := let ⟨_, F⟩ := T.f_Ring_least; F.kp
theorem Env.k_told_days {K : PySem.W.Frag} {mg : Str → Option Value} (T : Env K mg) : PySem.W.keepIn K (.ref (He.ga K "told_days")) = true := let ⟨_, F⟩ := T.f_told_days; F.kp
theorem Env.k_want_till {K : PySem.W.Frag} {mg : Str → Option Value} (T : Env K mg) : PySem.W.keepIn K (.ref (He.ga K "want_till")) = true := let ⟨_, F⟩ := T.f_want_till; F.kp
theorem Env.k_Days_init {K : PySem.W.Frag} {mg : Str → Option Value} (T : Env K mg) : PySem.W.keepIn K (.ref (He.ma K (He.ga K "Days") "__init__")) = true := let ⟨_, F⟩ := T.f_Days_init; F.kp
theorem Env.k_Days_eq {K : PySem.W.Frag} {mg : Str → Option Value} (T : Env K mg) : PySem.W.keepIn K (.ref (He.ma K (He.ga K "Days") "__eq__")) = true := let ⟨_, F⟩ := T.f_Days_eq; F.kp
theorem Env.k_Days_str {K : PySem.W.Frag} {mg : Str → Option Value} (T : Env K mg) : PySem.W.keepIn K (.ref (He.ma K (He.ga K "Days") "__str__")) = true := let ⟨_, F⟩ := T.f_Days_str; F.kp
theorem Env.k_Days_repr {K : PySem.W.Frag} {mg : Str → Option Value} (T : Env K mg) : PySem.W.keepIn K (.ref (He.ma K (He.ga K "Days") "__repr__")) = true := let ⟨_, F⟩ := T.f_Days_repr; F.kp
theorem Env.k_Days_has {K : PySem.W.Frag} {mg : Str → Option Value} (T : Env K mg) : PySem.W.keepIn K (.ref (He.ma K (He.ga K "Days") "has")) = true := let ⟨_, F⟩ := T.f_Days_has; F.kp
theorem Env.k_Days_first_from {K : PySem.W.Frag} {mg : Str → Option Value} (T : Env K mg) : PySem.W.keepIn K (.ref (He.ma K (He.ga K "Days") "first_from")) = true := let ⟨_, F⟩ := T.f_Days_first_from; F.kp
theorem Env.k_Days_how_many {K : PySem.W.Frag} {mg : Str → Option Value} (T : Env K mg) : PySem.W.keepIn K (.ref (He.ma K (He.ga K "Days") "how_many")) = true := let ⟨_, F⟩ := T.f_Days_how_many; F.kp
theorem Env.k_Days_among {K : PySem.W.Frag} {mg : Str → Option Value} (T : Env K mg) : PySem.W.keepIn K (.ref (He.ma K (He.ga K "Days") "among")) = true := let ⟨_, F⟩ := T.f_Days_among; F.kp
theorem Env.k_edges_of {K : PySem.W.Frag} {mg : Str → Option Value} (T : Env K mg) : PySem.W.keepIn K (.ref (He.ga K "edges_of")) = true := let ⟨_, F⟩ := T.f_edges_of; F.kp
theorem Env.k_stretches {K : PySem.W.Frag} {mg : Str → Option Value} (T : Env K mg) : PySem.W.keepIn K (.ref (He.ga K "stretches")) = true := let ⟨_, F⟩ := T.f_stretches; F.kp
theorem Env.k_first_days {K : PySem.W.Frag} {mg : Str → Option Value} (T : Env K mg) : PySem.W.keepIn K (.ref (He.ga K "first_days")) = true := let ⟨_, F⟩ := T.f_first_days; F.kp
theorem Env.k_common_round {K : PySem.W.Frag} {mg : Str → Option Value} (T : Env K mg) : PySem.W.keepIn K (.ref (He.ga K "common_round")) = true := let ⟨_, F⟩ := T.f_common_round; F.kp
theorem Env.k_first_apart {K : PySem.W.Frag} {mg : Str → Option Value} (T : Env K mg) : PySem.W.keepIn K (.ref (He.ga K "first_apart")) = true := let ⟨_, F⟩ := T.f_first_apart; F.kp
theorem Env.k__law_pot {K : PySem.W.Frag} {mg : Str → Option Value} (T : Env K mg) : PySem.W.keepIn K (.ref (He.ga K "_law_pot")) = true := let ⟨_, F⟩ := T.f__law_pot; F.kp
theorem Env.k__law_take {K : PySem.W.Frag} {mg : Str → Option Value} (T : Env K mg) : PySem.W.keepIn K (.ref (He.ga K "_law_take")) = true := let ⟨_, F⟩ := T.f__law_take; F.kp
theorem Env.k__law_great {K : PySem.W.Frag} {mg : Str → Option Value} (T : Env K mg) : PySem.W.keepIn K (.ref (He.ga K "_law_great")) = true := let ⟨_, F⟩ := T.f__law_great; F.kp
theorem Env.k__law_bits {K : PySem.W.Frag} {mg : Str → Option Value} (T : Env K mg) : PySem.W.keepIn K (.ref (He.ga K "_law_bits")) = true := let ⟨_, F⟩ := T.f__law_bits; F.kp
theorem Env.k__law_near {K : PySem.W.Frag} {mg : Str → Option Value} (T : Env K mg) : PySem.W.keepIn K (.ref (He.ga K "_law_near")) = true := let ⟨_, F⟩ := T.f__law_near; F.kp
theorem Env.k__law_few {K : PySem.W.Frag} {mg : Str → Option Value} (T : Env K mg) : PySem.W.keepIn K (.ref (He.ga K "_law_few")) = true := let ⟨_, F⟩ := T.f__law_few; F.kp
theorem Env.k__law_some {K : PySem.W.Frag} {mg : Str → Option Value} (T : Env K mg) : PySem.W.keepIn K (.ref (He.ga K "_law_some")) = true := let ⟨_, F⟩ := T.f__law_some; F.kp
theorem Env.k__law_has {K : PySem.W.Frag} {mg : Str → Option Value} (T : Env K mg) : PySem.W.keepIn K (.ref (He.ga K "_law_has")) = true := let ⟨_, F⟩ := T.f__law_has; F.kp
theorem Env.k__law_made {K : PySem.W.Frag} {mg : Str → Option Value} (T : Env K mg) : PySem.W.keepIn K (.ref (He.ga K "_law_made")) = true := let ⟨_, F⟩ := T.f__law_made; F.kp
theorem Env.k__law_edges {K : PySem.W.Frag} {mg : Str → Option Value} (T : Env K mg) : PySem.W.keepIn K (.ref (He.ga K "_law_edges")) = true := let ⟨_, F⟩ := T.f__law_edges; F.kp
theorem Env.k__law_pair {K : PySem.W.Frag} {mg : Str → Option Value} (T : Env K mg) : PySem.W.keepIn K (.ref (He.ga K "_law_pair")) = true := let ⟨_, F⟩ := T.f__law_pair; F.kp
theorem Env.k__law_alike {K : PySem.W.Frag} {mg : Str → Option Value} (T : Env K mg) : PySem.W.keepIn K (.ref (He.ga K "_law_alike")) = true := let ⟨_, F⟩ := T.f__law_alike; F.kp
theorem Env.k__law_right {K : PySem.W.Frag} {mg : Str → Option Value} (T : Env K mg) : PySem.W.keepIn K (.ref (He.ga K "_law_right")) = true := let ⟨_, F⟩ := T.f__law_right; F.kp
theorem Env.k__law_unlike {K : PySem.W.Frag} {mg : Str → Option Value} (T : Env K mg) : PySem.W.keepIn K (.ref (He.ga K "_law_unlike")) = true := let ⟨_, F⟩ := T.f__law_unlike; F.kp
theorem Env.k_law {K : PySem.W.Frag} {mg : Str → Option Value} (T : Env K mg) : PySem.W.keepIn K (.ref (He.ga K "law")) = true := let ⟨_, F⟩ := T.f_law; F.kp
section
def sp_is_whole (K : PySem.W.Frag) : Sp := fun vs H Q _ => ∃ x, vs = [x] ∧ Cl K H x ∧ Q (.bl (isW x)) H
theorem fb_is_whole {P : Program} {w : World} {K : PySem.W.Frag} {mg : Str → Option Value} {base : Heap} (T : Env K mg) : ∃ fd, FunD K "is_whole" "is_whole" (defArgs s_is_whole) (defBody s_is_whole) (defScope s_is_whole) [] [] (He.ga K "is_whole") fd ∧ Fb P w K mg base 1 (He.ga K "is_whole") fd ["thing"] (sp_is_whole K) := by
  obtain ⟨fd, F⟩ := T.f_is_whole
  refine ⟨fd, F, fb_of F sc_is_whole (fun vs H Q E h => ?_) (fun cdv A outer s H vs Q E hr h => ?_)⟩
  · obtain ⟨x, rfl, _⟩ := h
    rfl
  · obtain ⟨x, rfl, ⟨t, b, c, ty, h1, h2, e⟩, q⟩ := h
    refine ⟨_, (pss_one (ps_ret (pe_and (pe_callB call_isi (by rfl) T.n_isinstance (by decide +kernel) (pa_cons (pv 0) (pa_cons (pe_bltn (v := .ty "int") (by rfl) T.n_int (by decide +kernel) rfl) pa_nil))) (pe_one (pe_not (pe_callB call_isi (by rfl) T.n_isinstance (by decide +kernel) (pa_cons (pv 0) (pa_cons (pe_bltn (v := .ty "bool") (by rfl) T.n_bool (by decide +kernel) rfl) pa_nil)))))))), ?_⟩
    refine ⟨x, rfl, x, .ty "int", t, _, b, rfl, .ty "int", ty, h1, b, rfl, ?_⟩
    rw [e] at q
    cases b with
    | false => exact q
    | true => exact ⟨x, rfl, x, .ty "bool", t, _, c, rfl, .ty "bool", ty, h2, c, rfl, q⟩

theorem ok_is_whole {P : Program} {w : World} {K : PySem.W.Frag} {mg : Str → Option Value} {base : Heap} (T : Env K mg) : Fc P w K mg base 1 (He.ga K "is_whole") [] (sp_is_whole K) := by
  obtain ⟨fd, D, F⟩ := fb_is_whole T
  exact F.all (D.bindsN fun _ _ _ _ _ _ us hl => match us, hl with | [_], _ => rfl)
end
section
def sp_is_moment (K : PySem.W.Frag) : Sp := fun vs H Q _ => ∃ x, vs = [x] ∧ Cl K H x ∧ Q (.bl (isM x)) H
theorem fb_is_moment {P : Program} {w : World} {K : PySem.W.Frag} {mg : Str → Option Value} {base : Heap} (T : Env K mg) : ∃ fd, FunD K "is_moment" "is_moment" (defArgs s_is_moment) (defBody s_is_moment) (defScope s_is_moment) [] [] (He.ga K "is_moment") fd ∧ Fb P w K mg base 2 (He.ga K "is_moment") fd ["thing"] (sp_is_moment K) := by
  obtain ⟨fd, F⟩ := T.f_is_moment
  refine ⟨fd, F, fb_of F sc_is_moment (fun vs H Q E h => ?_) (fun cdv A outer s H vs Q E hr h => ?_)⟩
  · obtain ⟨x, rfl, _⟩ := h
    rfl
  · obtain ⟨x, rfl, cl, q⟩ := h
    refine ⟨_, (pss_one (ps_ret (pe_and (c_call (ok_is_whole T) (hr.mono (by decide)) T.g_is_whole T.k_is_whole takes0 (pa_cons (pv 0) pa_nil)) (pe_one (pe_cmpR op_ge (pv 0) pe_int (nomark _)))))), ?_⟩
    refine ⟨x, rfl, x, rfl, cl, isW x, rfl, ?_⟩
    cases x with
    | int i => exact ⟨_, rfl, i, 0, rfl, rfl, q⟩
    | _ => exact q

theorem ok_is_moment {P : Program} {w : World} {K : PySem.W.Frag} {mg : Str → Option Value} {base : Heap} (T : Env K mg) : Fc P w K mg base 2 (He.ga K "is_moment") [] (sp_is_moment K) := by
  obtain ⟨fd, D, F⟩ := fb_is_moment T
  exact F.all (D.bindsN fun _ _ _ _ _ _ us hl => match us, hl with | [_], _ => rfl)
end
section
def sp_want_day (K : PySem.W.Frag) : Sp := fun vs H Q E => ∃ x, vs = [x] ∧ Cl K H x ∧ (isM x = true → Q .non H) ∧ (isM x = false → E (.ref (He.ga K "NoDays")) none H)
theorem fb_want_day {P : Program} {w : World} {K : PySem.W.Frag} {mg : Str → Option Value} {base : Heap} (T : Env K mg) : ∃ fd, FunD K "want_day" "want_day" (defArgs s_want_day) (defBody s_want_day) (defScope s_want_day) [] [] (He.ga K "want_day") fd ∧ Fb P w K mg base 3 (He.ga K "want_day") fd ["thing"] (sp_want_day K) := by
  obtain ⟨fd, F⟩ := T.f_want_day
  refine ⟨fd, F, fb_of F sc_want_day (fun vs H Q E h => ?_) (fun cdv A outer s H vs Q E hr h => ?_)⟩
  · obtain ⟨x, rfl, _⟩ := h
    rfl
  · obtain ⟨x, rfl, c, q, qe⟩ := h
    refine ⟨_, (pss_one (ps_if (pt_not (pt_val (c_call (ok_is_moment T) (hr.mono (by decide)) T.g_is_moment T.k_is_moment (takes_of rfl rfl rfl rfl) (pa_cons (pv 0) pa_nil))))
      (pss_one (ps_raise rfl (takes_of rfl rfl rfl rfl) (pmk_own PySem.F.excBase_ValueError T.x_NoDays.x T.g_NoDays T.x_NoDays.kp (raises_own T.x_NoDays.sub T.x_NoDays.ty) rfl)))
      pss_nil)), ?_⟩
    refine ⟨_, rfl, x, rfl, c, _, rfl, ?_⟩
    cases e : isM x with
    | true => exact q e
    | false => exact qe e

theorem ok_want_day {P : Program} {w : World} {K : PySem.W.Frag} {mg : Str → Option Value} {base : Heap} (T : Env K mg) : Fc P w K mg base 3 (He.ga K "want_day") [] (sp_want_day K) := by
  obtain ⟨fd, D, F⟩ := fb_want_day T
  exact F.all (D.bindsN fun _ _ _ _ _ _ us hl => match us, hl with | [_], _ => rfl)
end
section
/-- the signs of a ring -/
def sgn (l : List Nat) : Bool := decide (1 ≤ l.length ∧ l.length ≤ 7) && l.all fun c => c == 48 || c == 49
theorem sgn_in (c : Nat) : inV (.str ⟨#[c]⟩) [.str (Str.ofString "0"), .str (Str.ofString "1")] = (c == 48 || c == 49) := by
  have e : ∀ d : Nat, eqV (.str (SX.S [d])) (.str ⟨#[c]⟩) = (c == d) := fun d => by
    show decide ((SX.S [d]) = SX.S [c]) = (c == d)
    by_cases h : c = d
    · rw [h]
      simp
    · rw [decide_eq_false (fun z => h (by have w : [d] = [c] := SX.S_inj z; injection w with w; exact w.symm))]
      exact (beq_eq_false_iff_ne.mpr h).symm
  show (eqV (.str (SX.S [48])) (.str ⟨#[c]⟩) || (eqV (.str (SX.S [49])) (.str ⟨#[c]⟩) || false)) = _
  rw [e, e, Bool.or_false]
def sp_are_signs (K : PySem.W.Frag) : Sp := fun vs H Q _ => ∃ x, vs = [x] ∧ ((∃ l : List Nat, x = .str (SX.S l) ∧ l.length ≤ 600 ∧ ∀ H', Ex H H' → Q (.bl (sgn l)) H') ∨ (∃ t, TyX K H x t ∧ PySem.W.kitOne K t (.type "str") = some false ∧ Q (.bl false) H))
theorem fb_are_signs {P : Program} {w : World} {K : PySem.W.Frag} {mg : Str → Option Value} {base : Heap} (T : Env K mg) : ∃ fd, FunD K "are_signs" "are_signs" (defArgs s_are_signs) (defBody s_are_signs) (defScope s_are_signs) [] [] (He.ga K "are_signs") fd ∧ Fb P w K mg base 1 (He.ga K "are_signs") fd ["thing"] (sp_are_signs K) := by
  obtain ⟨fd, F⟩ := T.f_are_signs
  refine ⟨fd, F, fb_of F sc_are_signs (fun vs H Q E h => ?_) (fun cdv A outer s H vs Q E hr h => ?_)⟩
  · obtain ⟨x, rfl, _⟩ := h
    rfl
  · obtain ⟨x, rfl, h⟩ := h
    refine ⟨_, (pss_cons (ps_if (PW.pt (pw_or (pt_not (pt_val (pe_callB call_isi (by rfl) T.n_isinstance (by decide +kernel) (pa_cons (pv 0) (pa_cons (pe_bltn (v := .ty "str") (by rfl) T.n_str (by decide +kernel) rfl) pa_nil))))) (pw_or1 (pt_not (pt_chain op_le op_le pe_int (pe_callB call_len (by rfl) T.n_len (by decide +kernel) (pa_cons (pv 0) pa_nil)) (pe_k T.v_MOST_SIGNS))))))
      (pss_one (ps_ret pe_bl))
      pss_nil)
      (pss_one (ps_ret (pe_callB (cr_all rfl) (by rfl) T.n_all (by decide +kernel) (pa_cons (pe_lc (own := [("sign", 1)]) (by rfl) sc_are_signs.nd (pi_str (pv 0)) (blkOk_by (own := [("sign", 1)]) (N := ["thing", "sign"]) (sc := defScope s_are_signs) (by decide +kernel)) (fun _ _ _ _ _ => (pg_name (i := 1) sc_are_signs.nd rfl (Or.inl rfl))) (fun _ _ _ _ _ => pts_nil) (fun _ _ _ _ _ => (pe_cmpR (op_in_seqK K) (pv 1) (pe_tup (pa_cons (pe_k T.v_NOUGHT) (pa_cons (pe_k T.v_ONE) pa_nil))) (by rfl)))) pa_nil))))), ?_⟩
    rcases h with ⟨l, rfl, hl, q⟩ | ⟨t, ty, kt, q⟩
    · have ls : (SX.S l).length ≤ sizeLine := Nat.le_of_lt (small_len (by rw [SX.S_len]; omega))
      refine ⟨_, rfl, .str (SX.S l), .ty "str", _, _, true, rfl, .ty "str", .base (.str _), kit_ty (by decide +kernel), true, rfl, iteF ?_⟩
      refine ⟨_, rfl, _, l.length, rfl, ⟨ls, (SX.S_len l).symm⟩, _, _, rfl, rfl, _, rfl, ?_⟩
      by_cases h1 : 1 ≤ l.length
      · rw [decide_eq_true (show (1 : Int) ≤ (l.length : Nat) by omega)]
        refine ⟨_, _, rfl, rfl, _, rfl, ?_⟩
        by_cases h7 : l.length ≤ 7
        · rw [decide_eq_true (show ((l.length : Nat) : Int) ≤ 7 by omega)]
          refine iteF ?_
          refine ⟨_, rfl, _, rfl, fun D nD => lc_fm L2.walk_str (fun i => some (.bl (l.getD i 0 == 48 || l.getD i 0 == 49))) (fun H' => Ex H H') (fun H' z e => ex_mut e nD) (.refl H) (by show l.toArray.size ≤ 100000; simp; omega) (fun _ _ => trivial) (fun i x H1 H2 acc N hi e hD la y k => ?_) fun H1 e1 d1 => ?_⟩
          · obtain ⟨rfl, c, hc, rfl⟩ := y
            refine ⟨rfl, _, rfl, by show 2 ≤ sizeLine; decide, fun t nt => ?_⟩
            have hDt := fun o => ex_new (o := o) nt _ _ hD
            refine ⟨t, _, rfl, .inr (sq_tup upd_same), rfl, rfl, acc, hDt _, la, ?_⟩
            have e2 : l.getD i 0 = c := by
              have hc2 : l[i]? = some c := by simpa using hc
              rw [List.getD_eq_getElem?_getD, hc2]
              rfl
            have k2 := fun o => k _ (e.trans (ex_new (o := o) nt)) (hDt o)
            have e3 : inV (.str ⟨#[c]⟩) [.str (Str.ofString "0"), .str (Str.ofString "1")] = (l.getD i 0 == 48 || l.getD i 0 == 49) := by
              rw [e2]
              exact sgn_in c
            rw [← e3] at k2
            exact k2 _
          · refine ⟨D, l.map (fun c => c == 48 || c == 49), rfl, sq_lst ?_, ?_⟩
            · rw [d1]
              have e3 := range_map_get l 0 (fun c => V.bl (c == 48 || c == 49))
              have e4 : l.toArray.size = l.length := by simp
              show some (HO.lst (List.filterMap _ (List.range l.toArray.size))) = _
              rw [e4, e3, List.map_map]
              rfl
            · have e5 : (l.map fun c => c == 48 || c == 49).all id = l.all fun c => c == 48 || c == 49 := by
                rw [List.all_map]
                rfl
              rw [e5]
              have z := q H1 e1
              unfold sgn at z
              rw [decide_eq_true ⟨h1, h7⟩, Bool.true_and] at z
              exact z
        · rw [decide_eq_false (show ¬ ((l.length : Nat) : Int) ≤ 7 by omega)]
          have z := q H (.refl H)
          unfold sgn at z
          rw [decide_eq_false (fun y => h7 y.2)] at z
          exact z
      · rw [decide_eq_false (show ¬ (1 : Int) ≤ (l.length : Nat) by omega)]
        have z := q H (.refl H)
        unfold sgn at z
        rw [decide_eq_false (fun y => h1 y.1)] at z
        exact ⟨_, rfl, z⟩
    · exact ⟨_, rfl, x, .ty "str", t, _, false, rfl, .ty "str", ty, kt, false, rfl, q⟩

theorem ok_are_signs {P : Program} {w : World} {K : PySem.W.Frag} {mg : Str → Option Value} {base : Heap} (T : Env K mg) : Fc P w K mg base 1 (He.ga K "are_signs") [] (sp_are_signs K) := by
  obtain ⟨fd, D, F⟩ := fb_are_signs T
  exact F.all (D.bindsN fun _ _ _ _ _ _ us hl => match us, hl with | [_], _ => rfl)
end
section
abbrev RingC (K : PySem.W.Frag) : Addr := He.ga K "Ring"
/-- at a a ring of these signs -/
def RingAt (K : PySem.W.Frag) (H : Hp) (a : Addr) (l : List Nat) : Prop := ∃ dx, H a = some (.ins (RingC K) dx [("bits", .str (SX.S l))])
def sp_Ring_init (K : PySem.W.Frag) : Sp := fun vs H Q E => ∃ a dx x, vs = [.ref a, x] ∧ H a = some (.ins (RingC K) dx []) ∧ ((∃ l : List Nat, x = .str (SX.S l) ∧ l.length ≤ 600 ∧ (sgn l = true → ∀ H', Ex H H' → Q .non (upd H' a (.ins (RingC K) dx [("bits", .str (SX.S l))]))) ∧ (sgn l = false → ∀ H', Ex H H' → E (.ref (He.ga K "NoDays")) none H')) ∨
  (∃ t, TyX K H x t ∧ PySem.W.kitOne K t (.type "str") = some false ∧ E (.ref (He.ga K "NoDays")) none H))
theorem fb_Ring_init {P : Program} {w : World} {K : PySem.W.Frag} {mg : Str → Option Value} {base : Heap} (T : Env K mg) : ∃ fd, FunD K "__init__" "Ring.__init__" (defArgs s_Ring_init) (defBody s_Ring_init) (defScope s_Ring_init) [] [] (He.ma K (He.ga K "Ring") "__init__") fd ∧ Fb P w K mg base 2 (He.ma K (He.ga K "Ring") "__init__") fd ["self", "text"] (sp_Ring_init K) := by
  obtain ⟨fd, F⟩ := T.f_Ring_init
  refine ⟨fd, F, fb_of F sc_Ring_init (fun vs H Q E h => ?_) (fun cdv A outer s H vs Q E hr h => ?_)⟩
  · obtain ⟨a, dx, x, rfl, _⟩ := h
    rfl
  · obtain ⟨a, dx, x, rfl, ha, h⟩ := h
    refine ⟨_, (pss_cons (ps_if (pt_not (pt_val (c_call (ok_are_signs T) (hr.mono (by decide)) T.g_are_signs T.k_are_signs (takes_of rfl rfl rfl rfl) (pa_cons (pv 1) pa_nil))))
      (pss_one (ps_raise rfl (takes_of rfl rfl rfl rfl) (pmk_own PySem.F.excBase_ValueError T.x_NoDays.x T.g_NoDays T.x_NoDays.kp (raises_own T.x_NoDays.sub T.x_NoDays.ty) rfl)))
      pss_nil)
      (pss_one (ps_fld (pv 0) (pv 1) rfl))), ?_⟩
    rcases h with ⟨l, rfl, hl, q, qe⟩ | ⟨t, ty, kt, qe⟩
    · refine ⟨_, rfl, _, rfl, .inl ⟨l, rfl, hl, fun H1 e1 => ⟨_, rfl, ?_⟩⟩⟩
      cases e : sgn l with
      | false => exact qe e H1 e1
      | true =>
        refine iteF ?_
        refine ⟨_, rfl, _, rfl, a, _, dx, [], rfl, e1 _ _ ha, T.c_Ring, T.a_Ring_bits, by decide, ?_⟩
        exact q e H1 e1
    · exact ⟨_, rfl, _, rfl, .inr ⟨t, ty, kt, _, rfl, qe⟩⟩
theorem ex_made {H : Hp} {x dx : Addr} {o1 o2 : HO} (nx : H x = none) (nd : H dx = none) (ne : dx ≠ x) : Ex H (upd (upd H dx o1) x o2) := fun b o e => by
  rw [upd_ne (ne_of_none e nx), upd_ne (ne_of_none e nd)]
  exact e
theorem ring_new {K : PySem.W.Frag} {H : Hp} {x dx : Addr} {l : List Nat} {Q : VK} {E : XK} (nx : H x = none) (nd : H dx = none) (ne : dx ≠ x) (hs : sgn l = true) (q : ∀ H', Ex H H' → RingAt K H' x l → Q .non H') :
    sp_Ring_init K [.ref x, .str (SX.S l)] (upd (upd H dx (.own x)) x (.ins (RingC K) dx [])) Q E := by
  have h7 : 1 ≤ l.length ∧ l.length ≤ 7 := of_decide_eq_true (Bool.and_eq_true_iff.mp hs).1
  refine ⟨x, dx, _, rfl, upd_same, .inl ⟨l, rfl, by omega, fun _ H' e => q _ ?_ ⟨dx, upd_same⟩, fun z => absurd (hs.symm.trans z) Bool.noConfusion⟩⟩
  exact ex_mut ((ex_made nx nd ne).trans e) nx

theorem ok_Ring_init {P : Program} {w : World} {K : PySem.W.Frag} {mg : Str → Option Value} {base : Heap} (T : Env K mg) : Fc P w K mg base 2 (He.ma K (He.ga K "Ring") "__init__") [] (sp_Ring_init K) := by
  obtain ⟨fd, D, F⟩ := fb_Ring_init T
  exact F.all (D.bindsN fun _ _ _ _ _ _ us hl => match us, hl with | [_, _], _ => rfl)
end
section
def sp_Ring_str (K : PySem.W.Frag) : Sp := fun vs H Q _ => ∃ a l, vs = [.ref a] ∧ RingAt K H a l ∧ Q (.str (SX.S l)) H
theorem fb_Ring_str {P : Program} {w : World} {K : PySem.W.Frag} {mg : Str → Option Value} {base : Heap} (T : Env K mg) : ∃ fd, FunD K "__str__" "Ring.__str__" (defArgs s_Ring_str) (defBody s_Ring_str) (defScope s_Ring_str) [] [] (He.ma K (He.ga K "Ring") "__str__") fd ∧ Fb P w K mg base 1 (He.ma K (He.ga K "Ring") "__str__") fd ["self"] (sp_Ring_str K) := by
  obtain ⟨fd, F⟩ := T.f_Ring_str
  refine ⟨fd, F, fb_of F sc_Ring_str (fun vs H Q E h => ?_) (fun cdv A outer s H vs Q E hr h => ?_)⟩
  · obtain ⟨a, l, rfl, _⟩ := h
    rfl
  · obtain ⟨a, l, rfl, ⟨dx, ha⟩, q⟩ := h
    refine ⟨_, (pss_one (ps_ret (pe_callTy SkE.call_str_str (by rfl) T.n_str (by decide +kernel) (pa_cons (pe_fld (pv 0) (by rfl)) pa_nil)))), ?_⟩
    exact ⟨_, rfl, a, _, dx, _, _, rfl, ha, T.c_Ring, T.a_Ring_bits, rfl, _, rfl, q⟩

theorem ok_Ring_str {P : Program} {w : World} {K : PySem.W.Frag} {mg : Str → Option Value} {base : Heap} (T : Env K mg) : Fc P w K mg base 1 (He.ma K (He.ga K "Ring") "__str__") [] (sp_Ring_str K) := by
  obtain ⟨fd, D, F⟩ := fb_Ring_str T
  exact F.all (D.bindsN fun _ _ _ _ _ _ us hl => match us, hl with | [_], _ => rfl)
end
section
/-- the ring of fewest signs -/
def leastK (l : List Nat) (k : Nat) : Bool := l.length % k == 0 && (List.replicate (l.length / k) (l.take k)).flatten == l
def leastP (l : List Nat) : List Nat := l.take (((List.range' 1 l.length).filter (leastK l)).headD 0)
def long42 (l : List Nat) : List Nat := (List.replicate 42 l).flatten.take 42
/-- all rings -/
def allR : Nat → List (List Nat)
  | 0 => [[]]
  | n + 1 => (allR n).flatMap fun l => [48 :: l, 49 :: l]
theorem mem_allR : ∀ l : List Nat, l.all (fun c => c == 48 || c == 49) = true → l ∈ allR l.length
  | [], _ => List.mem_singleton.mpr rfl
  | c :: l, h => by
    rw [List.all_cons, Bool.and_eq_true] at h
    refine List.mem_flatMap.mpr ⟨l, mem_allR l h.2, ?_⟩
    have := h.1
    simp only [Bool.or_eq_true, beq_iff_eq] at this
    rcases this with e | e <;> subst e <;> simp
def allS : List (List Nat) := (List.range' 1 7).flatMap allR
theorem mem_allS {l : List Nat} (h : sgn l = true) : l ∈ allS := by
  obtain ⟨h1, h2⟩ := Bool.and_eq_true_iff.mp h
  have h3 : 1 ≤ l.length ∧ l.length ≤ 7 := of_decide_eq_true h1
  exact List.mem_flatMap.mpr ⟨l.length, List.mem_range'_1.mpr (by omega), mem_allR l h2⟩
theorem by_allS {P : List Nat → Bool} (h : allS.all P = true) {l : List Nat} (hs : sgn l = true) : P l = true := List.all_eq_true.mp h l (mem_allS hs)
theorem leastP_sgn {l : List Nat} (h : sgn l = true) : sgn (leastP l) = true := by_allS (P := fun l => sgn (leastP l)) (by decide +kernel) h
theorem leastP_some {l : List Nat} (h : sgn l = true) : ((List.range' 1 l.length).filter (leastK l)) = ((List.range' 1 l.length).filter (leastK l)).headD 0 :: ((List.range' 1 l.length).filter (leastK l)).tail := by
  have := by_allS (P := fun l => !((List.range' 1 l.length).filter (leastK l)).isEmpty) (by decide +kernel) h
  cases e : (List.range' 1 l.length).filter (leastK l) with
  | nil => rw [e] at this; cases this
  | cons x r => rfl
theorem leastP_long {l : List Nat} (h : sgn l = true) : long42 (leastP l) = long42 l := eq_of_beq (by_allS (P := fun l => long42 (leastP l) == long42 l) (by decide +kernel) h)
/-- the least ring of the first signs -/
def leastOf (s : List Nat) : List Nat := s.take (((List.range' 1 7).filter fun k => long42 (s.take k) == s).headD 0)
theorem leastP_of {l : List Nat} (h : sgn l = true) : leastP l = leastOf (long42 l) := eq_of_beq (by_allS (P := fun l => leastP l == leastOf (long42 l)) (by decide +kernel) h)
theorem leastP_idem {l : List Nat} (h : sgn l = true) : leastP (leastP l) = leastP l := by
  rw [leastP_of (leastP_sgn h), leastP_long h, ← leastP_of h]
theorem leastP_iff {l m : List Nat} (h : sgn l = true) (h' : sgn m = true) : leastP l = leastP m ↔ long42 l = long42 m := by
  constructor
  · intro e
    rw [← leastP_long h, e, leastP_long h']
  · intro e
    rw [leastP_of h, e, ← leastP_of h']

end
section
theorem fold_app (a : Array Nat) : ∀ (n : Nat) (b : Array Nat), ((List.replicate n a).foldl (· ++ ·) b).toList = b.toList ++ (List.replicate n a.toList).flatten
  | 0, b => by simp
  | n + 1, b => by
    rw [List.replicate_succ, List.foldl_cons, fold_app a n, List.replicate_succ, List.flatten_cons, Array.toList_append, List.append_assoc]
theorem mul_S (l : List Nat) (n : Nat) : Txt.mul (SX.S l) (n : Int) = SX.S (List.replicate n l).flatten := by
  unfold Txt.mul
  rcases Nat.eq_zero_or_pos n with rfl | hn
  · rfl
  rw [if_neg (by omega)]
  split
  · rename_i h
    rcases Bool.or_eq_true_iff.mp h with h | h
    · have : n = 1 := by
        have := eq_of_beq h
        omega
      subst this
      simp
    · have h0 : l = [] := by
        have := eq_of_beq h
        rw [SX.S_len] at this
        exact List.length_eq_zero_iff.mp this
      subst h0
      have : (List.replicate n ([] : List Nat)).flatten = [] := by simp
      rw [this]
  · refine TL.ext_tl ?_
    show ((List.replicate ((n : Int)).toNat (SX.S l).cps).foldl (· ++ ·) #[]).toList = (List.replicate n l).flatten
    rw [fold_app]
    simp [SX.S]
theorem len_flat (l : List Nat) (n : Nat) : (List.replicate n l).flatten.length = n * l.length := by simp

end
section
def sp_Ring_least (K : PySem.W.Frag) : Sp := fun vs H Q _ => ∃ a l, vs = [.ref a] ∧ RingAt K H a l ∧ sgn l = true ∧ ∀ t H', Ex H H' → RingAt K H' t (leastP l) → Q (.ref t) H'
theorem least_fm {l : List Nat} : ((List.range l.length).filterMap fun i => if leastK l (i + 1) = true then some (V.int ((i + 1 : Nat) : Int)) else none) = ((List.range' 1 l.length).filter (leastK l)).map fun k => V.int (k : Nat) := by
  rw [List.range'_eq_map_range]
  induction List.range l.length with
  | nil => rfl
  | cons i r ih =>
    rw [List.filterMap_cons, List.map_cons, List.filter_cons, show 1 + i = i + 1 by omega]
    by_cases h : leastK l (i + 1) = true
    · simp only [h, if_true, List.map_cons]
      rw [ih]
    · simp only [h]
      exact ih
theorem fb_Ring_least {P : Program} {w : World} {K : PySem.W.Frag} {mg : Str → Option Value} {base : Heap} (T : Env K mg) : ∃ fd, FunD K "least" "Ring.least" (defArgs s_Ring_least) (defBody s_Ring_least) (defScope s_Ring_least) [] [] (He.ma K (He.ga K "Ring") "least") fd ∧ Fb P w K mg base 4 (He.ma K (He.ga K "Ring") "least") fd ["self"] (sp_Ring_least K) := by
  obtain ⟨fd, F⟩ := T.f_Ring_least
  refine ⟨fd, F, fb_of F sc_Ring_least (fun vs H Q E h => ?_) (fun cdv A outer s H vs Q E hr h => ?_)⟩
  · obtain ⟨a, l, rfl, _⟩ := h
    rfl
  · obtain ⟨a, l, rfl, ⟨dx, ha⟩, hs, q⟩ := h
    refine ⟨_, (pss_cons (ps_set (i := 1) sc_Ring_least.nd rfl (Or.inr rfl) (pe_callB call_len (by rfl) T.n_len (by decide +kernel) (pa_cons (pe_fld (pv 0) (by rfl)) pa_nil)))
      (pss_cons (ps_setLc (i := 2) (own := [("k", 3)]) (by rfl) sc_Ring_least.nd rfl rfl (sw_true rfl rfl rfl (by decide +kernel)) (pi_rangeB (by rfl) T.n_range (pa_cons pe_int (pa_cons (pe_op op_add (pv 1) pe_int) pa_nil))) (blkOk_by (own := [("k", 3)]) (N := ["self", "many", "some", "k"]) (sc := defScope s_Ring_least) (by decide +kernel)) (fun _ _ _ _ _ => (pg_name (i := 3) sc_Ring_least.nd rfl (Or.inl rfl))) (fun _ _ _ _ _ => (pts_one (PW.pt (pw_and (pt_cmpR op_eq (pe_op op_mod (pv 1) (pv 3)) pe_int (nomark _)) (pw_and1 (pt_cmpR op_eq (pe_op op_repS (pe_slice sl_str (pe_fldK K (pv 0) (by rfl)) po_none (po_some (pv 3))) (pe_op op_fdiv (pv 1) (pv 3))) (pe_fldK K (pv 0) (by rfl)) (nomark _))))))) (fun _ _ _ _ _ => (pv 3)))
      (pss_one (ps_ret (c_make T.mk_Ring (ok_Ring_init T) (hr.mono (by decide)) T.g_Ring takes0 (pa_cons (pe_slice sl_str (pe_fld (pv 0) (by rfl)) po_none (po_some (pe_ix ix_list (pv 2) pe_int (fun _ _ => rfl)))) pa_nil)))))), ?_⟩
    have h7 : 1 ≤ l.length ∧ l.length ≤ 7 := of_decide_eq_true (Bool.and_eq_true_iff.mp hs).1
    have ls : (SX.S l).length ≤ sizeLine := Nat.le_of_lt (small_len (by rw [SX.S_len]; omega))
    have en : (((l.length : Nat) : Int) + 1 - 1).toNat = l.length := by omega
    refine ⟨_, rfl, a, _, dx, _, _, rfl, ha, T.c_Ring, T.a_Ring_bits, rfl, _, l.length, rfl, ⟨ls, (SX.S_len l).symm⟩, ?_⟩
    refine ⟨_, rfl, _, _, rfl, rfl, _, _, rfl, fun A nA => lc_rg (fun i => if leastK l (i + 1) = true then some (V.int ((i + 1 : Nat) : Int)) else none) (fun H' => Ex H H') (fun H' z e => ex_mut e nA) (.refl _) (by omega) (fun i H2 acc N hi X2 hA la k => ?_) fun H2 X2 d2 => ?_⟩
    · have kk := k H2 X2 hA
      show L3.Turn _ _ _ _ _ _ (V.int (1 + ((i : Nat) : Int))) _ _
      rw [show (1 : Int) + ((i : Nat) : Int) = ((i + 1 : Nat) : Int) by omega]
      have cm : decide (V.int (((l.length : Nat) : Int) % ((i + 1 : Nat) : Int)) = V.int 0) = (l.length % (i + 1) == 0) := by
        rw [Bool.eq_iff_iff, decide_eq_true_eq, beq_iff_eq]
        constructor
        · intro z
          injection z with z
          omega
        · intro z
          have : ((l.length : Nat) : Int) % ((i + 1 : Nat) : Int) = 0 := by omega
          rw [this]
      have ck : decide (V.str (Txt.mul (cutS (SX.S l) none (some ((i + 1 : Nat) : Int))) (((l.length : Nat) : Int) / ((i + 1 : Nat) : Int))) = V.str (SX.S l)) = ((List.replicate (l.length / (i + 1)) (l.take (i + 1))).flatten == l) := by
        rw [Mo.cut_to, show ((l.length : Nat) : Int) / ((i + 1 : Nat) : Int) = ((l.length / (i + 1) : Nat) : Int) by simp, mul_S, Bool.eq_iff_iff, decide_eq_true_eq, beq_iff_eq]
        constructor
        · intro z
          injection z with z
          exact SX.S_inj z
        · intro z
          rw [z]
      unfold leastK at kk
      refine ⟨rfl, _, rfl, _, rfl, _, _, rfl, rfl, by omega, rfl, _, rfl, ?_⟩
      dsimp only
      rw [cm]
      cases c1 : l.length % (i + 1) == 0 with
      | false =>
        rw [c1] at kk
        exact kk
      | true =>
        rw [c1] at kk
        refine ⟨_, rfl, a, _, dx, _, _, rfl, X2 _ _ ha, T.c_Ring, T.a_Ring_bits, rfl, ?_⟩
        dsimp only [tNoPart]
        refine ⟨_, rfl, _, rfl, _, rfl, ls, _, rfl, _, rfl, _, _, rfl, rfl, ⟨by omega, by omega⟩, _, _, rfl, rfl, ?_, ?_, ?_, _, rfl, a, _, dx, _, _, rfl, X2 _ _ ha, T.c_Ring, T.a_Ring_bits, rfl, rfl, _, rfl, ?_⟩
        · rw [Mo.cut_to, SX.S_len, List.length_take]
          omega
        · exact Int.ediv_nonneg (by omega) (by omega)
        · have : ((l.length : Nat) : Int) / ((i + 1 : Nat) : Int) ≤ ((l.length : Nat) : Int) := Int.ediv_le_self _ (by omega)
          omega
        · rw [ck]
          cases c2 : (List.replicate (l.length / (i + 1)) (l.take (i + 1))).flatten == l with
          | false =>
            rw [c2] at kk
            exact kk
          | true =>
            rw [c2] at kk
            exact ⟨_, rfl, acc, hA, la, kk⟩
    · rw [en, least_fm, leastP_some hs] at d2
      refine ⟨_, rfl, a, _, dx, _, _, rfl, X2 _ _ ha, T.c_Ring, T.a_Ring_bits, rfl, ?_⟩
      dsimp only [tNoPart]
      have ea : atI ((((List.range' 1 l.length).filter (leastK l)).headD 0 :: ((List.range' 1 l.length).filter (leastK l)).tail).map fun k => V.int (k : Nat)) 0 = some (V.int ((((List.range' 1 l.length).filter (leastK l)).headD 0 : Nat) : Int)) := atI_nat (j := 0) (v := V.int ((((List.range' 1 l.length).filter (leastK l)).headD 0 : Nat) : Int)) rfl
      refine ⟨_, rfl, A, _, 0, _, rfl, rfl, sq_lst d2, ea, _, rfl, _, rfl, ls, fun x dx' nx nd ne => ?_⟩
      rw [Mo.cut_to]
      refine ring_new nx nd ne (leastP_sgn hs) fun H3 X3 R3 => ⟨rfl, q _ _ (X2.trans X3) R3⟩

theorem ok_Ring_least {P : Program} {w : World} {K : PySem.W.Frag} {mg : Str → Option Value} {base : Heap} (T : Env K mg) : Fc P w K mg base 4 (He.ma K (He.ga K "Ring") "least") [] (sp_Ring_least K) := by
  obtain ⟨fd, D, F⟩ := fb_Ring_least T
  exact F.all (D.bindsN fun _ _ _ _ _ _ us hl => match us, hl with | [_], _ => rfl)
end
section
/-- a thing that is no ring -/
def sp_Ring_eq (K : PySem.W.Frag) : Sp := fun vs H Q _ => ∃ a l y, vs = [.ref a, y] ∧ RingAt K H a l ∧ sgn l = true ∧ ((∃ b m, y = .ref b ∧ RingAt K H b m ∧ sgn m = true ∧ ∀ H', Ex H H' → Q (.bl (decide (long42 l = long42 m))) H') ∨ (∃ t, TyX K H y t ∧ PySem.W.kitOne K t (.ref (He.ga K "Ring")) = some false ∧ Q (.bl false) H))
theorem fb_Ring_eq {P : Program} {w : World} {K : PySem.W.Frag} {mg : Str → Option Value} {base : Heap} (T : Env K mg) : ∃ fd, FunD K "__eq__" "Ring.__eq__" (defArgs s_Ring_eq) (defBody s_Ring_eq) (defScope s_Ring_eq) [] [] (He.ma K (He.ga K "Ring") "__eq__") fd ∧ Fb P w K mg base 5 (He.ma K (He.ga K "Ring") "__eq__") fd ["self", "other"] (sp_Ring_eq K) := by
  obtain ⟨fd, F⟩ := T.f_Ring_eq
  refine ⟨fd, F, fb_of F sc_Ring_eq (fun vs H Q E h => ?_) (fun cdv A outer s H vs Q E hr h => ?_)⟩
  · obtain ⟨a, l, y, rfl, _⟩ := h
    rfl
  · obtain ⟨a, l, y, rfl, hR, hs, h⟩ := h
    refine ⟨_, (pss_one (ps_ret (pe_and (pe_callB call_isi (by rfl) T.n_isinstance (by decide +kernel) (pa_cons (pv 1) (pa_cons (pe_glob (v := .ref _) (by rfl) T.g_Ring rfl) pa_nil))) (pe_one (pe_cmpR op_eq (pe_callTy (call_strO T.m_Ring_str (ok_Ring_str T) (hr.mono (by decide))) (by rfl) T.n_str (by decide +kernel) (pa_cons (c_meth0 (pv 0) T.c_Ring T.m_Ring_least (ok_Ring_least T) (hr.mono (by decide)) takes0) pa_nil)) (pe_callTy (call_strO T.m_Ring_str (ok_Ring_str T) (hr.mono (by decide))) (by rfl) T.n_str (by decide +kernel) (pa_cons (c_meth0 (pv 1) T.c_Ring T.m_Ring_least (ok_Ring_least T) (hr.mono (by decide)) takes0) pa_nil)) (nomark _)))))), ?_⟩
    rcases h with ⟨b, m, rfl, ⟨dy, hb⟩, hm, q⟩ | ⟨t, ty, kt, q⟩
    · obtain ⟨dx, ha⟩ := id hR
      refine ⟨_, rfl, .ref b, .ref (RingC K), _, _, true, rfl, .own _, ty_ins T.i_Ring T.c_Ring hb, T.kit_Ring_Ring, true, rfl, ?_⟩
      refine ⟨_, rfl, a, dx, _, rfl, ha, rfl, a, l, rfl, hR, hs, fun t1 H1 X1 R1 => ?_⟩
      obtain ⟨d1, h1⟩ := id R1
      refine ⟨t1, d1, _, rfl, h1, t1, _, rfl, R1, trivial, ?_⟩
      refine ⟨_, rfl, b, dy, _, rfl, X1 _ _ hb, rfl, b, m, rfl, ⟨dy, X1 _ _ hb⟩, hm, fun t2 H2 X2 R2 => ?_⟩
      obtain ⟨d2, h2⟩ := id R2
      refine ⟨t2, d2, _, rfl, h2, t2, _, rfl, R2, trivial, rfl, ?_⟩
      have e : decide (V.str (SX.S (leastP l)) = V.str (SX.S (leastP m))) = decide (long42 l = long42 m) := by
        rw [decide_eq_decide, ← leastP_iff hs hm]
        exact ⟨fun z => by injection z with z; exact SX.S_inj z, fun z => by rw [z]⟩
      rw [e]
      exact q H2 (X1.trans X2)
    · exact ⟨_, rfl, y, .ref (RingC K), _, _, false, rfl, .own _, ty, kt, false, rfl, q⟩

theorem ok_Ring_eq {P : Program} {w : World} {K : PySem.W.Frag} {mg : Str → Option Value} {base : Heap} (T : Env K mg) : Fc P w K mg base 5 (He.ma K (He.ga K "Ring") "__eq__") [] (sp_Ring_eq K) := by
  obtain ⟨fd, D, F⟩ := fb_Ring_eq T
  exact F.all (D.bindsN fun _ _ _ _ _ _ us hl => match us, hl with | [_, _], _ => rfl)
end
section
def sp_Ring_len (K : PySem.W.Frag) : Sp := fun vs H Q _ => ∃ a l, vs = [.ref a] ∧ RingAt K H a l ∧ l.length ≤ 600 ∧ Q (.int l.length) H
theorem fb_Ring_len {P : Program} {w : World} {K : PySem.W.Frag} {mg : Str → Option Value} {base : Heap} (T : Env K mg) : ∃ fd, FunD K "__len__" "Ring.__len__" (defArgs s_Ring_len) (defBody s_Ring_len) (defScope s_Ring_len) [] [] (He.ma K (He.ga K "Ring") "__len__") fd ∧ Fb P w K mg base 1 (He.ma K (He.ga K "Ring") "__len__") fd ["self"] (sp_Ring_len K) := by
  obtain ⟨fd, F⟩ := T.f_Ring_len
  refine ⟨fd, F, fb_of F sc_Ring_len (fun vs H Q E h => ?_) (fun cdv A outer s H vs Q E hr h => ?_)⟩
  · obtain ⟨a, l, rfl, _⟩ := h
    rfl
  · obtain ⟨a, l, rfl, ⟨dx, ha⟩, hl, q⟩ := h
    refine ⟨_, (pss_one (ps_ret (pe_callB call_len (by rfl) T.n_len (by decide +kernel) (pa_cons (pe_fld (pv 0) (by rfl)) pa_nil)))), ?_⟩
    refine ⟨_, rfl, a, _, dx, _, _, rfl, ha, T.c_Ring, T.a_Ring_bits, rfl, _, _, rfl, ⟨Nat.le_of_lt (small_len (by rw [SX.S_len]; omega)), (SX.S_len l).symm⟩, q⟩

theorem ok_Ring_len {P : Program} {w : World} {K : PySem.W.Frag} {mg : Str → Option Value} {base : Heap} (T : Env K mg) : Fc P w K mg base 1 (He.ma K (He.ga K "Ring") "__len__") [] (sp_Ring_len K) := by
  obtain ⟨fd, D, F⟩ := fb_Ring_len T
  exact F.all (D.bindsN fun _ _ _ _ _ _ us hl => match us, hl with | [_], _ => rfl)
end
section
theorem sgn_at {l : List Nat} {d : Nat} (hs : sgn l = true) : ∃ c, atI l (((d : Nat) : Int) % ((l.length : Nat) : Int)) = some c ∧ decide (V.str ⟨#[c]⟩ = V.str (Str.ofString "1")) = (l.getD (d % l.length) 0 == 49) := by
  have h7 : 1 ≤ l.length ∧ l.length ≤ 7 := of_decide_eq_true (Bool.and_eq_true_iff.mp hs).1
  have lt : d % l.length < l.length := Nat.mod_lt _ (by omega)
  refine ⟨l[d % l.length], ?_, ?_⟩
  · rw [show ((d : Nat) : Int) % ((l.length : Nat) : Int) = ((d % l.length : Nat) : Int) by omega]
    exact atI_nat (List.getElem?_eq_getElem lt)
  · have e1 : l.getD (d % l.length) 0 = l[d % l.length] := by simp [List.getD, lt]
    rw [e1]
    by_cases h : l[d % l.length] = 49
    · rw [h]
      rfl
    · rw [decide_eq_false (fun y => h (by injection y with y; have w : [l[d % l.length]] = [49] := SX.S_inj y; injection w))]
      exact (beq_eq_false_iff_ne.mpr h).symm
def sp_Ring_rings (K : PySem.W.Frag) : Sp := fun vs H Q E => ∃ a l x, vs = [.ref a, x] ∧ RingAt K H a l ∧ sgn l = true ∧ Cl K H x ∧ (∀ d : Nat, x = .int d → Q (.bl (l.getD (d % l.length) 0 == 49)) H) ∧ (isM x = false → E (.ref (He.ga K "NoDays")) none H)
theorem fb_Ring_rings {P : Program} {w : World} {K : PySem.W.Frag} {mg : Str → Option Value} {base : Heap} (T : Env K mg) : ∃ fd, FunD K "rings" "Ring.rings" (defArgs s_Ring_rings) (defBody s_Ring_rings) (defScope s_Ring_rings) [] [] (He.ma K (He.ga K "Ring") "rings") fd ∧ Fb P w K mg base 4 (He.ma K (He.ga K "Ring") "rings") fd ["self", "day"] (sp_Ring_rings K) := by
  obtain ⟨fd, F⟩ := T.f_Ring_rings
  refine ⟨fd, F, fb_of F sc_Ring_rings (fun vs H Q E h => ?_) (fun cdv A outer s H vs Q E hr h => ?_)⟩
  · obtain ⟨a, l, x, rfl, _⟩ := h
    rfl
  · obtain ⟨a, l, x, rfl, ⟨dx, ha⟩, hs, c, q, qe⟩ := h
    refine ⟨_, (pss_cons (ps_expr (c_call (ok_want_day T) (hr.mono (by decide)) T.g_want_day T.k_want_day (takes_of rfl rfl rfl rfl) (pa_cons (pv 1) pa_nil)))
      (pss_one (ps_ret (pe_cmpR op_eq (pe_ix ix_str (pe_fld (pv 0) (by rfl)) (pe_op op_mod (pv 1) (pe_callB call_len (by rfl) T.n_len (by decide +kernel) (pa_cons (pe_fld (pv 0) (by rfl)) pa_nil))) (fun _ _ => rfl)) (pe_k T.v_ONE) (nomark _))))), ?_⟩
    refine ⟨_, rfl, x, rfl, c, fun e => ?_, qe⟩
    obtain ⟨i, rfl, i0⟩ := isM_w e
    obtain ⟨d, rfl⟩ := Int.eq_ofNat_of_zero_le i0
    have h7 : 1 ≤ l.length ∧ l.length ≤ 7 := of_decide_eq_true (Bool.and_eq_true_iff.mp hs).1
    have ls : (SX.S l).length ≤ sizeLine := Nat.le_of_lt (small_len (by rw [SX.S_len]; omega))
    refine ⟨_, rfl, a, _, dx, _, _, rfl, ha, T.c_Ring, T.a_Ring_bits, rfl, ?_⟩
    refine ⟨_, rfl, _, rfl, a, _, dx, _, _, rfl, ha, T.c_Ring, T.a_Ring_bits, rfl, _, l.length, rfl, ⟨ls, (SX.S_len l).symm⟩, _, _, rfl, rfl, (by show (0 : Int) < l.length; omega), ?_⟩
    have lt : d % l.length < l.length := Nat.mod_lt _ (by omega)
    refine ⟨_, _, l[d % l.length], rfl, rfl, ls, ?_, rfl, ?_⟩
    · show atI l (((d : Nat) : Int) % ((l.length : Nat) : Int)) = _
      rw [show ((d : Nat) : Int) % ((l.length : Nat) : Int) = ((d % l.length : Nat) : Int) by omega]
      exact atI_nat (List.getElem?_eq_getElem lt)
    · have z := q d rfl
      have e1 : l.getD (d % l.length) 0 = l[d % l.length] := by simp [List.getD, lt]
      rw [e1] at z
      have e2 : decide (V.str ⟨#[l[d % l.length]]⟩ = V.str (Str.ofString "1")) = (l[d % l.length] == 49) := by
        by_cases h : l[d % l.length] = 49
        · rw [h]
          rfl
        · rw [decide_eq_false (fun y => h (by injection y with y; have w : [l[d % l.length]] = [49] := SX.S_inj y; injection w))]
          exact (beq_eq_false_iff_ne.mpr h).symm
      rw [e2]
      exact z

theorem ok_Ring_rings {P : Program} {w : World} {K : PySem.W.Frag} {mg : Str → Option Value} {base : Heap} (T : Env K mg) : Fc P w K mg base 4 (He.ma K (He.ga K "Ring") "rings") [] (sp_Ring_rings K) := by
  obtain ⟨fd, D, F⟩ := fb_Ring_rings T
  exact F.all (D.bindsN fun _ _ _ _ _ _ us hl => match us, hl with | [_, _], _ => rfl)
end
section
/-- whole numbers as values -/
def natV (ns : List Nat) : List V := ns.map fun n : Nat => V.int (n : Int)
/-- a list of days that is handed in: None, a list, a tuple -/
def DayL (K : PySem.W.Frag) (H : Hp) (x : V) (ns : List Nat) : Prop := (x = .non ∧ ns = []) ∨ (∃ a, x = .ref a ∧ ((H a = some (.lst (natV ns))) ∨ (H a = some (.tup (natV ns)))) ∧ ns.length ≤ 8 ∧ ns.Nodup)
/-- in order -/
def srtN (ns : List Nat) : List Nat := (srt (ns.map fun n : Nat => (n : Int))).map Int.toNat
theorem nat_int (ns : List Nat) : natV ns = (ns.map fun n : Nat => (n : Int)).map V.int := by
  unfold natV
  rw [List.map_map]
  rfl
theorem inV_nat (d : Nat) (ns : List Nat) : inV (.int (d : Int)) (natV ns) = decide (d ∈ ns) := by
  rw [nat_int, inV_int]
  apply decide_eq_decide.mpr
  constructor
  · intro h
    obtain ⟨n, hn, e⟩ := List.mem_map.mp h
    have : n = d := by omega
    exact this ▸ hn
  · intro h
    exact List.mem_map.mpr ⟨d, h, rfl⟩
theorem flat_nat (ns : List Nat) : (natV ns).all flatV = true := by
  rw [nat_int]
  exact flat_ints _
theorem mem_srtN (d : Nat) (ns : List Nat) : decide (d ∈ srtN ns) = decide (d ∈ ns) := by
  apply decide_eq_decide.mpr
  unfold srtN
  constructor
  · intro h
    obtain ⟨i, hi, e⟩ := List.mem_map.mp h
    obtain ⟨n, hn, e2⟩ := List.mem_map.mp ((srt_perm _).subset hi)
    have : n = d := by omega
    exact this ▸ hn
  · intro h
    exact List.mem_map.mpr ⟨(d : Int), (srt_perm _).symm.subset (List.mem_map.mpr ⟨d, h, rfl⟩), by simp⟩
theorem srtN_mem (d : Nat) (ns : List Nat) : d ∈ srtN ns ↔ d ∈ ns := decide_eq_decide.mp (mem_srtN d ns)
theorem natV_len (ns : List Nat) : (natV ns).length = ns.length := by
  unfold natV
  rw [List.length_map]
theorem srtN_len (ns : List Nat) : (srtN ns).length = ns.length := by
  unfold srtN
  rw [List.length_map, (srt_perm _).length_eq, List.length_map]
theorem fm_const (n : Nat) (v : V) : (List.range n).filterMap (fun _ => some v) = List.replicate n v := by
  induction n with
  | zero => rfl
  | succ n ih => rw [List.range_succ, List.filterMap_append, ih, List.replicate_succ']; rfl
theorem any_rep (n : Nat) : (List.replicate n false).any id = false := by
  induction n with
  | zero => rfl
  | succ n ih => rw [List.replicate_succ, List.any_cons, ih]; rfl
theorem natV_srt (ns : List Nat) : (srt (ns.map fun n : Nat => (n : Int))).map V.int = natV (srtN ns) := by
  unfold natV srtN
  rw [List.map_map]
  apply List.map_congr_left
  intro i hi
  obtain ⟨n, _, e⟩ := List.mem_map.mp ((srt_perm _).subset hi)
  show V.int i = V.int ((i.toNat : Nat) : Int)
  rw [Int.toNat_of_nonneg (by omega)]
theorem srtN_lt {ns : List Nat} (h : ns.Nodup) : (srtN ns).Pairwise (· < ·) := by
  have h1 : (srt (ns.map fun n : Nat => (n : Int))).Pairwise (· ≤ ·) := srt_sorted _
  have h2 : (srt (ns.map fun n : Nat => (n : Int))).Nodup := (srt_perm _).nodup_iff.mpr (List.Pairwise.map _ (fun a b (hab : a ≠ b) (z : (a : Int) = b) => hab (by omega)) h)
  unfold srtN
  refine List.pairwise_map.mpr ?_
  have h0 : ∀ i ∈ srt (ns.map fun n : Nat => (n : Int)), 0 ≤ i := fun i hi => by
    obtain ⟨n, _, e⟩ := List.mem_map.mp ((srt_perm _).subset hi)
    omega
  refine (List.Pairwise.and h1 h2).imp_of_mem fun {a b} ha hb z => ?_
  have := h0 a ha
  have := h0 b hb
  have := z.1
  have : a ≠ b := z.2
  omega
theorem cut1 (xs : List V) : cutV xs (some 1) none = xs.drop 1 := by
  unfold cutV
  rw [HT.sIx_none, show (some (1 : Int)) = some ((1 : Nat) : Int) from rfl, HT.sIx_nat]
  cases xs with
  | nil => rfl
  | cons x r =>
    rw [show min 1 (x :: r).length = 1 by simp]
    exact List.take_of_length_le (by simp)
theorem zip_next {l : List Nat} (h : l.Pairwise (· < ·)) {i : Nat} {x y : V} (h1 : (natV l)[i]? = some x) (h2 : ((natV l).drop 1)[i]? = some y) : ∃ a b : Nat, x = .int a ∧ y = .int b ∧ a < b := by
  unfold natV at h1 h2
  rw [List.getElem?_drop] at h2
  rw [List.getElem?_map] at h1 h2
  obtain ⟨a, ha, ea⟩ := Option.map_eq_some_iff.mp h1
  obtain ⟨b, hb, eb⟩ := Option.map_eq_some_iff.mp h2
  obtain ⟨l1, e1⟩ := List.getElem?_eq_some_iff.mp ha
  obtain ⟨l2, e2⟩ := List.getElem?_eq_some_iff.mp hb
  refine ⟨a, b, ea.symm, eb.symm, ?_⟩
  have := List.pairwise_iff_getElem.mp h i (1 + i) l1 l2 (by omega)
  rw [e1, e2] at this
  exact this
/-- the days of a list that is handed in, none where they are none -/
def dayNum : V → Nat
  | .int i => i.toNat
  | _ => 0
def dayList (xs : List V) : Option (List Nat) := if (decide (xs.length ≤ 8) && xs.all isM && decide (xs.map dayNum).Nodup) = true then some (xs.map dayNum) else none
/-- what is handed in for days, and what it tells -/
def DayG (K : PySem.W.Frag) (H : Hp) (x : V) (r : Option (List Nat)) : Prop := (x = .non ∧ r = some []) ∨ (∃ a xs, x = .ref a ∧ (H a = some (.lst xs) ∨ H a = some (.tup xs)) ∧ xs.length ≤ 10000 ∧ (∀ y ∈ xs, Cl K H y) ∧ r = dayList xs) ∨ (x ≠ .non ∧ (∃ t, TyX K H x t ∧ PySem.W.kitAny K t [.type "list", .type "tuple"] = some false) ∧ r = none)
theorem natV_isM (ns : List Nat) : (natV ns).all isM = true := by
  rw [List.all_eq_true]
  intro x hx
  obtain ⟨n, _, rfl⟩ := List.mem_map.mp hx
  exact isM_nat n
theorem natV_num (ns : List Nat) : (natV ns).map dayNum = ns := by
  unfold natV
  rw [List.map_map]
  have : (dayNum ∘ fun n : Nat => V.int (n : Int)) = id := funext fun n => by simp [dayNum]
  rw [this, List.map_id]
theorem isM_natV : ∀ {xs : List V}, xs.all isM = true → xs = natV (xs.map dayNum)
  | [], _ => rfl
  | x :: xs, h => by
    obtain ⟨h1, h2⟩ := Bool.and_eq_true_iff.mp (show (isM x && xs.all isM) = true from h)
    obtain ⟨i, rfl, i0⟩ := isM_w h1
    obtain ⟨n, rfl⟩ := Int.eq_ofNat_of_zero_le i0
    have ih := isM_natV h2
    show V.int (n : Nat) :: xs = V.int (((Int.ofNat n).toNat : Nat) : Int) :: natV (xs.map dayNum)
    rw [← ih]
    rfl
theorem dayList_nat (ns : List Nat) : dayList (natV ns) = if decide (ns.length ≤ 8) && decide ns.Nodup then some ns else none := by
  unfold dayList
  rw [natV_isM, natV_num, natV_len, Bool.and_true]
theorem DayL.gen {K : PySem.W.Frag} {H : Hp} {x : V} {ns : List Nat} (h : DayL K H x ns) : DayG K H x (some ns) := by
  rcases h with ⟨h1, h2⟩ | ⟨a, h1, h2, h3, h4⟩
  · exact .inl ⟨h1, by rw [h2]⟩
  · refine .inr (.inl ⟨a, natV ns, h1, h2, by rw [natV_len]; omega, fun y hy => ?_, ?_⟩)
    · obtain ⟨n, _, rfl⟩ := List.mem_map.mp hy
      exact cl_int _
    · rw [dayList_nat, decide_eq_true h3, decide_eq_true h4]
      rfl
theorem DayG.mono {K : PySem.W.Frag} {H H' : Hp} {x : V} {r : Option (List Nat)} (h : DayG K H x r) (e : Ex H H') : DayG K H' x r := by
  rcases h with h | ⟨a, xs, h1, h2, h3, h4, h5⟩ | ⟨h1, ⟨t, h2, h3⟩, h4⟩
  · exact .inl h
  · exact .inr (.inl ⟨a, xs, h1, h2.imp (e _ _) (e _ _), h3, fun y hy => (h4 y hy).mono e, h5⟩)
  · exact .inr (.inr ⟨h1, ⟨t, tyX_mono e h2, h3⟩, h4⟩)
/-- neighbours that are alike -/
def alikeN (l : List Nat) : List Bool := (l.zip (l.drop 1)).map fun p => decide (p.1 = p.2)
theorem alike_any {l : List Nat} (h : l.Pairwise (· ≤ ·)) : (alikeN l).any id = !decide l.Nodup := by
  induction l with
  | nil => rfl
  | cons a l ih =>
    obtain ⟨h1, h2⟩ := List.pairwise_cons.mp h
    have ih := ih h2
    cases l with
    | nil => rfl
    | cons b r =>
      have e : alikeN (a :: b :: r) = decide (a = b) :: alikeN (b :: r) := rfl
      rw [e, List.any_cons, ih]
      by_cases c : a = b
      · have nn : ¬ (a :: b :: r).Nodup := fun z => (List.pairwise_cons.mp z).1 b List.mem_cons_self c
        rw [decide_eq_false nn, decide_eq_true c]
        rfl
      · have iff : (a :: b :: r).Nodup ↔ (b :: r).Nodup := by
          refine ⟨fun z => (List.pairwise_cons.mp z).2, fun z => List.pairwise_cons.mpr ⟨fun x hx ex => ?_, z⟩⟩
          subst ex
          have hb := h1 b List.mem_cons_self
          rcases List.mem_cons.mp hx with hx | hx
          · exact c hx
          · have := (List.pairwise_cons.mp h2).1 a hx
            omega
        rw [decide_eq_false c, show decide (a :: b :: r).Nodup = decide (b :: r).Nodup from decide_eq_decide.mpr iff]
        rfl
theorem srtN_le (ns : List Nat) : (srtN ns).Pairwise (· ≤ ·) := by
  unfold srtN
  refine List.pairwise_map.mpr ((srt_sorted _).imp fun {a b} h => ?_)
  omega
theorem srtN_nodup (ns : List Nat) : decide (srtN ns).Nodup = decide ns.Nodup := by
  apply decide_eq_decide.mpr
  have p : (srtN ns).Perm ns := by
    unfold srtN
    have := (srt_perm (ns.map fun n : Nat => (n : Int))).map Int.toNat
    rw [List.map_map] at this
    have e : (Int.toNat ∘ fun n : Nat => (n : Int)) = id := funext fun n => by simp
    rw [e, List.map_id] at this
    exact this
  exact p.nodup_iff
def sp_told_days (K : PySem.W.Frag) : Sp := fun vs H Q E => ∃ x r, vs = [x] ∧ DayG K H x r ∧ (∀ ns, r = some ns → ∀ p H', Ex H H' → H p = none → H' p = some (.tup (natV (srtN ns))) → Q (.ref p) H') ∧ (r = none → ∀ H', Ex H H' → E (.ref (He.ga K "NoDays")) none H')
theorem fb_told_days {P : Program} {w : World} {K : PySem.W.Frag} {mg : Str → Option Value} {base : Heap} (T : Env K mg) : ∃ fd, FunD K "told_days" "told_days" (defArgs s_told_days) (defBody s_told_days) (defScope s_told_days) [] [] (He.ga K "told_days") fd ∧ Fb P w K mg base 4 (He.ga K "told_days") fd ["thing"] (sp_told_days K) := by
  obtain ⟨fd, F⟩ := T.f_told_days
  refine ⟨fd, F, fb_of F sc_told_days (fun vs H Q E h => ?_) (fun cdv A outer s H vs Q E hr h => ?_)⟩
  · obtain ⟨x, ns, rfl, _⟩ := h
    rfl
  · obtain ⟨x, r, rfl, hx, q, qe⟩ := h
    refine ⟨_, (pss_cons (ps_if (pt_cmpR op_isN (pv 0) pe_non (nomark _))
      (pss_one (ps_ret (pe_tup pa_nil)))
      pss_nil)
      (pss_cons (ps_if (PW.pt (pw_or (pt_not (pt_val (pe_callB call_isiT (by rfl) T.n_isinstance (by decide +kernel) (pa_cons (pv 0) (pa_cons (pe_tup (pa_cons (pe_bltn (v := .ty "list") (by rfl) T.n_list (by decide +kernel) rfl) (pa_cons (pe_bltn (v := .ty "tuple") (by rfl) T.n_tuple (by decide +kernel) rfl) pa_nil))) pa_nil))))) (pw_or1 (pt_cmpR op_gt (pe_callB call_len (by rfl) T.n_len (by decide +kernel) (pa_cons (pv 0) pa_nil)) (pe_k T.v_MOST_DAYS) (nomark _)))))
      (pss_one (ps_raise rfl (takes_of rfl rfl rfl rfl) (pmk_own PySem.F.excBase_ValueError T.x_NoDays.x T.g_NoDays T.x_NoDays.kp (raises_own T.x_NoDays.sub T.x_NoDays.ty) rfl)))
      pss_nil)
      (Evl.pss_cut (ps_for (passes_of rfl) rfl (pi_seq (pv 0)) (pg_name (i := 1) sc_told_days.nd rfl (Or.inl rfl))
      (pss_one (ps_expr (c_call (ok_want_day T) (hr.mono (by decide)) T.g_want_day T.k_want_day (takes_of rfl rfl rfl rfl) (pa_cons (pv 1) pa_nil)))))
      (pss_cons (ps_set (i := 2) sc_told_days.nd rfl (Or.inl rfl) (pe_callTy call_tuple_of (by rfl) T.n_tuple (by decide +kernel) (pa_cons (pe_callB (cr_sortedA K) (by rfl) T.n_sorted (by decide +kernel) (pa_cons (pv 0) pa_nil)) pa_nil)))
      (pss_cons (ps_if (pt_val (pe_callB (cr_any rfl) (by rfl) T.n_any (by decide +kernel) (pa_cons (pe_lc (own := [("one", 3), ("other", 4)]) (by rfl) sc_told_days.nd (RZ.pi_zipA (by rfl) T.n_zip (pa_cons (pv 2) (pa_cons (pe_slice sl_tupA (pv 2) (po_some pe_int) po_none) pa_nil))) (blkOk_by (own := [("one", 3), ("other", 4)]) (N := ["thing", "day", "found", "one", "other"]) (sc := defScope s_told_days) (by decide +kernel)) (fun _ _ _ _ _ => (pg_tupK K (n := 2) rfl (pgs_cons (pg_name (i := 3) sc_told_days.nd rfl (Or.inl rfl)) (pgs_cons (pg_name (i := 4) sc_told_days.nd rfl (Or.inl rfl)) pgs_nil)))) (fun _ _ _ _ _ => pts_nil) (fun _ _ _ _ _ => (pe_cmpR op_eq (pv 3) (pv 4) (nomark _)))) pa_nil)))
      (pss_one (ps_raise rfl (takes_of rfl rfl rfl rfl) (pmk_own PySem.F.excBase_ValueError T.x_NoDays.x T.g_NoDays T.x_NoDays.kp (raises_own T.x_NoDays.sub T.x_NoDays.ty) rfl)))
      pss_nil)
      (pss_one (ps_ret (pv 2)))))))), ?_⟩
    rcases hx with ⟨rfl, rfl⟩ | ⟨a, xs, rfl, hl, lx, hc, er⟩ | ⟨nx, ⟨t, ty, kt⟩, rfl⟩
    · refine ⟨_, rfl, rfl, _, rfl, iteT ?_⟩
      refine ⟨by show 0 ≤ sizeLine; decide, fun p np => q [] rfl p _ (ex_new np) np ?_⟩
      have e : srtN [] = [] := List.eq_nil_of_length_eq_zero (by rw [srtN_len]; rfl)
      rw [upd_same, e]
      rfl
    · refine ⟨_, rfl, rfl, _, rfl, iteF ?_⟩
      refine ⟨_, rfl, by show 2 ≤ sizeLine; decide, fun tp ntp => ?_⟩
      have X1 := ex_new (o := .tup [.ty "list", .ty "tuple"]) ntp
      have ty : ∃ t, TyX K (upd H tp (.tup [.ty "list", .ty "tuple"])) (.ref a) t ∧ PySem.W.kitAny K t [.type "list", .type "tuple"] = some true := by
        rcases hl with h | h
        · exact ⟨_, .base (.lst (X1 _ _ h)), kitAny_cons (b := true) (kit_ty (by decide +kernel)) (fun z => nomatch z) (fun _ => rfl)⟩
        · exact ⟨_, .base (.tup (X1 _ _ h)), kitAny_cons (b := false) (kit_ty (by decide +kernel)) (fun _ => kitAny_cons (b := true) (kit_ty (by decide +kernel)) (fun z => nomatch z) (fun _ => rfl)) (by decide)⟩
      obtain ⟨t, ty, kt⟩ := ty
      have sq : ∀ {H' : Hp}, Ex H H' → SqL K H' a xs ∨ SqT K H' a xs := fun {H'} e => by
        rcases hl with h | h
        · exact .inl (sq_lst (e _ _ h))
        · exact .inr (sq_tup (e _ _ h))
      refine ⟨.ref a, tp, _, t, _, true, rfl, upd_same, .cons (.ty "list") (.cons (.ty "tuple") .nil), ty, kt, true, rfl, iteF ?_⟩
      refine ⟨_, rfl, _, xs.length, rfl, ?_, _, _, rfl, rfl, _, rfl, ?_⟩
      · rcases sq X1 with h | h
        · exact .inl ⟨_, h, rfl⟩
        · exact .inr ⟨_, h, rfl⟩
      by_cases l8 : 8 < xs.length
      · rw [decide_eq_true (show (8 : Int) < ((xs.length : Nat) : Int) by omega)]
        refine qe ?_ _ X1
        rw [er]
        unfold dayList
        rw [decide_eq_false (show ¬ xs.length ≤ 8 by omega)]
        rfl
      rw [decide_eq_false (show ¬ (8 : Int) < ((xs.length : Nat) : Int) by omega)]
      refine iteF ?_
      have H1d : ∀ y ∈ xs, Cl K (upd H tp (.tup [.ty "list", .ty "tuple"])) y := fun y hy => (hc y hy).mono X1
      refine ⟨fun σ' H' => H' = upd H tp (.tup [.ty "list", .ty "tuple"]) ∧ xs.all isM = true ∧ ∃ v, σ' = [some (.ref a), v, none, none, none], ?_, ?_⟩
      · have stp : ∀ (i : Nat) (x : V) (σ : L2.St) (H' : Hp) (D : Ends), xs[i]? = some x → (H' = upd H tp (.tup [.ty "list", .ty "tuple"]) ∧ (xs.take i).all isM = true ∧ ∃ v, σ = [some (.ref a), v, none, none, none]) →
            sp_want_day K [x] H' (fun _ H2 => H2 = upd H tp (.tup [.ty "list", .ty "tuple"]) ∧ (xs.take (i + 1)).all isM = true ∧ ∃ v, (σ.set 1 (some x)) = [some (.ref a), v, none, none, none]) (fun c d H' => E c d H') := fun i x σ H' D hx ⟨e1, e2, v, e3⟩ => by
          subst e1 e3
          refine ⟨x, rfl, H1d x (List.mem_of_getElem? hx), fun hm => ⟨rfl, ?_, _, rfl⟩, fun hm => qe ?_ _ X1⟩
          · rw [take_snoc hx, List.all_append, e2]
            simp [hm]
          · rw [er]
            unfold dayList
            have : xs.all isM = false := by
              rw [List.all_eq_false]
              exact ⟨x, List.mem_of_getElem? hx, by rw [hm]; decide⟩
            rw [this, Bool.and_false, Bool.false_and]
            rfl
        have fin : ∀ (σ : L2.St) (H' : Hp), (H' = upd H tp (.tup [.ty "list", .ty "tuple"]) ∧ (xs.take xs.length).all isM = true ∧ ∃ v, σ = [some (.ref a), v, none, none, none]) → H' = upd H tp (.tup [.ty "list", .ty "tuple"]) ∧ xs.all isM = true ∧ ∃ v, σ = [some (.ref a), v, none, none, none] := fun σ H' h => by
          rw [List.take_length] at h
          exact h
        rcases hl with h | h
        · refine .inl ⟨_, rfl, a, rfl, ⟨_, sq_lst (X1 _ _ h)⟩, for_list (fun i σ H' => H' = upd H tp (.tup [.ty "list", .ty "tuple"]) ∧ (xs.take i).all isM = true ∧ ∃ v, σ = [some (.ref a), v, none, none, none]) ⟨rfl, rfl, _, rfl⟩ (fun i σ H' _ e => by rw [e.1]; exact sq_lst (X1 _ _ h)) ?_ fin⟩
          intro i x σ H' hx p
          obtain ⟨e1, e2, v, e3⟩ := id p
          have := stp i x σ H' { nx := fun _ _ => True, rt := fun _ _ => True } hx p
          subst e3
          exact ⟨_, rfl, this⟩
        · refine .inr ⟨_, rfl, a, rfl, ⟨_, sq_tup (X1 _ _ h)⟩, for_tup (fun i σ H' => H' = upd H tp (.tup [.ty "list", .ty "tuple"]) ∧ (xs.take i).all isM = true ∧ ∃ v, σ = [some (.ref a), v, none, none, none]) ⟨rfl, rfl, _, rfl⟩ (fun i σ H' _ e => by rw [e.1]; exact sq_tup (X1 _ _ h)) ?_ fin⟩
          intro i x σ H' hx p
          obtain ⟨e1, e2, v, e3⟩ := id p
          have := stp i x σ H' { nx := fun _ _ => True, rt := fun _ _ => True } hx p
          subst e3
          exact ⟨_, rfl, this⟩
      rintro σ' H1 ⟨rfl, hM, v, rfl⟩
      have exs := isM_natV hM
      generalize xs.map dayNum = ns at exs
      subst exs
      rw [dayList_nat] at er
      rw [natV_len] at l8
      rw [decide_eq_true (show ns.length ≤ 8 by omega), Bool.true_and] at er
      refine ⟨_, rfl, a, ns.map (fun n : Nat => (n : Int)), rfl, by rw [← nat_int]; exact sq X1, fun p1 np1 => ?_⟩
      rw [natV_srt]
      refine ⟨p1, _, rfl, .inl ⟨sq_lst upd_same, fun l nl => ?_⟩⟩
      have X3 := (X1.trans (ex_new (o := .lst (natV (srtN ns))) np1)).trans (ex_new (o := .tup (natV (srtN ns))) nl)
      have nl0 : H l = none := ex_fresh (X1.trans (ex_new np1)) nl
      have hl3 : upd (upd (upd H tp (.tup [.ty "list", .ty "tuple"])) p1 (.lst (natV (srtN ns)))) l (.tup (natV (srtN ns))) l = some (.tup (natV (srtN ns))) := upd_same
      generalize upd (upd (upd H tp (.tup [.ty "list", .ty "tuple"])) p1 (.lst (natV (srtN ns)))) l (.tup (natV (srtN ns))) = H3 at X3 hl3 ⊢
      refine ⟨_, rfl, _, rfl, _, rfl, ?_⟩
      dsimp only [tNoPart]
      refine slA_of (sq_tup hl3) fun b2 H4 X4 hb2 => ?_
      rw [cut1] at hb2
      have ed : (natV (srtN ns)).drop 1 = natV ((srtN ns).drop 1) := by
        unfold natV
        rw [List.map_drop]
      rw [ed] at hb2
      have sl := srtN_len ns
      refine ⟨l, b2, natV (srtN ns), natV ((srtN ns).drop 1), rfl, .inr ⟨sq_tup (X4 _ _ hl3), hb2, fun D nD => lc_zip (srtN ns) ((srtN ns).drop 1) (fun n : Nat => V.int n) (fun n : Nat => V.int n) (walk_zipT rfl) (by rw [List.length_map, List.length_map]) (fun x y => some (.bl (decide (x = y)))) (fun H' => Ex H4 H') (fun H' z e => ex_mut e nD) (.refl _) (by omega) (fun H' e => ⟨sq_tup (e _ _ (X4 _ _ hl3)), ex_sqt e hb2⟩) (fun i x y u H5 acc N hx hy X5 nu hA la k => ?_) fun H5 X5 d5 => ?_⟩⟩
      · have hA2 := fun o => ex_new (o := o) nu _ _ hA
        refine ⟨u, _, rfl, sq_tup upd_same, rfl, _, _, rfl, _, _, rfl, rfl, rfl, _, rfl, _, rfl, rfl, acc, hA2 _, la, ?_⟩
        have eq : decide (V.int ((x : Nat) : Int) = V.int ((y : Nat) : Int)) = decide (x = y) := decide_eq_decide.mpr ⟨fun z => by injection z with z; omega, fun z => by rw [z]⟩
        rw [eq]
        exact k _ (X5.trans (ex_new nu)) (hA2 _)
      · have eb : ((srtN ns).zip ((srtN ns).drop 1)).filterMap (fun p => some (V.bl (decide (p.1 = p.2)))) = (alikeN (srtN ns)).map V.bl := by
          unfold alikeN
          rw [List.filterMap_eq_map', List.map_map]
          rfl
        rw [eb] at d5
        refine ⟨D, alikeN (srtN ns), rfl, sq_lst d5, ?_⟩
        rw [alike_any (srtN_le ns), srtN_nodup]
        have X := (X3.trans X4).trans X5
        by_cases nd : ns.Nodup
        · rw [decide_eq_true nd] at er ⊢
          refine ⟨false, rfl, iteF ?_⟩
          exact ⟨_, rfl, q ns er l H5 X nl0 ((X4.trans X5) _ _ hl3)⟩
        · rw [decide_eq_false nd] at er ⊢
          exact ⟨true, rfl, qe er _ X⟩
    · refine ⟨_, rfl, rfl, _, rfl, ?_⟩
      rw [decide_eq_false nx]
      refine iteF ?_
      refine ⟨_, rfl, by show 2 ≤ sizeLine; decide, fun tp ntp => ?_⟩
      have X1 := ex_new (o := .tup [.ty "list", .ty "tuple"]) ntp
      exact ⟨x, tp, _, t, _, false, rfl, upd_same, .cons (.ty "list") (.cons (.ty "tuple") .nil), tyX_mono X1 ty, kt, false, rfl, qe rfl _ X1⟩

theorem ok_told_days {P : Program} {w : World} {K : PySem.W.Frag} {mg : Str → Option Value} {base : Heap} (T : Env K mg) : Fc P w K mg base 4 (He.ga K "told_days") [] (sp_told_days K) := by
  obtain ⟨fd, D, F⟩ := fb_told_days T
  exact F.all (D.bindsN fun _ _ _ _ _ _ us hl => match us, hl with | [_], _ => rfl)
end
section
def optV : Option Nat → V
  | none => .non
  | some n => .int (n : Int)
/-- a last day as it is told: r what it is, none where it is none -/
def TillG (K : PySem.W.Frag) (H : Hp) (x : V) (s : Nat) (r : Option (Option Nat)) : Prop := (x = .non ∧ r = some none) ∨ (x ≠ .non ∧ Cl K H x ∧ ((∃ n : Nat, x = .int n ∧ r = if s ≤ n then some (some n) else none) ∨ (isM x = false ∧ r = none)))
def sp_want_till (K : PySem.W.Frag) : Sp := fun vs H Q E => ∃ (s : Nat) (x : V) (r : Option (Option Nat)), vs = [.int s, x] ∧ TillG K H x s r ∧ (r ≠ none → Q .non H) ∧ (r = none → E (.ref (He.ga K "NoDays")) none H)
theorem fb_want_till {P : Program} {w : World} {K : PySem.W.Frag} {mg : Str → Option Value} {base : Heap} (T : Env K mg) : ∃ fd, FunD K "want_till" "want_till" (defArgs s_want_till) (defBody s_want_till) (defScope s_want_till) [] [] (He.ga K "want_till") fd ∧ Fb P w K mg base 4 (He.ga K "want_till") fd ["since", "till"] (sp_want_till K) := by
  obtain ⟨fd, F⟩ := T.f_want_till
  refine ⟨fd, F, fb_of F sc_want_till (fun vs H Q E h => ?_) (fun cdv A outer s H vs Q E hr h => ?_)⟩
  · obtain ⟨s, x, r, rfl, _⟩ := h
    rfl
  · obtain ⟨s, x, r, rfl, ht, q, qe⟩ := h
    refine ⟨_, (pss_one (ps_if (pt_cmpR op_notN (pv 1) pe_non (nomark _))
      (pss_cons (ps_expr (c_call (ok_want_day T) (hr.mono (by decide)) T.g_want_day T.k_want_day (takes_of rfl rfl rfl rfl) (pa_cons (pv 1) pa_nil)))
      (pss_one (ps_if (pt_cmpR op_lt (pv 1) (pv 0) (nomark _))
      (pss_one (ps_raise rfl (takes_of rfl rfl rfl rfl) (pmk_own PySem.F.excBase_ValueError T.x_NoDays.x T.g_NoDays T.x_NoDays.kp (raises_own T.x_NoDays.sub T.x_NoDays.ty) rfl)))
      pss_nil)))
      pss_nil)), ?_⟩
    rcases ht with ⟨rfl, rfl⟩ | ⟨nx, c, ⟨n, rfl, rfl⟩ | ⟨hm, rfl⟩⟩
    · exact ⟨_, rfl, rfl, _, rfl, q (by simp)⟩
    · refine ⟨_, rfl, rfl, _, rfl, ?_⟩
      refine ⟨_, rfl, _, rfl, cl_int _, fun _ => ?_, isM_no⟩
      refine ⟨_, rfl, _, rfl, _, _, rfl, rfl, _, rfl, ?_⟩
      by_cases c1 : s ≤ n
      · rw [decide_eq_false (show ¬ ((n : Nat) : Int) < ((s : Nat) : Int) by omega)]
        exact q (by rw [if_pos c1]; simp)
      · rw [decide_eq_true (show ((n : Nat) : Int) < ((s : Nat) : Int) by omega)]
        exact qe (if_neg c1)
    · refine ⟨_, rfl, rfl, _, rfl, ?_⟩
      rw [decide_eq_false nx]
      refine iteT ?_
      exact ⟨_, rfl, x, rfl, c, fun e => absurd (hm.symm.trans e) (by decide), fun _ => qe rfl⟩

theorem ok_want_till {P : Program} {w : World} {K : PySem.W.Frag} {mg : Str → Option Value} {base : Heap} (T : Env K mg) : Fc P w K mg base 4 (He.ga K "want_till") [] (sp_want_till K) := by
  obtain ⟨fd, D, F⟩ := fb_want_till T
  exact F.all (D.bindsN fun _ _ _ _ _ _ us hl => match us, hl with | [_, _], _ => rfl)
end
section
abbrev DaysC (K : PySem.W.Frag) : Addr := He.ga K "Days"
structure DaysD where
  bits : List Nat
  since : Nat
  till : Option Nat
  out : List Nat
  also : List Nat
def DaysD.ok (D : DaysD) : Prop := sgn D.bits = true ∧ (∀ u, D.till = some u → D.since ≤ u) ∧ D.out.length ≤ 8 ∧ D.also.length ≤ 8 ∧ D.out.Nodup ∧ D.also.Nodup ∧ ∀ n ∈ D.also, n ∉ D.out
def dayF (r po pa : Addr) (D : DaysD) : List (Str × V) := [("ring", .ref r), ("since", .int (D.since : Nat)), ("till", optV D.till), ("out", .ref po), ("also", .ref pa)]
/-- at a Days of these -/
def DaysAt (K : PySem.W.Frag) (H : Hp) (a : Addr) (D : DaysD) : Prop := ∃ dx r po pa, H a = some (.ins (DaysC K) dx (dayF r po pa D)) ∧ RingAt K H r D.bits ∧ H po = some (.tup (natV (srtN D.out))) ∧ H pa = some (.tup (natV (srtN D.also)))
theorem DayL.keep {K : PySem.W.Frag} {H H' : Hp} {x : V} {ns : List Nat} (h : DayL K H x ns) (k : ∀ b o, (∀ C d f, o ≠ .ins C d f) → H b = some o → H' b = some o) : DayL K H' x ns := by
  rcases h with h | ⟨a, rfl, h | h, r⟩
  · exact .inl h
  · exact .inr ⟨a, rfl, .inl (k _ _ (fun _ _ _ z => by cases z) h), r⟩
  · exact .inr ⟨a, rfl, .inr (k _ _ (fun _ _ _ z => by cases z) h), r⟩
theorem RingAt.mono {K : PySem.W.Frag} {H H' : Hp} {a : Addr} {l : List Nat} (h : RingAt K H a l) (e : Ex H H') : RingAt K H' a l := let ⟨dx, h⟩ := h; ⟨dx, e _ _ h⟩
theorem DaysAt.mono {K : PySem.W.Frag} {H H' : Hp} {a : Addr} {D : DaysD} (h : DaysAt K H a D) (e : Ex H H') : DaysAt K H' a D := let ⟨dx, r, po, pa, h1, h2, h3, h4⟩ := h; ⟨dx, r, po, pa, e _ _ h1, h2.mono e, e _ _ h3, e _ _ h4⟩
/-- what is handed in for a ring -/
def RingG (K : PySem.W.Frag) (H : Hp) (x : V) (r : Option (List Nat)) : Prop := (∃ a l, x = .ref a ∧ RingAt K H a l ∧ sgn l = true ∧ r = some l) ∨ (∃ t, TyX K H x t ∧ PySem.W.kitOne K t (.ref (RingC K)) = some false ∧ r = none)
/-- what Days are made of, and what becomes of it -/
def DaysArg (K : PySem.W.Frag) (H : Hp) (xr xs xt xo xa : V) (R : Option DaysD) : Prop := ∃ rb, RingG K H xr rb ∧ (rb = none ∧ R = none ∨ ∃ bits, rb = some bits ∧ Cl K H xs ∧ (isM xs = false ∧ R = none ∨ ∃ s : Nat, xs = .int s ∧ ∃ rt, TillG K H xt s rt ∧ (rt = none ∧ R = none ∨ ∃ t, rt = some t ∧
  ∃ ro, DayG K H xo ro ∧ (ro = none ∧ R = none ∨ ∃ o, ro = some o ∧ ∃ ra, DayG K H xa ra ∧ (ra = none ∧ R = none ∨ ∃ al, ra = some al ∧ R = if (al.any fun d => decide (d ∈ o)) = true then none else some ⟨bits, s, t, o, al⟩)))))
theorem TillG.mono {K : PySem.W.Frag} {H H' : Hp} {x : V} {s : Nat} {r : Option (Option Nat)} (h : TillG K H x s r) (e : Ex H H') : TillG K H' x s r := by
  rcases h with h | ⟨h1, h2, h3⟩
  · exact .inl h
  · exact .inr ⟨h1, h2.mono e, h3⟩
theorem TillG.val {K : PySem.W.Frag} {H : Hp} {x : V} {s : Nat} {t : Option Nat} (h : TillG K H x s (some t)) : x = optV t ∧ ∀ u, t = some u → s ≤ u := by
  rcases h with ⟨h1, h2⟩ | ⟨h1, h2, ⟨n, h3, h4⟩ | ⟨h3, h4⟩⟩
  · cases h2
    exact ⟨h1, fun u hu => by cases hu⟩
  · by_cases c : s ≤ n
    · rw [if_pos c] at h4
      cases h4
      exact ⟨h3, fun u hu => by cases hu; exact c⟩
    · rw [if_neg c] at h4
      cases h4
  · cases h4
theorem DayG.ok {K : PySem.W.Frag} {H : Hp} {x : V} {o : List Nat} (h : DayG K H x (some o)) : o.length ≤ 8 ∧ o.Nodup := by
  rcases h with ⟨_, h2⟩ | ⟨a, xs, h1, h2, h3, h4, h5⟩ | ⟨_, _, h4⟩
  · cases h2
    exact ⟨by decide, List.nodup_nil⟩
  · unfold dayList at h5
    split at h5
    · rename_i c
      cases h5
      obtain ⟨c1, c2⟩ := Bool.and_eq_true_iff.mp c
      obtain ⟨c3, c4⟩ := Bool.and_eq_true_iff.mp c1
      exact ⟨by rw [List.length_map]; exact of_decide_eq_true c3, of_decide_eq_true c2⟩
    · cases h5
  · cases h4
theorem DaysArg.ok {K : PySem.W.Frag} {H : Hp} {xr xs xt xo xa : V} {D : DaysD} (h : DaysArg K H xr xs xt xo xa (some D)) : D.ok := by
  obtain ⟨rb, h1, h⟩ := h
  rcases h with ⟨_, h⟩ | ⟨bits, rfl, _, h⟩
  · cases h
  rcases h with ⟨_, h⟩ | ⟨s, _, rt, h2, h⟩
  · cases h
  rcases h with ⟨_, h⟩ | ⟨t, rfl, ro, h3, h⟩
  · cases h
  rcases h with ⟨_, h⟩ | ⟨o, rfl, ra, h4, h⟩
  · cases h
  rcases h with ⟨_, h⟩ | ⟨al, rfl, h⟩
  · cases h
  split at h
  · cases h
  · rename_i c
    cases h
    have hs : sgn bits = true := by
      rcases h1 with ⟨a, l, _, _, h5, h6⟩ | ⟨_, _, _, h6⟩
      · cases h6
        exact h5
      · cases h6
    refine ⟨hs, h2.val.2, h3.ok.1, h4.ok.1, h3.ok.2, h4.ok.2, fun n hn ho => c ?_⟩
    exact List.any_eq_true.mpr ⟨n, hn, decide_eq_true ho⟩
def sp_Days_init (K : PySem.W.Frag) : Sp := fun vs H Q E => ∃ a dx xr xs xt xo xa R H0, vs = [.ref a, xr, xs, xt, xo, xa] ∧ H a = some (.ins (DaysC K) dx []) ∧ H0 a = none ∧ Ex H0 H ∧ DaysArg K H0 xr xs xt xo xa R ∧ (∀ D, R = some D → ∀ H', Oth a H H' → DaysAt K H' a D → Q .non H') ∧ (R = none → ∀ H', Oth a H H' → E (.ref (He.ga K "NoDays")) none H')
theorem fb_Days_init {P : Program} {w : World} {K : PySem.W.Frag} {mg : Str → Option Value} {base : Heap} (T : Env K mg) : ∃ fd, FunD K "__init__" "Days.__init__" (defArgs s_Days_init) (defBody s_Days_init) (defScope s_Days_init) [.int (0), .non, .non, .non] [] (He.ma K (He.ga K "Days") "__init__") fd ∧ Fb P w K mg base 5 (He.ma K (He.ga K "Days") "__init__") fd ["self", "ring", "since", "till", "out", "also"] (sp_Days_init K) := by
  obtain ⟨fd, F⟩ := T.f_Days_init
  refine ⟨fd, F, fb_of F sc_Days_init (fun vs H Q E h => ?_) (fun cdv A outer s H vs Q E hr h => ?_)⟩
  · obtain ⟨a, dx, xr, xs, xt, xo, xa, R, H0, rfl, _⟩ := h
    rfl
  · obtain ⟨a, dx, xr, xs, xt, xo, xa, R, H0, rfl, ha, na0, X0, hA, q, qe⟩ := h
    refine ⟨_, (pss_cons (ps_if (pt_not (pt_val (pe_callB call_isi (by rfl) T.n_isinstance (by decide +kernel) (pa_cons (pv 1) (pa_cons (pe_glob (v := .ref _) (by rfl) T.g_Ring rfl) pa_nil)))))
      (pss_one (ps_raise rfl (takes_of rfl rfl rfl rfl) (pmk_own PySem.F.excBase_ValueError T.x_NoDays.x T.g_NoDays T.x_NoDays.kp (raises_own T.x_NoDays.sub T.x_NoDays.ty) rfl)))
      pss_nil)
      (pss_cons (ps_expr (c_call (ok_want_day T) (hr.mono (by decide)) T.g_want_day T.k_want_day (takes_of rfl rfl rfl rfl) (pa_cons (pv 2) pa_nil)))
      (pss_cons (ps_expr (c_call (ok_want_till T) (hr.mono (by decide)) T.g_want_till T.k_want_till (takes_of rfl rfl rfl rfl) (pa_cons (pv 2) (pa_cons (pv 3) pa_nil))))
      (pss_cons (ps_fld (pv 0) (pv 1) rfl)
      (pss_cons (ps_fld (pv 0) (pv 2) rfl)
      (pss_cons (ps_fld (pv 0) (pv 3) rfl)
      (pss_cons (ps_fld (pv 0) (c_call (ok_told_days T) (hr.mono (by decide)) T.g_told_days T.k_told_days (takes_of rfl rfl rfl rfl) (pa_cons (pv 4) pa_nil)) rfl)
      (pss_cons (ps_fld (pv 0) (c_call (ok_told_days T) (hr.mono (by decide)) T.g_told_days T.k_told_days (takes_of rfl rfl rfl rfl) (pa_cons (pv 5) pa_nil)) rfl)
      (pss_one (ps_if (pt_val (pe_callB (cr_any rfl) (by rfl) T.n_any (by decide +kernel) (pa_cons (pe_lc (own := [("day", 6)]) (by rfl) sc_Days_init.nd (pi_tup (pe_fld (pv 0) (by rfl))) (blkOk_by (own := [("day", 6)]) (N := ["self", "ring", "since", "till", "out", "also", "day"]) (sc := defScope s_Days_init) (by decide +kernel)) (fun _ _ _ _ _ => (pg_name (i := 6) sc_Days_init.nd rfl (Or.inl rfl))) (fun _ _ _ _ _ => pts_nil) (fun _ _ _ _ _ => (pe_cmpR (op_in_seqK K) (pv 6) (pe_fldK K (pv 0) (by rfl)) (by rfl)))) pa_nil)))
      (pss_one (ps_raise rfl (takes_of rfl rfl rfl rfl) (pmk_own PySem.F.excBase_ValueError T.x_NoDays.x T.g_NoDays T.x_NoDays.kp (raises_own T.x_NoDays.sub T.x_NoDays.ty) rfl)))
      pss_nil)))))))))), ?_⟩
    obtain ⟨rb, h1, hA⟩ := hA
    have ex0 : ∀ {H' : Hp}, Oth a H H' → Ex H0 H' := fun {H'} o => Oth.ex X0 na0 o
    rcases h1 with ⟨r, l, rfl, ⟨dr, hr3⟩, hs, rfl⟩ | ⟨t, ty, kt, rfl⟩
    · rcases hA with ⟨z, _⟩ | ⟨bits, e, cs, hA⟩
      · cases z
      cases e
      refine ⟨_, rfl, .ref r, .ref (RingC K), _, _, true, rfl, .own _, ty_ins T.i_Ring T.c_Ring (X0 _ _ hr3), T.kit_Ring_Ring, true, rfl, iteF ?_⟩
      rcases hA with ⟨hm, rfl⟩ | ⟨s, rfl, rt, h2, hA⟩
      · exact ⟨_, rfl, xs, rfl, cs.mono X0, fun e => absurd (hm.symm.trans e) (by decide), fun _ => qe rfl H (Oth.refl _ _)⟩
      refine ⟨_, rfl, _, rfl, cl_int _, fun _ => ?_, isM_no⟩
      rcases hA with ⟨rfl, rfl⟩ | ⟨t, rfl, ro, h3, hA⟩
      · exact ⟨_, rfl, _, rfl, s, xt, none, rfl, h2.mono X0, fun z => absurd rfl z, fun _ => qe rfl H (Oth.refl _ _)⟩
      refine ⟨_, rfl, _, rfl, s, xt, some t, rfl, h2.mono X0, fun _ => ?_, fun z => nomatch z⟩
      obtain ⟨rfl, ht⟩ := h2.val
      refine ⟨_, rfl, _, rfl, a, _, dx, [], rfl, ha, T.c_Days, T.a_Days_ring, by decide, ?_⟩
      refine ⟨_, rfl, _, rfl, a, _, dx, _, rfl, upd_same, T.c_Days, T.a_Days_since, Nat.le_of_ble_eq_true rfl, ?_⟩
      refine ⟨_, rfl, _, rfl, a, _, dx, _, rfl, upd_same, T.c_Days, T.a_Days_till, Nat.le_of_ble_eq_true rfl, ?_⟩
      rw [upd_upd, upd_upd]
      have O3 := fun o => (Oth.refl a H).upd (o := o)
      rcases hA with ⟨rfl, rfl⟩ | ⟨o, rfl, ra, h4, hA⟩
      · exact ⟨_, rfl, xo, none, rfl, h3.mono (ex0 (O3 _)), (fun ns z => nomatch z), fun _ H4 X4 => qe rfl H4 ((O3 _).trans (ex_oth X4))⟩
      refine ⟨_, rfl, xo, some o, rfl, h3.mono (ex0 (O3 _)), fun ns ens po H4 X4 npo hpo => ?_, fun z => nomatch z⟩
      cases ens
      have O4 := (O3 _).trans (ex_oth X4)
      have ha4 := X4 _ _ upd_same
      refine ⟨_, rfl, a, _, dx, _, rfl, ha4, T.c_Days, T.a_Days_out, Nat.le_of_ble_eq_true rfl, ?_⟩
      have poa : po ≠ a := fun z => by
        rw [z, upd_same] at npo
        cases npo
      have O5 := fun o => O4.upd (o := o)
      rcases hA with ⟨rfl, rfl⟩ | ⟨al, rfl, eR⟩
      · exact ⟨_, rfl, xa, none, rfl, h4.mono (ex0 (O5 _)), (fun ns z => nomatch z), fun _ H6 X6 => qe rfl H6 ((O5 _).trans (ex_oth X6))⟩
      refine ⟨_, rfl, xa, some al, rfl, h4.mono (ex0 (O5 _)), fun ns ens pa H6 X6 npa hpa => ?_, fun z => nomatch z⟩
      cases ens
      have ha6 := X6 _ _ upd_same
      refine ⟨_, rfl, a, _, dx, _, rfl, ha6, T.c_Days, T.a_Days_also, Nat.le_of_ble_eq_true rfl, ?_⟩
      have paa : pa ≠ a := fun z => by
        rw [z, upd_same] at npa
        cases npa
      have O7 := fun o => ((O5 _).trans (ex_oth X6)).upd (o := o)
      have O7 := O7 (.ins (DaysC K) dx (dayF r po pa ⟨l, s, t, o, al⟩))
      have h7 : upd H6 a (.ins (DaysC K) dx (dayF r po pa ⟨l, s, t, o, al⟩)) a = some (.ins (DaysC K) dx (dayF r po pa ⟨l, s, t, o, al⟩)) := upd_same
      have hpo7 : upd H6 a (.ins (DaysC K) dx (dayF r po pa ⟨l, s, t, o, al⟩)) po = some (.tup (natV (srtN o))) := by
        rw [upd_ne poa]
        exact X6 _ _ (by rw [upd_ne poa]; exact hpo)
      have hpa7 : upd H6 a (.ins (DaysC K) dx (dayF r po pa ⟨l, s, t, o, al⟩)) pa = some (.tup (natV (srtN al))) := by
        rw [upd_ne paa]
        exact hpa
      have ra : r ≠ a := fun z => by
        rw [z, na0] at hr3
        cases hr3
      rw [show putF "also" (V.ref pa) (putF "out" (V.ref po) (putF "till" (optV t) (putF "since" (V.int (s : Nat)) (putF "ring" (V.ref r) [])))) = dayF r po pa ⟨l, s, t, o, al⟩ from rfl]
      generalize upd H6 a (.ins (DaysC K) dx (dayF r po pa ⟨l, s, t, o, al⟩)) = H7 at O7 h7 hpo7 hpa7 ⊢
      have ol := h4.ok.1
      have sl := srtN_len al
      refine ⟨_, rfl, a, _, dx, _, _, rfl, h7, T.c_Days, T.a_Days_also, rfl, pa, rfl, ⟨_, sq_tup hpa7⟩, fun A7 nA => lc_on (srtN al) (fun n : Nat => V.int n) L2.walk_tup (fun d => some (.bl (decide (d ∈ o)))) (fun H' => Ex H7 H') (fun H' z e => ex_mut e nA) (.refl _) (by omega) (fun H' e => sq_tup (e _ _ hpa7)) (fun i n H8 acc N hn X8 hD la k => ?_) fun H8 X8 d8 => ?_⟩
      · refine ⟨rfl, _, rfl, _, rfl, a, _, dx, _, _, rfl, X8 _ _ h7, T.c_Days, T.a_Days_out, rfl, po, _, rfl, .inr (sq_tup (X8 _ _ hpo7)), rfl, flat_nat _, acc, hD, la, ?_⟩
        rw [inV_nat, mem_srtN]
        exact k H8 X8 hD
      · have eb : (srtN al).filterMap (fun d => some (V.bl (decide (d ∈ o)))) = ((srtN al).map fun d => decide (d ∈ o)).map V.bl := by
          rw [List.filterMap_eq_map', List.map_map]
          rfl
        rw [eb] at d8
        refine ⟨A7, _, rfl, sq_lst d8, ?_⟩
        have ea : ((srtN al).map fun d => decide (d ∈ o)).any id = al.any fun d => decide (d ∈ o) := by
          rw [Bool.eq_iff_iff, List.any_eq_true, List.any_eq_true]
          constructor
          · rintro ⟨b, hb, e⟩
            obtain ⟨d, hd, rfl⟩ := List.mem_map.mp hb
            exact ⟨d, (srtN_mem d al).mp hd, e⟩
          · rintro ⟨d, hd, e⟩
            exact ⟨_, List.mem_map.mpr ⟨d, (srtN_mem d al).mpr hd, rfl⟩, e⟩
        rw [ea]
        have O8 := O7.trans (ex_oth X8)
        cases c : (al.any fun d => decide (d ∈ o)) with
        | true =>
          rw [c] at eR
          exact ⟨true, rfl, qe eR H8 O8⟩
        | false =>
          rw [c] at eR
          refine ⟨false, rfl, ?_⟩
          exact q _ eR H8 O8 ⟨dx, r, po, pa, X8 _ _ h7, ⟨dr, O8 _ _ ra (X0 _ _ hr3)⟩, X8 _ _ hpo7, X8 _ _ hpa7⟩
    · rcases hA with ⟨_, rfl⟩ | ⟨bits, e, _⟩
      · exact ⟨_, rfl, xr, .ref (RingC K), _, _, false, rfl, .own _, tyX_mono X0 ty, kt, false, rfl, qe rfl H (Oth.refl _ _)⟩
      · cases e
theorem days_new {K : PySem.W.Frag} {H : Hp} {x dx r : Addr} {xo xa : V} {D : DaysD} {Q : VK} {E : XK} (nx : H x = none) (nd : H dx = none) (ne : dx ≠ x) (hr : RingAt K H r D.bits) (hD : D.ok) (ho : DayL K H xo D.out) (ha : DayL K H xa D.also) (q : ∀ H', Ex H H' → DaysAt K H' x D → Q .non H') :
    sp_Days_init K [.ref x, .ref r, .int (D.since : Nat), optV D.till, xo, xa] (upd (upd H dx (.own x)) x (.ins (DaysC K) dx [])) Q E := by
  have X1 := ex_made (o1 := .own x) (o2 := .ins (DaysC K) dx []) nx nd ne
  obtain ⟨hs, ht, lo, la, no, na, hdj⟩ := id hD
  refine ⟨x, dx, _, _, _, xo, xa, some D, H, rfl, upd_same, nx, X1, ?_, fun D' e H' k d => ?_, fun z => nomatch z⟩
  · refine ⟨some D.bits, .inl ⟨r, D.bits, rfl, hr, hs, rfl⟩, .inr ⟨D.bits, rfl, cl_int _, .inr ⟨D.since, rfl, some D.till, ?_, .inr ⟨D.till, rfl, some D.out, ho.gen, .inr ⟨D.out, rfl, some D.also, ha.gen, .inr ⟨D.also, rfl, ?_⟩⟩⟩⟩⟩⟩
    · cases hT : D.till with
      | none => exact .inl ⟨rfl, rfl⟩
      | some u => exact .inr ⟨(fun z => nomatch z), cl_int _, .inl ⟨u, rfl, by rw [if_pos (ht u hT)]⟩⟩
    · have : (D.also.any fun d => decide (d ∈ D.out)) = false := by
        rw [List.any_eq_false]
        intro d hd
        simpa using hdj d hd
      rw [this]
      rfl
  · cases e
    exact q H' (fun b o e => k b o (ne_of_none e nx) (X1 _ _ e)) d

theorem ok_Days_init {P : Program} {w : World} {K : PySem.W.Frag} {mg : Str → Option Value} {base : Heap} (T : Env K mg) : Fc P w K mg base 5 (He.ma K (He.ga K "Days") "__init__") [] (fun vs H Q E => vs.length = 6 + ([] : List Str).length ∧ sp_Days_init K (pick [.inl 0, .inl 1, .inl 2, .inl 3, .inl 4, .inl 5] vs [.int (0), .non, .non, .non]) H Q E) := by
  obtain ⟨fd, D, F⟩ := fb_Days_init T
  exact Fb.shape D F 6 [] (fun us its => pick [.inl 0, .inl 1, .inl 2, .inl 3, .inl 4, .inl 5] us its) (by decide) (fun r1 r2 => pick_vals _ r1 r2) (fun T kV doc pm an cdv ct us ws its h1 h2 h3 => match us, ws, its, h1, h2, h3 with | [_, _, _, _, _, _], [], [_, _, _, _], _, _, _ => ⟨_, rfl, rfl⟩)
end
section
def dHas (D : DaysD) (d : Nat) : Bool := decide (d ∈ D.also) || (!(decide (d < D.since) || ((match D.till with | some t => decide (t < d) | none => false) || decide (d ∈ D.out))) && (D.bits.getD (d % D.bits.length) 0 == 49))
def sp_Days_has (K : PySem.W.Frag) : Sp := fun vs H Q E => ∃ a D x, vs = [.ref a, x] ∧ DaysAt K H a D ∧ D.ok ∧ Cl K H x ∧ (∀ d : Nat, x = .int d → Q (.bl (dHas D d)) H) ∧ (isM x = false → E (.ref (He.ga K "NoDays")) none H)
theorem fb_Days_has {P : Program} {w : World} {K : PySem.W.Frag} {mg : Str → Option Value} {base : Heap} (T : Env K mg) : ∃ fd, FunD K "has" "Days.has" (defArgs s_Days_has) (defBody s_Days_has) (defScope s_Days_has) [] [] (He.ma K (He.ga K "Days") "has") fd ∧ Fb P w K mg base 5 (He.ma K (He.ga K "Days") "has") fd ["self", "day"] (sp_Days_has K) := by
  obtain ⟨fd, F⟩ := T.f_Days_has
  refine ⟨fd, F, fb_of F sc_Days_has (fun vs H Q E h => ?_) (fun cdv A outer s H vs Q E hr h => ?_)⟩
  · obtain ⟨a, D, x, rfl, _⟩ := h
    rfl
  · obtain ⟨a, D, x, rfl, ha, hD, c, q, qe⟩ := h
    refine ⟨_, (pss_cons (ps_expr (c_call (ok_want_day T) (hr.mono (by decide)) T.g_want_day T.k_want_day (takes_of rfl rfl rfl rfl) (pa_cons (pv 1) pa_nil)))
      (pss_cons (ps_if (pt_cmpR op_in_seq (pv 1) (pe_fld (pv 0) (by rfl)) (by rfl))
      (pss_one (ps_ret pe_bl))
      pss_nil)
      (pss_cons (ps_if (PW.pt (pw_or (pt_cmpR op_lt (pv 1) (pe_fld (pv 0) (by rfl)) (nomark _)) (pw_or (PW.pt (pw_and (pt_cmpR op_notN (pe_fld (pv 0) (by rfl)) pe_non (nomark _)) (pw_and1 (pt_cmpR op_gt (pv 1) (pe_fld (pv 0) (by rfl)) (nomark _))))) (pw_or1 (pt_cmpR op_in_seq (pv 1) (pe_fld (pv 0) (by rfl)) (by rfl))))))
      (pss_one (ps_ret pe_bl))
      pss_nil)
      (pss_one (ps_ret (c_meth (pe_fld (pv 0) (by rfl)) T.c_Ring T.m_Ring_rings (ok_Ring_rings T) (hr.mono (by decide)) (takes_of rfl rfl rfl rfl) (pa_cons (pv 1) pa_nil))))))), ?_⟩
    obtain ⟨dx, r, po, pa, h1, ⟨dr, h2⟩, h3, h4⟩ := ha
    obtain ⟨hs, ht, _⟩ := hD
    refine ⟨_, rfl, x, rfl, c, fun e => ?_, qe⟩
    obtain ⟨i, rfl, i0⟩ := isM_w e
    obtain ⟨d, rfl⟩ := Int.eq_ofNat_of_zero_le i0
    have z := q d rfl
    unfold dHas at z
    have e3 := mem_srtN d D.also
    have e4 := mem_srtN d D.out
    refine ⟨_, rfl, _, rfl, a, _, dx, _, _, rfl, h1, T.c_Days, T.a_Days_also, rfl, pa, _, rfl, .inr (sq_tup h4), rfl, flat_nat _, _, rfl, ?_⟩
    rw [inV_nat, e3]
    by_cases c1 : d ∈ D.also
    · rw [decide_eq_true c1] at z ⊢
      exact z
    · rw [decide_eq_false c1] at z ⊢
      refine iteF ?_
      refine ⟨_, rfl, _, rfl, a, _, dx, _, _, rfl, h1, T.c_Days, T.a_Days_since, rfl, _, _, rfl, rfl, _, rfl, ?_⟩
      by_cases c2 : d < D.since
      · rw [decide_eq_true (show ((d : Nat) : Int) < ((D.since : Nat) : Int) by omega)]
        rw [decide_eq_true c2] at z
        exact z
      · rw [decide_eq_false (show ¬ ((d : Nat) : Int) < ((D.since : Nat) : Int) by omega)]
        rw [decide_eq_false c2] at z
        refine iteF ?_
        have fin : Q (.bl (false || (!(false || (false || decide (d ∈ D.out))) && (D.bits.getD (d % D.bits.length) 0 == 49)))) H → tTest (tOp (rIn K false) (tVar 1) (tFld K (tVar 0) "out")) (L2.start ["self", "day"] [.ref a, .int (d : Int)]) H fun b H1 => if b = true then Q (.bl false) H1 else
            tMt (He.ga K "Ring") "rings" (sp_Ring_rings K) (fun cls d x H => E cls d H) (tFld K (tVar 0) "ring") (tCons (tVar 1) tNil) (L2.start ["self", "day"] [.ref a, .int (d : Int)]) H1 Q := fun z => by
          refine ⟨_, rfl, _, rfl, a, _, dx, _, _, rfl, h1, T.c_Days, T.a_Days_out, rfl, po, _, rfl, .inr (sq_tup h3), rfl, flat_nat _, _, rfl, ?_⟩
          rw [inV_nat, e4]
          by_cases c3 : d ∈ D.out
          · rw [decide_eq_true c3] at z ⊢
            exact z
          · rw [decide_eq_false c3] at z ⊢
            refine iteF ?_
            refine ⟨_, rfl, a, _, dx, _, _, rfl, h1, T.c_Days, T.a_Days_ring, rfl, r, dr, _, rfl, h2, rfl, _, rfl, r, D.bits, _, rfl, ⟨dr, h2⟩, hs, cl_int _, fun d' ed => ?_, isM_no⟩
            have ed2 : d = d' := by injection ed with ed; omega
            subst ed2
            exact z
        cases hT : D.till with
        | none =>
          rw [hT] at z
          refine ⟨_, rfl, a, _, dx, _, _, rfl, h1, T.c_Days, T.a_Days_till, rfl, rfl, _, rfl, ?_⟩
          rw [show optV D.till = .non by rw [hT]; rfl]
          exact fin z
        | some t =>
          rw [hT] at z
          refine ⟨_, rfl, a, _, dx, _, _, rfl, h1, T.c_Days, T.a_Days_till, rfl, rfl, _, rfl, ?_⟩
          rw [show optV D.till = .int (t : Nat) by rw [hT]; rfl]
          refine iteT ?_
          refine ⟨_, rfl, _, rfl, a, _, dx, _, _, rfl, h1, T.c_Days, T.a_Days_till, rfl, _, _, rfl, (show optV D.till = .int (t : Nat) by rw [hT]; rfl), _, rfl, ?_⟩
          by_cases c4 : t < d
          · rw [decide_eq_true (show ((t : Nat) : Int) < ((d : Nat) : Int) by omega)]
            have z2 : Q (.bl (false || (!(false || (decide (t < d) || decide (d ∈ D.out))) && (D.bits.getD (d % D.bits.length) 0 == 49)))) H := z
            rw [decide_eq_true c4] at z2
            exact z2
          · rw [decide_eq_false (show ¬ ((t : Nat) : Int) < ((d : Nat) : Int) by omega)]
            have z2 : Q (.bl (false || (!(false || (decide (t < d) || decide (d ∈ D.out))) && (D.bits.getD (d % D.bits.length) 0 == 49)))) H := z
            rw [decide_eq_false c4] at z2
            exact fin z2

theorem ok_Days_has {P : Program} {w : World} {K : PySem.W.Frag} {mg : Str → Option Value} {base : Heap} (T : Env K mg) : Fc P w K mg base 5 (He.ma K (He.ga K "Days") "has") [] (sp_Days_has K) := by
  obtain ⟨fd, D, F⟩ := fb_Days_has T
  exact F.all (D.bindsN fun _ _ _ _ _ _ us hl => match us, hl with | [_, _], _ => rfl)
end
section
/-- the days at which stretches of D begin -/
def edgesOf (D : DaysD) : List Nat := D.since :: ((match D.till with | some t => [t + 1] | none => []) ++ (srtN D.out ++ srtN D.also).flatMap fun d => [d, d + 1])
def addN (ks : List Nat) (k : Nat) : List Nat := if k ∈ ks then ks else ks ++ [k]
theorem mem_addN {ks : List Nat} {k e : Nat} : e ∈ addN ks k ↔ e ∈ ks ∨ e = k := by
  unfold addN
  split
  · rename_i h
    constructor
    · exact .inl
    · rintro (h1 | rfl)
      · exact h1
      · exact h
  · simp
theorem nodup_addN {ks : List Nat} {k : Nat} (h : ks.Nodup) : (addN ks k).Nodup := by
  unfold addN
  split
  · exact h
  · rename_i hk
    exact List.nodup_append.mpr ⟨h, by simp, fun a ha b hb e => by simp at hb; subst hb; subst e; exact hk ha⟩
theorem len_addN (ks : List Nat) (k : Nat) : (addN ks k).length ≤ ks.length + 1 := by
  unfold addN
  split
  · omega
  · simp
/-- whole numbers as keys of a dict -/
def diN (ks : List Nat) : List (Key × V) := ks.map fun k : Nat => (Sum.inl (k : Int), V.bl true)
theorem diN_len (ks : List Nat) : (diN ks).length = ks.length := by
  unfold diN
  rw [List.length_map]
theorem put_di (ks : List Nat) (k : Nat) : putK (diN ks) (Sum.inl (k : Int)) (V.bl true) = diN (addN ks k) := by
  unfold putK addN
  have e : ((diN ks).any fun kv => decide (kv.1 = (Sum.inl (k : Int) : Key))) = decide (k ∈ ks) := by
    unfold diN
    rw [List.any_map]
    rw [Bool.eq_iff_iff, List.any_eq_true, decide_eq_true_eq]
    constructor
    · rintro ⟨x, hx, e⟩
      have e1 := of_decide_eq_true (show decide ((Sum.inl (x : Int) : Key) = Sum.inl (k : Int)) = true from e)
      injection e1 with e2
      have : x = k := by omega
      exact this ▸ hx
    · intro h
      exact ⟨k, h, decide_eq_true rfl⟩
  rw [e]
  by_cases h : k ∈ ks
  · rw [decide_eq_true h, if_pos rfl, if_pos h]
    unfold diN
    rw [List.map_map]
    apply List.map_congr_left
    intro x hx
    show (if (Sum.inl (x : Int) : Key) = Sum.inl (k : Int) then ((Sum.inl (x : Int) : Key), V.bl true) else (Sum.inl (x : Int), V.bl true)) = _
    split <;> rfl
  · rw [decide_eq_false h, if_neg (by decide), if_neg h]
    unfold diN
    rw [List.map_append]
    rfl
/-- such keys, put one behind another -/
def fk (L : List Nat) : List Nat := L.foldl addN [0]
theorem fk_snoc (L : List Nat) (k : Nat) : fk (L ++ [k]) = addN (fk L) k := by
  unfold fk
  rw [List.foldl_append]
  rfl
theorem put_fk (L : List Nat) (k : Nat) : putK (diN (fk L)) (Sum.inl (k : Int)) (V.bl true) = diN (fk (L ++ [k])) := by
  rw [put_di, fk_snoc]
theorem fold_addN (L : List Nat) : ∀ ks : List Nat, ks.Nodup → (L.foldl addN ks).Nodup ∧ (L.foldl addN ks).length ≤ ks.length + L.length ∧ ∀ e, e ∈ L.foldl addN ks ↔ e ∈ ks ∨ e ∈ L := by
  induction L with
  | nil => exact fun ks h => ⟨h, Nat.le_refl _, fun e => by simp⟩
  | cons k L ih =>
    intro ks h
    obtain ⟨h1, h2, h3⟩ := ih (addN ks k) (nodup_addN h)
    refine ⟨h1, ?_, fun e => ?_⟩
    · have := len_addN ks k
      simp only [List.foldl_cons, List.length_cons]
      omega
    · rw [List.foldl_cons, h3, mem_addN, List.mem_cons]
      constructor
      · rintro ((h | h) | h)
        · exact .inl h
        · exact .inr (.inl h)
        · exact .inr (.inr h)
      · rintro (h | h | h)
        · exact .inl (.inl h)
        · exact .inl (.inr h)
        · exact .inr h
theorem fk_tells (L : List Nat) : (fk L).Nodup ∧ (fk L).length ≤ 1 + L.length ∧ ∀ e, e ∈ fk L ↔ e = 0 ∨ e ∈ L := by
  obtain ⟨h1, h2, h3⟩ := fold_addN L [0] (by simp)
  exact ⟨h1, h2, fun e => by rw [show e ∈ fk L ↔ e ∈ [0] ∨ e ∈ L from h3 e]; simp⟩
theorem edges_len {D : DaysD} (h : D.ok) : (edgesOf D).length ≤ 34 := by
  obtain ⟨_, _, lo, la, _⟩ := h
  have h1 := srtN_len D.out
  have h2 := srtN_len D.also
  have h3 : ∀ l : List Nat, (l.flatMap fun d => [d, d + 1]).length = 2 * l.length := fun l => by
    induction l with
    | nil => rfl
    | cons d r ih => simp only [List.flatMap_cons, List.length_append, ih, List.length_cons, List.length_nil]; omega
  unfold edgesOf
  rw [List.length_cons, List.length_append, h3, List.length_append]
  cases D.till <;> simp <;> omega
def sp_edges_of (K : PySem.W.Frag) : Sp := fun vs H Q _ => ∃ (l : Addr) (as : List Addr) (Ds : List DaysD), vs = [.ref l] ∧ H l = some (.lst (as.map V.ref)) ∧ as.length = Ds.length ∧ Ds.length ≤ 2 ∧ (∀ (i : Nat) (a : Addr) (D : DaysD), as[i]? = some a → Ds[i]? = some D → DaysAt K H a D ∧ D.ok) ∧
  ∀ (p : Addr) (es : List Nat) H', Ex H H' → H p = none → H' p = some (.lst (natV es)) → es.Pairwise (· < ·) → es.length ≤ 80 → (∀ e, e ∈ es ↔ e = 0 ∨ ∃ D ∈ Ds, e ∈ edgesOf D) → Q (.ref p) H'
theorem fb_edges_of {P : Program} {w : World} {K : PySem.W.Frag} {mg : Str → Option Value} {base : Heap} (T : Env K mg) : ∃ fd, FunD K "edges_of" "edges_of" (defArgs s_edges_of) (defBody s_edges_of) (defScope s_edges_of) [] [] (He.ga K "edges_of") fd ∧ Fb P w K mg base 1 (He.ga K "edges_of") fd ["some"] (sp_edges_of K) := by
  obtain ⟨fd, F⟩ := T.f_edges_of
  refine ⟨fd, F, fb_of F sc_edges_of (fun vs H Q E h => ?_) (fun cdv A outer s H vs Q E hr h => ?_)⟩
  · obtain ⟨l, as, Ds, rfl, _⟩ := h
    rfl
  · obtain ⟨l, as, Ds, rfl, hl, ll, l2, hA, q⟩ := h
    refine ⟨_, (pss_cons (ps_set (i := 1) sc_edges_of.nd rfl (Or.inl rfl) (pe_disp (pps_cons pe_int pe_bl pps_nil) rfl rfl (by simp) (by decide)))
      (pss_cons (ps_for (passes_of rfl) rfl (pi_list (pv 0)) (pg_name (i := 2) sc_edges_of.nd rfl (Or.inl rfl))
      (pss_cons (ps_dput (hu_of hr.rm) (pv 1) (pe_fld (pv 2) (by rfl)) pe_bl rfl)
      (Evl.pss_cut (ps_if (pt_cmpR op_notN (pe_fld (pv 2) (by rfl)) pe_non (nomark _))
      (pss_one (ps_dput (hu_of hr.rm) (pv 1) (pe_op op_add (pe_fld (pv 2) (by rfl)) pe_int) pe_bl rfl))
      pss_nil)
      (pss_one (ps_for (passes_of rfl) rfl (pi_tup (pe_op op_catA (pe_fld (pv 2) (by rfl)) (pe_fld (pv 2) (by rfl)))) (pg_name (i := 3) sc_edges_of.nd rfl (Or.inl rfl))
      (pss_cons (ps_dput (hu_of hr.rm) (pv 1) (pv 3) pe_bl rfl)
      (pss_one (ps_dput (hu_of hr.rm) (pv 1) (pe_op op_add (pv 3) pe_int) pe_bl rfl))))))))
      (pss_one (ps_ret (pe_callB (call_sortedDA rfl) (by rfl) T.n_sorted (by decide +kernel) (pa_cons (pv 1) pa_nil)))))), ?_⟩
    refine fun f nf => ⟨upd_same, [(Sum.inl 0, .bl true)], rfl, by show 1 ≤ 15; decide, ?_⟩
    rw [upd_upd]
    have fk_len : ∀ L : List Nat, L.length ≤ 100 → (diN (fk L)).length < sizeLine := fun L h => by
      have := (fk_tells L).2.1
      exact small_len (by rw [diN_len]; omega)
    have dl : ∀ i, i ≤ 2 → ((Ds.take i).flatMap edgesOf).length ≤ 34 * i := fun i hi => by
      have hz : ∀ l : List DaysD, (∀ D ∈ l, D.ok) → (l.flatMap edgesOf).length ≤ 34 * l.length := fun l hl => by
        induction l with
        | nil => exact Nat.le_refl _
        | cons D r ih =>
          have h1 := edges_len (hl D List.mem_cons_self)
          have h2 := ih fun E hE => hl E (List.mem_cons_of_mem _ hE)
          simp only [List.flatMap_cons, List.length_append, List.length_cons]
          omega
      refine Nat.le_trans (hz _ fun D hD => ?_) (Nat.mul_le_mul_left _ (List.length_take_le _ _))
      obtain ⟨j, hj⟩ := List.getElem?_of_mem (List.mem_of_mem_take hD)
      have hj2 : j < Ds.length := (List.getElem?_eq_some_iff.mp hj).1
      exact (hA j as[j] D (List.getElem?_eq_getElem (by omega)) hj).2
    have X1 : Ex H (upd H f (.dK (diN (fk [])))) := ex_new nf
    refine ⟨_, rfl, l, rfl, ⟨_, sq_lst (X1 _ _ hl)⟩, for_it L2.walk_list (fun i σ H' => Ex H H' ∧ ∃ v2 v3, σ = [some (.ref l), some (.ref f), v2, v3] ∧ H' f = some (.dK (diN (fk ((Ds.take i).flatMap edgesOf))))) ⟨X1, _, _, rfl, upd_same⟩ (fun i σ H' _ e => sq_lst (e.1 _ _ hl)) ?_ ?_⟩
    · rintro i x σ H2 H3 hi ⟨X2, v2, v3, rfl, hf⟩ ⟨rfl, hx⟩
      have hi2 : i < as.length := by simpa using hi
      have ha : as[i]? = some as[i] := List.getElem?_eq_getElem hi2
      have hD : Ds[i]? = some Ds[i] := List.getElem?_eq_getElem (by omega)
      obtain ⟨dA, dok⟩ := hA i _ _ ha hD
      have ex : x = .ref as[i] := by
        rw [List.getElem?_map, ha] at hx
        exact (Option.some.inj hx).symm
      subst ex
      generalize hDD : Ds[i] = D at hD dA dok
      generalize as[i] = a at ha dA
      obtain ⟨dx, r, po, pa, h1, ⟨dr, h2⟩, h3, h4⟩ := dA.mono X2
      have hlen := dl i (by omega)
      have hel := edges_len dok
      have fe : ∀ {o o' : HO}, H3 f = some o → o ≠ o' → ∀ b, H3 b = some o' → b ≠ f := fun e1 ne b e2 z => by
        rw [z, e1] at e2
        exact ne (Option.some.inj e2)
      generalize hL : (Ds.take i).flatMap edgesOf = L at hf hlen
      have nef : ∀ b o, (∀ kv, o ≠ .dK kv) → H3 b = some o → b ≠ f := fun b o ho e z => by
        rw [z, hf] at e
        exact ho _ (Option.some.inj e).symm
      have na : a ≠ f := nef _ _ (fun _ z => by cases z) h1
      have npo : po ≠ f := nef _ _ (fun _ z => by cases z) h3
      have npa : pa ≠ f := nef _ _ (fun _ z => by cases z) h4
      refine ⟨_, rfl, _, rfl, a, _, dx, _, _, rfl, h1, T.c_Days, T.a_Days_since, rfl, f, _, rfl, DPut.k (k := Sum.inl (D.since : Int)) hf (fk_len _ (by omega)), ?_⟩
      rw [put_fk]
      refine ⟨fun σ' H' => Ex H H' ∧ (∀ b o, b ≠ f → H3 b = some o → H' b = some o) ∧ σ' = [some (.ref l), some (.ref f), some (.ref a), v3] ∧ H' f = some (.dK (diN (fk (L ++ [D.since] ++ (match D.till with | some t => [t + 1] | none => []))))), ?_, ?_⟩
      · have h1b : upd H3 f (.dK (diN (fk (L ++ [D.since])))) a = some (.ins (DaysC K) dx (dayF r po pa D)) := by
          rw [upd_ne na]
          exact h1
        refine ⟨_, rfl, a, _, dx, _, _, rfl, h1b, T.c_Days, T.a_Days_till, rfl, rfl, _, rfl, ?_⟩
        cases hT : D.till with
        | none =>
          refine ⟨ex_mut X2 nf, fun b o nb e => by rw [upd_ne nb]; exact e, rfl, ?_⟩
          rw [upd_same, List.append_nil]
        | some t =>
          refine iteT ?_
          refine ⟨_, rfl, _, rfl, a, _, dx, _, _, rfl, h1b, T.c_Days, T.a_Days_till, rfl, (t : Int), 1, (by rw [hT]; rfl), rfl, f, _, rfl, DPut.k (k := Sum.inl ((t + 1 : Nat) : Int)) upd_same (fk_len _ (by simp; omega)), ?_⟩
          rw [put_fk, upd_upd]
          exact ⟨ex_mut X2 nf, fun b o nb e => by rw [upd_ne nb]; exact e, rfl, upd_same⟩
      · rintro σ' H4 ⟨X4, K4, rfl, hf4⟩
        have lt : (L ++ [D.since] ++ (match D.till with | some t => [t + 1] | none => [])).length ≤ L.length + 2 := by
          cases D.till <;> simp
        generalize hM : L ++ [D.since] ++ (match D.till with | some t => [t + 1] | none => []) = M at hf4 lt
        have h1c := K4 _ _ na h1
        have l16 : (srtN D.out ++ srtN D.also).length ≤ 16 := by
          have e1 := srtN_len D.out
          have e2 := srtN_len D.also
          obtain ⟨_, _, lo, la, _⟩ := dok
          rw [List.length_append]
          omega
        refine ⟨_, rfl, a, _, dx, _, _, rfl, h1c, T.c_Days, T.a_Days_out, rfl, _, rfl, a, _, dx, _, _, rfl, h1c, T.c_Days, T.a_Days_also, rfl, catA_of (sq_tup (K4 _ _ npo h3)) (sq_tup (K4 _ _ npa h4)) ?_ fun p H5 X5 hp => ?_⟩
        · rw [natV_len, natV_len]
          rw [List.length_append] at l16
          exact Nat.le_of_lt (small_len (by omega))
        have ec : natV (srtN D.out) ++ natV (srtN D.also) = natV (srtN D.out ++ srtN D.also) := by
          unfold natV
          rw [List.map_append]
        rw [ec] at hp
        have hpf : ∀ {H' : Hp}, (∀ b o, b ≠ f → H5 b = some o → H' b = some o) → SqT K H' p (natV (srtN D.out ++ srtN D.also)) := fun {H'} k => by
          rcases hp with (hp | ⟨o, hp⟩) | hp
          · exact .inl (.inl (k _ _ (fun z => by rw [z, X5 _ _ hf4] at hp; cases hp) hp))
          · exact .inl (.inr ⟨o, k _ _ (fun z => by rw [z, X5 _ _ hf4] at hp; cases hp) hp⟩)
          · exact .inr hp
        generalize hE : srtN D.out ++ srtN D.also = E at hp l16 hpf
        refine ⟨p, rfl, ⟨_, hp⟩, for_it L2.walk_tup (fun j σ H' => Ex H H' ∧ (∀ b o, b ≠ f → H5 b = some o → H' b = some o) ∧ ∃ v3, σ = [some (.ref l), some (.ref f), some (.ref a), v3] ∧ H' f = some (.dK (diN (fk (M ++ (E.take j).flatMap fun d => [d, d + 1]))))) ⟨X4.trans X5, fun _ _ _ e => e, _, rfl, by rw [List.take_zero, List.flatMap_nil, List.append_nil]; exact X5 _ _ hf4⟩ (fun j σ H' _ e => hpf e.2.1) ?_ ?_⟩
        · rintro j x σ H6 H7 hj ⟨X6, K6, v3, rfl, hf6⟩ ⟨rfl, hx⟩
          rw [natV_len] at hj
          obtain ⟨d, hd, ed⟩ : ∃ d, E[j]? = some d ∧ x = .int (d : Nat) := by
            unfold natV at hx
            rw [List.getElem?_map, List.getElem?_eq_getElem hj] at hx
            exact ⟨E[j], List.getElem?_eq_getElem hj, (Option.some.inj hx).symm⟩
          subst ed
          have l6 : (M ++ (E.take j).flatMap fun d => [d, d + 1]).length ≤ L.length + 2 + 32 := by
            have e1 : ∀ l : List Nat, (l.flatMap fun d => [d, d + 1]).length = 2 * l.length := fun l => by
              induction l with
              | nil => rfl
              | cons d r ih => simp only [List.flatMap_cons, List.length_append, ih, List.length_cons, List.length_nil]; omega
            rw [List.length_append, e1]
            have := List.length_take_le j E
            have := List.length_take_le' j E
            omega
          refine ⟨_, rfl, _, rfl, f, _, rfl, DPut.k (k := Sum.inl (d : Int)) hf6 (fk_len _ (by omega)), ?_⟩
          rw [put_fk]
          refine ⟨_, rfl, _, rfl, (d : Int), 1, rfl, rfl, f, _, rfl, DPut.k (k := Sum.inl ((d + 1 : Nat) : Int)) upd_same (fk_len _ (by rw [List.length_append]; show _ + 1 ≤ 100; omega)), ?_⟩
          rw [put_fk, upd_upd]
          refine ⟨ex_mut X6 nf, fun b o nb e => by rw [upd_ne nb]; exact K6 b o nb e, _, rfl, ?_⟩
          rw [upd_same, take_snoc hd, List.flatMap_append]
          simp [List.append_assoc]
        · rintro σ H6 ⟨X6, K6, v3, rfl, hf6⟩
          refine ⟨X6, _, _, rfl, ?_⟩
          rw [hf6, take_snoc hD, List.flatMap_append, hL, natV_len, List.take_length]
          congr 3
          rw [← hM, ← hE]
          simp [edgesOf, List.append_assoc]
    · rintro σ H2 ⟨X2, v2, v3, rfl, hf⟩
      rw [List.length_map, ll, List.take_length] at hf
      refine ⟨_, rfl, f, _, (fk (Ds.flatMap edgesOf)).map (fun n : Nat => (n : Int)), rfl, .inl hf, ?_, fun p np => ?_⟩
      · unfold diN
        rw [List.map_map, List.map_map]
        rfl
      rw [natV_srt]
      obtain ⟨t1, t2, t3⟩ := fk_tells (Ds.flatMap edgesOf)
      have hd2 := dl Ds.length l2
      rw [List.take_length] at hd2
      refine q p _ _ (X2.trans (ex_new np)) (ex_fresh X2 np) upd_same (srtN_lt t1) (by rw [srtN_len]; omega) fun e => ?_
      rw [srtN_mem, t3, List.mem_flatMap]

theorem ok_edges_of {P : Program} {w : World} {K : PySem.W.Frag} {mg : Str → Option Value} {base : Heap} (T : Env K mg) : Fc P w K mg base 1 (He.ga K "edges_of") [] (sp_edges_of K) := by
  obtain ⟨fd, D, F⟩ := fb_edges_of T
  exact F.all (D.bindsN fun _ _ _ _ _ _ us hl => match us, hl with | [_], _ => rfl)
end
section
/-- where each of some begins, and the next one -/
def nexts (l : List Nat) : List (Option Nat) := (l.drop 1).map some ++ [none]
def cutE (e t : Option Nat) : Option Nat := match e with
  | none => t
  | some x => match t with
    | none => some x
    | some y => if x < y then some x else some y
def keepS (h : Nat) (t : Option Nat) : Bool := match t with
  | none => true
  | some y => decide (h < y)
def pkS (e : Option Nat) (p : Nat × Option Nat) : List (Nat × Option Nat) := if keepS p.1 (cutE e p.2) = true then [(p.1, cutE e p.2)] else []
def startsOf (es : List Nat) (b : Nat) : List Nat := b :: es.filter fun x => decide (b < x)
/-- the stretches -/
def strch (es : List Nat) (b : Nat) (e : Option Nat) : List (Nat × Option Nat) := ((startsOf es b).zip (nexts (startsOf es b))).flatMap (pkS e)
theorem pk_len (e : Option Nat) (l : List (Nat × Option Nat)) : (l.flatMap (pkS e)).length ≤ l.length := by
  induction l with
  | nil => exact Nat.le_refl _
  | cons p r ih =>
    have : (pkS e p).length ≤ 1 := by
      unfold pkS
      split <;> simp
    simp only [List.flatMap_cons, List.length_append, List.length_cons]
    omega
theorem nexts_len {b : Nat} {l : List Nat} : (nexts (b :: l)).length = (b :: l).length := by
  unfold nexts
  simp
/-- the first days of a stretch -/
def fdays (p : Nat × Option Nat) (m : Nat) : List Nat := (List.range ((match p.2 with | none => p.1 + m | some e => min e (p.1 + m)) - p.1)).map fun i => p.1 + i
/-- the stretches, by recursion -/
def strR (e : Option Nat) : Nat → List Nat → List (Nat × Option Nat)
  | b, [] => pkS e (b, none)
  | b, x :: r => pkS e (b, some x) ++ strR e x r
theorem strR_of (e : Option Nat) : ∀ (r : List Nat) (b : Nat), ((b :: r).zip (nexts (b :: r))).flatMap (pkS e) = strR e b r
  | [], b => by
    show [(b, none)].flatMap (pkS e) = pkS e (b, none)
    simp
  | x :: r, b => by
    have ih := strR_of e r x
    have e1 : nexts (b :: x :: r) = some x :: nexts (x :: r) := rfl
    rw [e1, List.zip_cons_cons, List.flatMap_cons, ih]
    rfl
theorem strch_R (es : List Nat) (b : Nat) (e : Option Nat) : strch es b e = strR e b (es.filter fun x => decide (b < x)) := strR_of e _ b
theorem starts_sorted {es : List Nat} (h : es.Pairwise (· < ·)) (b : Nat) : (startsOf es b).Pairwise (· < ·) := by
  unfold startsOf
  refine List.pairwise_cons.mpr ⟨fun x hx => ?_, h.filter _⟩
  exact of_decide_eq_true (List.mem_filter.mp hx).2
theorem starts_all {es : List Nat} {b : Nat} : ∀ x ∈ es, b < x → x ∈ es.filter fun x => decide (b < x) := fun x hx hb => List.mem_filter.mpr ⟨hx, decide_eq_true hb⟩
/-- f comes round by m where no edge stands between -/
def PerOn (f : Nat → Bool) (m : Nat) (es : List Nat) : Prop := ∀ d, (∀ x ∈ es, d < x → ¬ x ≤ d + m) → f (d + m) = f d
def firstS (f : Nat → Bool) (m : Nat) (ps : List (Nat × Option Nat)) : Option Nat := ps.findSome? fun p => (fdays p m).find? f
/-- the first one from b on -/
def isFst (f : Nat → Bool) (b : Nat) (r : Option Nat) : Prop := match r with
  | some n => b ≤ n ∧ f n = true ∧ ∀ k, b ≤ k → k < n → f k = false
  | none => ∀ k, b ≤ k → f k = false
theorem mem_fdays {p : Nat × Option Nat} {m k : Nat} : k ∈ fdays p m ↔ p.1 ≤ k ∧ k < p.1 + m ∧ ∀ e, p.2 = some e → k < e := by
  obtain ⟨h, t⟩ := p
  unfold fdays
  rw [List.mem_map]
  cases t with
  | none =>
    constructor
    · rintro ⟨i, hi, rfl⟩
      have := List.mem_range.mp hi
      refine ⟨by simp, ?_, fun e he => by cases he⟩
      simp only at this ⊢
      omega
    · rintro ⟨h1, h2, _⟩
      simp only at h1 h2
      exact ⟨k - h, List.mem_range.mpr (by simp only; omega), by simp only; omega⟩
  | some e =>
    constructor
    · rintro ⟨i, hi, rfl⟩
      have := List.mem_range.mp hi
      simp only at this ⊢
      exact ⟨by omega, by omega, fun e' he => by cases he; omega⟩
    · rintro ⟨h1, h2, h3⟩
      have := h3 e rfl
      simp only at h1 h2
      exact ⟨k - h, List.mem_range.mpr (by simp only; omega), by simp only; omega⟩
theorem find_fdays {f : Nat → Bool} {p : Nat × Option Nat} {m n : Nat} (h : (fdays p m).find? f = some n) : n ∈ fdays p m ∧ f n = true ∧ ∀ k, p.1 ≤ k → k < n → f k = false := by
  refine ⟨List.mem_of_find?_eq_some h, List.find?_some h, fun k h1 h2 => ?_⟩
  unfold fdays at h
  rw [List.find?_map] at h
  obtain ⟨i, hi, e⟩ := Option.map_eq_some_iff.mp h
  have z := (List.find?_range_eq_some.mp hi).2.2 (k - p.1) (by omega)
  have e2 : p.1 + (k - p.1) = k := by omega
  simp only [Function.comp, e2, Bool.not_eq_true'] at z
  exact z
/-- where the first days of a stretch have none, none has -/
theorem stretch_none {f : Nat → Bool} {m : Nat} {es : List Nat} (hm : 0 < m) (per : PerOn f m es) {h : Nat} {t : Option Nat} (ne : ∀ x ∈ es, h < x → ∃ y, t = some y ∧ y ≤ x) (hf : ∀ k ∈ fdays (h, t) m, f k = false) : ∀ k, h ≤ k → (∀ y, t = some y → k < y) → f k = false := by
  intro k
  induction k using Nat.strongRecOn with
  | _ k ih =>
    intro h1 h2
    by_cases c : k < h + m
    · exact hf k (mem_fdays.mpr ⟨h1, c, h2⟩)
    · have e := per (k - m) fun x hx a b => by
        obtain ⟨y, hy, hyx⟩ := ne x hx (by omega)
        have := h2 y hy
        omega
      rw [show k - m + m = k by omega] at e
      rw [e]
      exact ih (k - m) (by omega) (by omega) fun y hy => by have := h2 y hy; omega
theorem firstS_ok {f : Nat → Bool} {m : Nat} {es : List Nat} (hm : 0 < m) (per : PerOn f m es) : ∀ (r : List Nat) (b : Nat), (b :: r).Pairwise (· < ·) → (∀ x ∈ es, b < x → x ∈ r) → isFst f b (firstS f m (strR none b r))
  | [], b, _, hes => by
    show isFst f b (([(b, none)] : List (Nat × Option Nat)).findSome? fun p => (fdays p m).find? f)
    rw [List.findSome?_cons]
    cases e : (fdays (b, none) m).find? f with
    | some n =>
      obtain ⟨h1, h2, h3⟩ := find_fdays e
      exact ⟨(mem_fdays.mp h1).1, h2, h3⟩
    | none =>
      intro k hk
      exact stretch_none hm per (fun x hx hb => absurd (hes x hx hb) (by simp)) (fun k hk => by simpa using List.find?_eq_none.mp e k hk) k hk (fun y hy => by cases hy)
  | x :: r, b, srtd, hes => by
    obtain ⟨s1, s2⟩ := List.pairwise_cons.mp srtd
    have bx : b < x := s1 x List.mem_cons_self
    have ih := firstS_ok hm per r x s2 fun y hy hb => by
      rcases List.mem_cons.mp (hes y hy (by omega)) with h | h
      · omega
      · exact h
    have e0 : strR none b (x :: r) = (b, some x) :: strR none x r := by
      show pkS none (b, some x) ++ strR none x r = _
      have : pkS none (b, some x) = [(b, some x)] := if_pos (decide_eq_true bx)
      rw [this]
      rfl
    rw [e0]
    unfold firstS at ih ⊢
    rw [List.findSome?_cons]
    cases e : (fdays (b, some x) m).find? f with
    | some n =>
      obtain ⟨h1, h2, h3⟩ := find_fdays e
      exact ⟨(mem_fdays.mp h1).1, h2, h3⟩
    | none =>
      have no : ∀ k, b ≤ k → k < x → f k = false := fun k h1 h2 => stretch_none hm per (fun y hy hb => by
        refine ⟨x, rfl, ?_⟩
        rcases List.mem_cons.mp (hes y hy hb) with h | h
        · omega
        · exact Nat.le_of_lt ((List.pairwise_cons.mp s2).1 y h)) (fun k hk => by simpa using List.find?_eq_none.mp e k hk) k h1 (fun y hy => by cases hy; exact h2)
      dsimp only
      cases e2 : ((strR none x r).findSome? fun p => (fdays p m).find? f) with
      | some n =>
        rw [e2] at ih
        obtain ⟨h1, h2, h3⟩ := ih
        refine ⟨by omega, h2, fun k a c => ?_⟩
        by_cases q : k < x
        · exact no k a q
        · exact h3 k (by omega) c
      | none =>
        rw [e2] at ih
        intro k hk
        by_cases q : k < x
        · exact no k hk q
        · exact ih k (by omega)
/-! counts -/
def cnt (f : Nat → Bool) (b n : Nat) : Nat := (List.range' b n).countP f
theorem cnt_add (f : Nat → Bool) (b n k : Nat) : cnt f b (n + k) = cnt f b n + cnt f (b + n) k := by
  unfold cnt
  rw [← List.range'_append_1, List.countP_append]
theorem cnt_fm (f : Nat → Bool) (b n : Nat) (g : Nat → V) : ((List.range n).filterMap fun i => if f (b + i) = true then some (g i) else none).length = cnt f b n := by
  unfold cnt
  rw [List.range'_eq_map_range, List.countP_map, List.countP_eq_length_filter]
  generalize List.range n = l
  induction l with
  | nil => rfl
  | cons i l ih =>
    rw [List.filterMap_cons]
    by_cases c : f (b + i) = true
    · simp only [c, if_true, List.length_cons, ih, List.filter_cons, Function.comp]
    · simp only [c, if_false, ih, List.filter_cons, Function.comp, Bool.false_eq_true]
/-- f comes round by m from h on, k days long -/
theorem cnt_shift {f : Nat → Bool} {m h : Nat} : ∀ k, (∀ i, i < k → f (h + i + m) = f (h + i)) → cnt f (h + m) k = cnt f h k := by
  intro k hf
  unfold cnt
  rw [List.range'_eq_map_range, List.range'_eq_map_range, List.countP_map, List.countP_map]
  refine List.countP_congr fun i hi => ?_
  have := hf i (List.mem_range.mp hi)
  simp only [Function.comp]
  rw [show h + m + i = h + i + m by omega, this]
theorem cnt_rounds {f : Nat → Bool} {m h : Nat} : ∀ q r, (∀ i, i + m < q * m + r → f (h + i + m) = f (h + i)) → cnt f h (q * m + r) = q * cnt f h m + cnt f h r
  | 0, r, _ => by simp
  | q + 1, r, hf => by
    have e : (q + 1) * m + r = m + (q * m + r) := by rw [Nat.add_mul]; omega
    rw [e, cnt_add, cnt_shift _ fun i hi => hf i (by rw [e]; omega), cnt_rounds q r fun i hi => hf i (by rw [e]; omega), Nat.add_mul]
    omega
theorem cnt_stretch {f : Nat → Bool} {m : Nat} {es : List Nat} (per : PerOn f m es) {h n : Nat} (ne : ∀ x ∈ es, h < x → h + n ≤ x) : cnt f h n = n / m * cnt f h m + cnt f h (n % m) := by
  have e : n = n / m * m + n % m := by
    have := Nat.div_add_mod n m
    rw [Nat.mul_comm] at this
    omega
  have := cnt_rounds (f := f) (m := m) (h := h) (n / m) (n % m) fun i hi => per (h + i) fun x hx a b => by
    have := ne x hx (by omega)
    omega
  rw [← e] at this
  exact this
/-- how many in the stretches up to e -/
theorem sum_strR (f : Nat → Bool) (e : Nat) : ∀ (r : List Nat) (b : Nat), (b :: r).Pairwise (· < ·) → ((strR (some e) b r).map fun p => cnt f p.1 (p.2.getD 0 - p.1)).sum = cnt f b (e - b)
  | [], b, _ => by
    show ((pkS (some e) (b, none)).map _).sum = _
    unfold pkS
    have ec : cutE (some e) none = some e := rfl
    simp only [ec]
    by_cases c : b < e
    · rw [if_pos (show keepS b (some e) = true from decide_eq_true c)]
      simp
    · rw [if_neg (by show ¬ decide (b < e) = true; simpa using c), show e - b = 0 by omega]
      rfl
  | x :: r, b, srtd => by
    obtain ⟨s1, s2⟩ := List.pairwise_cons.mp srtd
    have bx : b < x := s1 x List.mem_cons_self
    have ih := sum_strR f e r x s2
    show ((pkS (some e) (b, some x) ++ strR (some e) x r).map _).sum = _
    rw [List.map_append, List.sum_append, ih]
    unfold pkS
    by_cases c : e < x
    · have ec : cutE (some e) (some x) = some e := if_pos c
      simp only [ec]
      rw [show e - x = 0 by omega]
      by_cases c2 : b < e
      · rw [if_pos (show keepS b (some e) = true from decide_eq_true c2)]
        simp [cnt]
      · rw [if_neg (by show ¬ decide (b < e) = true; simpa using c2), show e - b = 0 by omega]
        rfl
    · have ec : cutE (some e) (some x) = some x := if_neg c
      simp only [ec]
      rw [if_pos (show keepS b (some x) = true from decide_eq_true bx)]
      rw [show e - b = (x - b) + (e - x) by omega, cnt_add, show b + (x - b) = x by omega]
      simp
/-- a stretch has no edge within -/
theorem strR_in {e : Nat} {es : List Nat} : ∀ (r : List Nat) (b : Nat), (b :: r).Pairwise (· < ·) → (∀ x ∈ es, b < x → x ∈ r) → ∀ p ∈ strR (some e) b r, b ≤ p.1 ∧ ∃ t, p.2 = some t ∧ p.1 < t ∧ t ≤ e ∧ ∀ x ∈ es, p.1 < x → t ≤ x
  | [], b, _, hes, p, hp => by
    have hp : p ∈ pkS (some e) (b, none) := hp
    unfold pkS at hp
    have ec : cutE (some e) none = some e := rfl
    simp only [ec] at hp
    split at hp
    · rename_i c
      have c := of_decide_eq_true (show decide (b < e) = true from c)
      obtain rfl := List.mem_singleton.mp hp
      exact ⟨Nat.le_refl _, e, rfl, c, Nat.le_refl _, fun x hx hb => absurd (hes x hx hb) (by simp)⟩
    · cases hp
  | x :: r, b, srtd, hes, p, hp => by
    obtain ⟨s1, s2⟩ := List.pairwise_cons.mp srtd
    have bx : b < x := s1 x List.mem_cons_self
    have hp : p ∈ pkS (some e) (b, some x) ++ strR (some e) x r := hp
    rcases List.mem_append.mp hp with hp | hp
    · unfold pkS at hp
      by_cases c : e < x
      · have ec : cutE (some e) (some x) = some e := if_pos c
        simp only [ec] at hp
        split at hp
        · rename_i c2
          have c2 := of_decide_eq_true (show decide (b < e) = true from c2)
          obtain rfl := List.mem_singleton.mp hp
          refine ⟨Nat.le_refl _, e, rfl, c2, Nat.le_refl _, fun y hy hb => ?_⟩
          rcases List.mem_cons.mp (hes y hy hb) with h | h
          · omega
          · have := (List.pairwise_cons.mp s2).1 y h
            omega
        · cases hp
      · have ec : cutE (some e) (some x) = some x := if_neg c
        simp only [ec] at hp
        split at hp
        · obtain rfl := List.mem_singleton.mp hp
          refine ⟨Nat.le_refl _, x, rfl, bx, by omega, fun y hy hb => ?_⟩
          rcases List.mem_cons.mp (hes y hy hb) with h | h
          · omega
          · have := (List.pairwise_cons.mp s2).1 y h
            omega
        · cases hp
    · obtain ⟨h1, h2⟩ := strR_in r x s2 (fun y hy hb => by
        rcases List.mem_cons.mp (hes y hy (by omega)) with h | h
        · omega
        · exact h) p hp
      exact ⟨by omega, h2⟩

end
section
def sp_common_round (K : PySem.W.Frag) : Sp := fun vs H Q _ => ∃ a b : Nat, vs = [.int a, .int b] ∧ 1 ≤ a ∧ 1 ≤ b ∧ a ≤ 7 ∧ b ≤ 7 ∧ ∀ m : Nat, m % a = 0 → m % b = 0 → 1 ≤ m → m ≤ 49 → Q (.int m) H
theorem fb_common_round {P : Program} {w : World} {K : PySem.W.Frag} {mg : Str → Option Value} {base : Heap} (T : Env K mg) : ∃ fd, FunD K "common_round" "common_round" (defArgs s_common_round) (defBody s_common_round) (defScope s_common_round) [] [] (He.ga K "common_round") fd ∧ Fb P w K mg base 1 (He.ga K "common_round") fd ["one", "other"] (sp_common_round K) := by
  obtain ⟨fd, F⟩ := T.f_common_round
  refine ⟨fd, F, fb_of F sc_common_round (fun vs H Q E h => ?_) (fun cdv A outer s H vs Q E hr h => ?_)⟩
  · obtain ⟨a, b, rfl, _⟩ := h
    rfl
  · obtain ⟨a, b, rfl, a1, b1, a7, b7, q⟩ := h
    refine ⟨_, (pss_cons (ps_set (i := 2) sc_common_round.nd rfl (Or.inl rfl) (pv 0))
      (pss_cons (ps_while (passes_of rfl) (pt_cmpR op_gt (pe_op op_mod (pv 2) (pv 1)) pe_int (nomark _))
      (pss_one (ps_set (i := 2) sc_common_round.nd rfl (Or.inl rfl) (pe_op op_add (pv 2) (pv 0)))))
      (pss_one (ps_ret (pv 2))))), ?_⟩
    refine ⟨_, rfl, fun m σ H' => H' = H ∧ ∃ k, σ = [some (.int a), some (.int b), some (.int ((a * k : Nat) : Int))] ∧ 1 ≤ k ∧ k ≤ b ∧ m = b - k, ⟨b - 1, rfl, 1, by rw [Nat.mul_one]; rfl, Nat.le_refl _, b1, rfl⟩, ?_⟩
    rintro m σ H1 ⟨rfl, k, rfl, k1, kb, rfl⟩
    refine ⟨_, rfl, _, rfl, _, _, rfl, rfl, by omega, _, _, rfl, rfl, _, rfl, ?_⟩
    have em : ((a * k : Nat) : Int) % ((b : Nat) : Int) = ((a * k % b : Nat) : Int) := by omega
    by_cases c : a * k % b = 0
    · rw [em, c, decide_eq_false (by decide)]
      refine iteF ?_
      have h49 : a * k ≤ 49 := Nat.mul_le_mul a7 (Nat.le_trans kb b7)
      exact ⟨_, rfl, q (a * k) (Nat.mul_mod_right a k) c (Nat.mul_pos a1 k1) h49⟩
    · rw [em, decide_eq_true (by omega)]
      have kb' : k < b := by
        rcases Nat.lt_or_ge k b with h | h
        · exact h
        · have : k = b := by omega
          subst this
          exact absurd (Nat.mul_mod_left a k) c
      refine ⟨fun σ' H' => H' = H1 ∧ σ' = [some (.int a), some (.int b), some (.int ((a * (k + 1) : Nat) : Int))], ?_, ?_⟩
      · rintro σ' H' ⟨rfl, rfl⟩
        exact ⟨b - (k + 1), by omega, rfl, k + 1, rfl, by omega, by omega, rfl⟩
      · refine ⟨_, rfl, _, rfl, _, _, rfl, rfl, rfl, ?_⟩
        show [some (V.int a), some (V.int b), some (V.int (((a * k : Nat) : Int) + ((a : Nat) : Int)))] = _
        rw [show ((a * k : Nat) : Int) + ((a : Nat) : Int) = ((a * (k + 1) : Nat) : Int) by rw [Nat.mul_add, Nat.mul_one]; omega]

theorem ok_common_round {P : Program} {w : World} {K : PySem.W.Frag} {mg : Str → Option Value} {base : Heap} (T : Env K mg) : Fc P w K mg base 1 (He.ga K "common_round") [] (sp_common_round K) := by
  obtain ⟨fd, D, F⟩ := fb_common_round T
  exact F.all (D.bindsN fun _ _ _ _ _ _ us hl => match us, hl with | [_, _], _ => rfl)
end
section
/-- at p a list of tuples of two -/
def PairsAt (H : Hp) (p : Addr) (ps : List (Nat × Option Nat)) : Prop := ∃ ts : List Addr, H p = some (.lst (ts.map V.ref)) ∧ ts.length = ps.length ∧ ∀ (i : Nat) (t : Addr) (q : Nat × Option Nat), ts[i]? = some t → ps[i]? = some q → H t = some (.tup [.int (q.1 : Nat), optV q.2])
theorem PairsAt.mono {H H' : Hp} {p : Addr} {ps : List (Nat × Option Nat)} (h : PairsAt H p ps) (e : Ex H H') : PairsAt H' p ps := let ⟨ts, h1, h2, h3⟩ := h; ⟨ts, e _ _ h1, h2, fun i t q a b => e _ _ (h3 i t q a b)⟩
theorem PairsAt.snoc {H : Hp} {p t : Addr} {ps : List (Nat × Option Nat)} {q : Nat × Option Nat} {ts : List Addr} (h1 : H p = some (.lst (ts.map V.ref))) (h2 : ts.length = ps.length) (h3 : ∀ (i : Nat) (t : Addr) (q : Nat × Option Nat), ts[i]? = some t → ps[i]? = some q → H t = some (.tup [.int (q.1 : Nat), optV q.2]))
    (ht : H t = some (.tup [.int (q.1 : Nat), optV q.2])) : PairsAt (upd H p (.lst (ts.map V.ref ++ [.ref t]))) p (ps ++ [q]) := by
  refine ⟨ts ++ [t], by rw [upd_same, List.map_append]; rfl, by simp [h2], fun i u r hu hr => ?_⟩
  have key : H u = some (.tup [.int (r.1 : Nat), optV r.2]) := by
    by_cases hi : i < ts.length
    · rw [List.getElem?_append_left hi] at hu
      rw [List.getElem?_append_left (by omega)] at hr
      exact h3 i u r hu hr
    · have hl := (List.getElem?_eq_some_iff.mp hu).1
      simp at hl
      have e1 : i = ts.length := by omega
      rw [List.getElem?_append_right (by omega), e1, Nat.sub_self] at hu
      rw [List.getElem?_append_right (by omega), e1, h2, Nat.sub_self] at hr
      obtain rfl := Option.some.inj hu
      obtain rfl := Option.some.inj hr
      exact ht
  rw [upd_ne (fun z => by rw [z, h1] at key; cases key)]
  exact key
def sp_stretches (K : PySem.W.Frag) : Sp := fun vs H Q _ => ∃ (l : Addr) (es : List Nat) (b : Nat) (e : Option Nat), vs = [.ref l, .int b, optV e] ∧ H l = some (.lst (natV es)) ∧ es.length ≤ 5000 ∧ ∀ (p : Addr) H', Ex H H' → H p = none → PairsAt H' p (strch es b e) → Q (.ref p) H'
theorem fb_stretches {P : Program} {w : World} {K : PySem.W.Frag} {mg : Str → Option Value} {base : Heap} (T : Env K mg) : ∃ fd, FunD K "stretches" "stretches" (defArgs s_stretches) (defBody s_stretches) (defScope s_stretches) [] [] (He.ga K "stretches") fd ∧ Fb P w K mg base 1 (He.ga K "stretches") fd ["edges", "begin", "end"] (sp_stretches K) := by
  obtain ⟨fd, F⟩ := T.f_stretches
  refine ⟨fd, F, fb_of F sc_stretches (fun vs H Q E h => ?_) (fun cdv A outer s H vs Q E hr h => ?_)⟩
  · obtain ⟨l, es, b, e, rfl, _⟩ := h
    rfl
  · obtain ⟨l, es, b, e, rfl, hl, ll, q⟩ := h
    refine ⟨_, (pss_cons (ps_set (i := 3) sc_stretches.nd rfl (Or.inl rfl) (pe_op op_cat (pe_lst (pa_cons (pv 1) pa_nil)) (pe_lc (own := [("edge", 7)]) (by rfl) sc_stretches.nd (pi_list (pv 0)) (blkOk_by (own := [("edge", 7)]) (N := ["edges", "begin", "end", "starts", "found", "here", "there", "edge"]) (sc := defScope s_stretches) (by decide +kernel)) (fun _ _ _ _ _ => (pg_name (i := 7) sc_stretches.nd rfl (Or.inl rfl))) (fun _ _ _ _ _ => (pts_one (pt_cmpR op_gt (pv 7) (pv 1) (nomark _)))) (fun _ _ _ _ _ => (pv 7)))))
      (pss_cons (ps_set (i := 4) sc_stretches.nd rfl (Or.inl rfl) (pe_lst pa_nil))
      (pss_cons (ps_for (passes_of rfl) rfl (RZ.pi_zipA (by rfl) T.n_zip (pa_cons (pv 3) (pa_cons (pe_op op_cat (pe_slice sl_list (pv 3) (po_some pe_int) po_none) (pe_lst (pa_cons pe_non pa_nil))) pa_nil))) (pg_tup (by rfl) (pgs_cons (pg_name (i := 5) sc_stretches.nd rfl (Or.inl rfl)) (pgs_cons (pg_name (i := 6) sc_stretches.nd rfl (Or.inl rfl)) pgs_nil)))
      (Evl.pss_cut (ps_if (PW.pt (pw_and (pt_cmpR op_notN (pv 2) pe_non (nomark _)) (pw_and1 (PW.pt (pw_or (pt_cmpR op_isN (pv 6) pe_non (nomark _)) (pw_or1 (pt_cmpR op_gt (pv 6) (pv 2) (nomark _))))))))
      (pss_one (ps_set (i := 6) sc_stretches.nd rfl (Or.inl rfl) (pv 2)))
      pss_nil)
      (pss_one (ps_if (PW.pt (pw_or (pt_cmpR op_isN (pv 6) pe_non (nomark _)) (pw_or1 (pt_cmpR op_lt (pv 5) (pv 6) (nomark _)))))
      (pss_one (ps_expr (pe_bm PySem.F.plainAttrs_list PySem.F.slot_list_append PySem.F.type_list_append mt_append (pv 4) (pa_cons (pe_tup (pa_cons (pv 5) (pa_cons (pv 6) pa_nil))) pa_nil))))
      pss_nil))))
      (pss_one (ps_ret (pv 4)))))), ?_⟩
    refine ⟨_, rfl, by show 1 ≤ sizeLine; decide, fun b1 n1 => ?_⟩
    have X1 := ex_new (o := .lst [.int (b : Nat)]) n1
    refine ⟨_, rfl, l, rfl, ⟨_, sq_lst (X1 _ _ hl)⟩, fun A nA => lc_on es (fun n : Nat => V.int n) L2.walk_list (fun x => if b < x then some (.int (x : Nat)) else none) (fun H' => Ex (upd H b1 (.lst [.int (b : Nat)])) H') (fun H' z e => ex_mut e nA) (.refl _) (by omega) (fun H' e => sq_lst (e _ _ (X1 _ _ hl))) (fun i x H2 acc N hx X2 hD la k => ?_) fun H2 X2 d2 => ?_⟩
    · refine ⟨rfl, _, rfl, _, rfl, _, _, rfl, rfl, _, rfl, ?_⟩
      have kk := k H2 X2 hD
      by_cases c : b < x
      · rw [decide_eq_true (show ((b : Nat) : Int) < ((x : Nat) : Int) by omega)]
        simp only [c, if_true] at kk
        exact ⟨_, rfl, acc, hD, la, kk⟩
      · rw [decide_eq_false (show ¬ ((b : Nat) : Int) < ((x : Nat) : Int) by omega)]
        simp only [c, if_false] at kk
        exact kk
    have ef : es.filterMap (fun x => if b < x then some (V.int (x : Nat)) else none) = natV (es.filter fun x => decide (b < x)) := by
      unfold natV
      rw [← List.filterMap_eq_map, List.filterMap_filter]
      refine congrArg (fun f => es.filterMap f) (funext fun x => ?_)
      by_cases c : b < x <;> simp [c]
    rw [ef] at d2
    have l2 : (es.filter fun x => decide (b < x)).length ≤ 5000 := Nat.le_trans (List.length_filter_le _ _) ll
    refine ⟨b1, A, _, _, rfl, rfl, X2 _ _ upd_same, d2, sz_le (by rw [natV_len]; show 1 + _ ≤ _; omega), fun st nst => ?_⟩
    have es1 : [V.int (b : Nat)] ++ natV (es.filter fun x => decide (b < x)) = natV (startsOf es b) := rfl
    rw [es1]
    have X3 : Ex H (upd H2 st (.lst (natV (startsOf es b)))) := (X1.trans X2).trans (ex_new nst)
    have l3 : (startsOf es b).length ≤ 5001 := by
      show (b :: _).length ≤ _
      rw [List.length_cons]
      omega
    have hst : upd H2 st (.lst (natV (startsOf es b))) st = some (.lst (natV (startsOf es b))) := upd_same
    generalize upd H2 st (.lst (natV (startsOf es b))) = H3 at X3 hst ⊢
    refine ⟨by show 0 ≤ sizeLine; decide, fun f nf => ?_⟩
    have nf0 := ex_fresh X3 nf
    have X4 := X3.trans (ex_new (o := .lst []) nf)
    have hst4 := ex_new (o := .lst []) nf _ _ hst
    refine ⟨_, rfl, _, rfl, _, rfl, st, _, rfl, sq_lst hst4, fun sl nsl => ?_⟩
    rw [cut1]
    refine ⟨by show 1 ≤ sizeLine; decide, fun n1 nn1 => ?_⟩
    have Y5 := fun o => (ex_new nsl).trans (ex_new (o := o) nn1)
    refine ⟨sl, n1, _, _, rfl, rfl, ex_new nn1 _ _ upd_same, upd_same, sz_le (by rw [List.length_drop, natV_len]; show _ + 1 ≤ _; omega), fun nx nnx => ?_⟩
    have en : (natV (startsOf es b)).drop 1 ++ [V.non] = (nexts (startsOf es b)).map optV := by
      unfold natV nexts
      rw [List.map_append, List.map_map, List.map_drop]
      rfl
    rw [en]
    have hnl : (nexts (startsOf es b)).length = (startsOf es b).length := nexts_len
    have Y6 := (Y5 _).trans (ex_new (o := .lst ((nexts (startsOf es b)).map optV)) nnx)
    have hst5 := Y6 _ _ hst4
    have X6 := X4.trans Y6
    have hf6 := Y6 f _ upd_same
    have hnx : upd (upd (upd (upd H3 f (.lst [])) sl (.lst ((natV (startsOf es b)).drop 1))) n1 (.lst [V.non])) nx (.lst ((nexts (startsOf es b)).map optV)) nx = some (.lst ((nexts (startsOf es b)).map optV)) := upd_same
    have nnf : nx ≠ f := fun z => by
      rw [z, Y5 _ _ _ upd_same] at nnx
      cases nnx
    have nsf : st ≠ f := ne_of_none hst nf
    generalize upd (upd (upd (upd H3 f (.lst [])) sl (.lst ((natV (startsOf es b)).drop 1))) n1 (.lst [V.non])) nx (.lst ((nexts (startsOf es b)).map optV)) = H6 at hst5 X6 hf6 hnx ⊢
    generalize hS : startsOf es b = S at hst5 hnx hnl l3
    refine ⟨st, nx, _, _, rfl, .inl ⟨sq_lst hst5, sq_lst hnx, for_it (L2.walk_zip rfl) (fun i σ H' => Oth f H6 H' ∧ PairsAt H' f (((S.zip (nexts S)).take i).flatMap (pkS e)) ∧ ∃ v5 v6 v7, σ = [some (.ref l), some (.int b), some (optV e), some (.ref st), some (.ref f), v5, v6, v7]) ⟨Oth.refl _ _, ⟨[], hf6, rfl, fun i t q h => by cases h⟩, _, _, _, rfl⟩ (fun i σ H' _ p => ⟨sq_lst (p.1 _ _ nsf hst5), sq_lst (p.1 _ _ nnf hnx)⟩) ?_ ?_⟩⟩
    · rintro i x σ H7 H8 hi ⟨O7, P7, v5, v6, v7, rfl⟩ ⟨t, x1, x2, rfl, nt, rfl, g1, g2⟩
      have hi1 : i < S.length := by rw [natV_len, List.length_map, hnl] at hi; omega
      have hi2 : i < (nexts S).length := by omega
      have e1 : x1 = .int (S[i] : Nat) := by
        unfold natV at g1
        dsimp only at g1
        rw [List.getElem?_map, List.getElem?_eq_getElem hi1] at g1
        exact (Option.some.inj g1).symm
      have e2 : x2 = optV (nexts S)[i] := by
        dsimp only at g2
        rw [List.getElem?_map, List.getElem?_eq_getElem hi2] at g2
        exact (Option.some.inj g2).symm
      have ez : (S.zip (nexts S))[i]? = some (S[i], (nexts S)[i]) := by
        rw [List.getElem?_eq_getElem (by rw [List.length_zip]; omega), List.getElem_zip]
      subst e1 e2
      generalize S[i] = h at ez ⊢
      generalize (nexts S)[i] = n at ez ⊢
      refine ⟨t, _, rfl, sq_tup upd_same, rfl, _, _, rfl, _, _, rfl, rfl, ?_⟩
      have X8 := ex_new (o := .tup [.int (h : Nat), optV n]) nt
      have tf : t ≠ f := fun z => by
        obtain ⟨ts, h1, _⟩ := P7
        rw [z, h1] at nt
        cases nt
      refine ⟨fun σ' H' => H' = upd H7 t (.tup [.int (h : Nat), optV n]) ∧ ∃ v7, σ' = [some (.ref l), some (.int b), some (optV e), some (.ref st), some (.ref f), some (.int (h : Nat)), some (optV (cutE e n)), v7], ?_, ?_⟩
      · refine ⟨_, rfl, rfl, _, rfl, ?_⟩
        cases e with
        | none => exact ⟨rfl, _, rfl⟩
        | some x =>
          refine iteT ?_
          refine ⟨_, rfl, rfl, _, rfl, ?_⟩
          cases n with
          | none => exact ⟨_, rfl, rfl, v7, rfl⟩
          | some y =>
            refine iteF ?_
            refine ⟨_, rfl, _, rfl, _, _, rfl, rfl, _, rfl, ?_⟩
            by_cases c : x < y
            · rw [decide_eq_true (show ((x : Nat) : Int) < ((y : Nat) : Int) by omega)]
              refine ⟨_, rfl, rfl, v7, ?_⟩
              rw [show cutE (some x) (some y) = some x from if_pos c]
              rfl
            · rw [decide_eq_false (show ¬ ((x : Nat) : Int) < ((y : Nat) : Int) by omega)]
              refine ⟨rfl, v7, ?_⟩
              rw [show cutE (some x) (some y) = some y from if_neg c]
              rfl
      · rintro σ' H8 ⟨rfl, v7, rfl⟩
        have epk : ((S.zip (nexts S)).take (i + 1)).flatMap (pkS e) = ((S.zip (nexts S)).take i).flatMap (pkS e) ++ pkS e (h, n) := by
          rw [take_snoc ez, List.flatMap_append]
          simp
        have no : keepS h (cutE e n) = false → Oth f H6 (upd H7 t (.tup [.int (h : Nat), optV n])) ∧ PairsAt (upd H7 t (.tup [.int (h : Nat), optV n])) f (((S.zip (nexts S)).take (i + 1)).flatMap (pkS e)) ∧ ∃ v5 v6 v7', [some (.ref l), some (.int b), some (optV e), some (.ref st), some (.ref f), some (.int (h : Nat)), some (optV (cutE e n)), v7] = [some (.ref l), some (.int b), some (optV e), some (.ref st), some (.ref f), v5, v6, v7'] := fun c => by
          refine ⟨O7.trans (ex_oth X8), ?_, _, _, _, rfl⟩
          rw [epk]
          unfold pkS
          simp only [c, Bool.false_eq_true, if_false, List.append_nil]
          exact P7.mono X8
        have yes : keepS h (cutE e n) = true → tDrop (tBM K "list" rAppend (tVar 4) (tCons (tTup (tCons (tVar 5) (tCons (tVar 6) tNil))) tNil)) { nx := fun σ H' => Oth f H6 H' ∧ PairsAt H' f (((S.zip (nexts S)).take (i + 1)).flatMap (pkS e)) ∧ ∃ v5 v6 v7, σ = [some (.ref l), some (.int b), some (optV e), some (.ref st), some (.ref f), v5, v6, v7], rt := Q }
            [some (.ref l), some (.int b), some (optV e), some (.ref st), some (.ref f), some (.int (h : Nat)), some (optV (cutE e n)), v7] (upd H7 t (.tup [.int (h : Nat), optV n])) := fun c => by
          obtain ⟨ts, h1, h2, h3⟩ := P7.mono X8
          refine ⟨_, rfl, .inl ⟨rfl, _, sq_lst h1⟩, _, rfl, _, rfl, by show 2 ≤ sizeLine; decide, fun u nu => ?_⟩
          have X9 := ex_new (o := .tup [.int (h : Nat), optV (cutE e n)]) nu
          refine ⟨f, _, _, rfl, rfl, X9 _ _ h1, small_len ?_, (O7.trans (ex_oth (X8.trans X9))).upd, ?_, _, _, _, rfl⟩
          · rw [List.length_map, h2]
            have := pk_len e ((S.zip (nexts S)).take i)
            have := List.length_take_le i (S.zip (nexts S))
            omega
          · rw [epk]
            unfold pkS
            simp only [c, if_true]
            exact PairsAt.snoc (q := (h, cutE e n)) (X9 _ _ h1) h2 (fun i t q a b => X9 _ _ (h3 i t q a b)) upd_same
        cases hc : cutE e n with
        | none =>
          rw [hc] at yes
          exact ⟨_, rfl, rfl, _, rfl, yes rfl⟩
        | some y =>
          rw [hc] at yes no
          refine ⟨_, rfl, rfl, _, rfl, iteF ?_⟩
          refine ⟨_, rfl, _, rfl, _, _, rfl, rfl, _, rfl, ?_⟩
          by_cases c : h < y
          · rw [decide_eq_true (show ((h : Nat) : Int) < ((y : Nat) : Int) by omega)]
            exact yes (decide_eq_true c)
          · rw [decide_eq_false (show ¬ ((h : Nat) : Int) < ((y : Nat) : Int) by omega)]
            exact no (decide_eq_false c)
    · rintro σ H7 ⟨O7, P7, v5, v6, v7, rfl⟩
      rw [List.take_of_length_le (by rw [natV_len, List.length_map, List.length_zip]; omega)] at P7
      refine ⟨_, rfl, q f H7 (O7.ex X6 nf0) nf0 ?_⟩
      unfold strch
      rw [hS]
      exact P7

theorem ok_stretches {P : Program} {w : World} {K : PySem.W.Frag} {mg : Str → Option Value} {base : Heap} (T : Env K mg) : Fc P w K mg base 1 (He.ga K "stretches") [] (sp_stretches K) := by
  obtain ⟨fd, D, F⟩ := fb_stretches T
  exact F.all (D.bindsN fun _ _ _ _ _ _ us hl => match us, hl with | [_, _, _], _ => rfl)
end
section
theorem rgV_nat (a b : Nat) : rgV (a : Int) (b : Int) = natV ((List.range (b - a)).map fun i => a + i) := by
  unfold rgV natV
  rw [List.map_map, show ((b : Int) - (a : Int)).toNat = b - a by omega]
  rfl
def sp_first_days (K : PySem.W.Frag) : Sp := fun vs H Q _ => ∃ (b : Nat) (e : Option Nat) (m : Nat), vs = [.int b, optV e, .int m] ∧ m ≤ 100 ∧ ∀ p, H p = none → Q (.ref p) (upd H p (.lst (natV (fdays (b, e) m))))
theorem fb_first_days {P : Program} {w : World} {K : PySem.W.Frag} {mg : Str → Option Value} {base : Heap} (T : Env K mg) : ∃ fd, FunD K "first_days" "first_days" (defArgs s_first_days) (defBody s_first_days) (defScope s_first_days) [] [] (He.ga K "first_days") fd ∧ Fb P w K mg base 1 (He.ga K "first_days") fd ["begin", "end", "many"] (sp_first_days K) := by
  obtain ⟨fd, F⟩ := T.f_first_days
  refine ⟨fd, F, fb_of F sc_first_days (fun vs H Q E h => ?_) (fun cdv A outer s H vs Q E hr h => ?_)⟩
  · obtain ⟨b, e, m, rfl, _⟩ := h
    rfl
  · obtain ⟨b, e, m, rfl, hm, q⟩ := h
    refine ⟨_, (pss_cons (ps_if (pt_cmpR op_isN (pv 1) pe_non (nomark _))
      (pss_one (ps_ret (pe_listRB rfl (by rfl) T.n_list (prg_2 (by rfl) T.n_range (pv 0) (pe_op op_add (pv 0) (pv 2))))))
      pss_nil)
      (pss_one (ps_ret (pe_listRB rfl (by rfl) T.n_list (prg_2 (by rfl) T.n_range (pv 0) (pe_callB (call_min2 rfl) (by rfl) T.n_min (by decide +kernel) (pa_cons (pv 1) (pa_cons (pe_op op_add (pv 0) (pv 2)) pa_nil)))))))), ?_⟩
    cases e with
    | none =>
      refine ⟨_, rfl, rfl, _, rfl, iteT ?_⟩
      refine ⟨_, rfl, _, rfl, _, rfl, _, _, rfl, rfl, _, _, rfl, rfl, by omega, fun p np => ?_⟩
      rw [show ((b : Nat) : Int) + ((m : Nat) : Int) = ((b + m : Nat) : Int) by omega, rgV_nat]
      exact q p np
    | some e =>
      refine ⟨_, rfl, rfl, _, rfl, iteF ?_⟩
      refine ⟨_, rfl, _, rfl, _, rfl, _, rfl, _, _, rfl, rfl, _, _, rfl, _, _, rfl, rfl, ?_, fun p np => ?_⟩
      · split <;> omega
      have e1 : (if ((b : Nat) : Int) + ((m : Nat) : Int) < ((e : Nat) : Int) then ((b : Nat) : Int) + ((m : Nat) : Int) else ((e : Nat) : Int)) = ((min e (b + m) : Nat) : Int) := by
        split <;> omega
      rw [e1, rgV_nat]
      exact q p np

theorem ok_first_days {P : Program} {w : World} {K : PySem.W.Frag} {mg : Str → Option Value} {base : Heap} (T : Env K mg) : Fc P w K mg base 1 (He.ga K "first_days") [] (sp_first_days K) := by
  obtain ⟨fd, D, F⟩ := fb_first_days T
  exact F.all (D.bindsN fun _ _ _ _ _ _ us hl => match us, hl with | [_, _, _], _ => rfl)
end
section
theorem mem_edges {D : DaysD} {e : Nat} : e ∈ edgesOf D ↔ e = D.since ∨ (∃ t, D.till = some t ∧ e = t + 1) ∨ ∃ d, (d ∈ D.out ∨ d ∈ D.also) ∧ (e = d ∨ e = d + 1) := by
  unfold edgesOf
  rw [List.mem_cons, List.mem_append, List.mem_flatMap]
  refine or_congr Iff.rfl (or_congr ?_ ?_)
  · cases D.till with
    | none => simp
    | some t => simp
  · constructor
    · rintro ⟨d, hd, h⟩
      refine ⟨d, ?_, by simpa using h⟩
      rcases List.mem_append.mp hd with h | h
      · exact .inl ((srtN_mem _ _).mp h)
      · exact .inr ((srtN_mem _ _).mp h)
    · rintro ⟨d, hd, h⟩
      refine ⟨d, ?_, by simpa using h⟩
      rcases hd with h | h
      · exact List.mem_append_left _ ((srtN_mem _ _).mpr h)
      · exact List.mem_append_right _ ((srtN_mem _ _).mpr h)
/-- within a stretch the days come round -/
theorem dHas_per {D : DaysD} {m : Nat} {es : List Nat} (hm : m % D.bits.length = 0) (he : ∀ e ∈ edgesOf D, e ∈ es) : PerOn (dHas D) m es := by
  intro d hx
  by_cases m0 : m = 0
  · subst m0
    rfl
  have no : ∀ e, e ∈ edgesOf D → d < e → ¬ e ≤ d + m := fun e h => hx e (he e h)
  have o1 : ∀ {k : Nat}, k ∈ D.out ∨ k ∈ D.also → ¬ (k = d ∨ k = d + m) := fun {k} hk h => by
    rcases h with h | h
    · exact no (k + 1) (mem_edges.mpr (.inr (.inr ⟨k, hk, .inr rfl⟩))) (by omega) (by omega)
    · exact no k (mem_edges.mpr (.inr (.inr ⟨k, hk, .inl rfl⟩))) (by omega) (by omega)
  have a1 : decide (d ∈ D.also) = false := decide_eq_false fun h => o1 (.inr h) (.inl rfl)
  have a2 : decide (d + m ∈ D.also) = false := decide_eq_false fun h => o1 (.inr h) (.inr rfl)
  have b1 : decide (d ∈ D.out) = false := decide_eq_false fun h => o1 (.inl h) (.inl rfl)
  have b2 : decide (d + m ∈ D.out) = false := decide_eq_false fun h => o1 (.inl h) (.inr rfl)
  have c1 : decide (d + m < D.since) = decide (d < D.since) := decide_eq_decide.mpr ⟨fun h => by omega, fun h => by
    refine Decidable.by_contra fun h2 => ?_
    exact no D.since (mem_edges.mpr (.inl rfl)) h (by omega)⟩
  have c2 : (match D.till with | some t => decide (t < d + m) | none => false) = (match D.till with | some t => decide (t < d) | none => false) := by
    cases hT : D.till with
    | none => rfl
    | some t =>
      refine decide_eq_decide.mpr ⟨fun h => ?_, fun h => by omega⟩
      refine Decidable.by_contra fun h2 => ?_
      exact no (t + 1) (mem_edges.mpr (.inr (.inl ⟨t, hT, rfl⟩))) (by omega) (by omega)
  have c3 : (d + m) % D.bits.length = d % D.bits.length := by rw [Nat.add_mod, hm, Nat.add_zero, Nat.mod_mod]
  unfold dHas
  rw [a1, a2, b1, b2, c1, c2, c3]

end
section
theorem bits_len {l : List Nat} (h : sgn l = true) : 1 ≤ l.length ∧ l.length ≤ 7 := of_decide_eq_true (Bool.and_eq_true_iff.mp h).1
theorem find_take {f : Nat → Bool} {l : List Nat} {j n : Nat} (h1 : ∀ k ∈ l.take j, f k = false) (h2 : l[j]? = some n) (h3 : f n = true) : l.find? f = some n := by
  have e : l = l.take j ++ n :: l.drop (j + 1) := by
    obtain ⟨h4, h5⟩ := List.getElem?_eq_some_iff.mp h2
    rw [← h5, List.getElem_cons_drop, List.take_append_drop]
  rw [e, List.find?_append, List.find?_eq_none.mpr fun k hk => by simpa using h1 k hk, List.find?_cons]
  simp [h3]
theorem findS_take {f : Nat → Bool} {m : Nat} {ps : List (Nat × Option Nat)} {i : Nat} {p : Nat × Option Nat} {n : Nat} (h1 : firstS f m (ps.take i) = none) (h2 : ps[i]? = some p) (h3 : (fdays p m).find? f = some n) : firstS f m ps = some n := by
  have e : ps = ps.take i ++ p :: ps.drop (i + 1) := by
    obtain ⟨h4, h5⟩ := List.getElem?_eq_some_iff.mp h2
    rw [← h5, List.getElem_cons_drop, List.take_append_drop]
  unfold firstS at h1 ⊢
  rw [e, List.findSome?_append, h1, List.findSome?_cons, h3]
  rfl
theorem findS_none {f : Nat → Bool} {m : Nat} {ps : List (Nat × Option Nat)} {i : Nat} {p : Nat × Option Nat} (h1 : firstS f m (ps.take i) = none) (h2 : ps[i]? = some p) (h3 : (fdays p m).find? f = none) : firstS f m (ps.take (i + 1)) = none := by
  unfold firstS at h1 ⊢
  rw [take_snoc h2, List.findSome?_append, h1, List.findSome?_cons, h3]
  rfl
theorem fdays_len (p : Nat × Option Nat) (m : Nat) : (fdays p m).length ≤ m := by
  unfold fdays
  rw [List.length_map, List.length_range]
  cases p.2 with
  | none => simp only; omega
  | some e => simp only; omega
theorem strch_len (es : List Nat) (b : Nat) (e : Option Nat) : (strch es b e).length ≤ es.length + 1 := by
  unfold strch
  refine Nat.le_trans (pk_len _ _) ?_
  rw [List.length_zip]
  have : (startsOf es b).length ≤ es.length + 1 := by
    show (b :: _).length ≤ _
    rw [List.length_cons]
    have := List.length_filter_le (fun x => decide (b < x)) es
    omega
  omega

end
section
def sp_first_apart (K : PySem.W.Frag) : Sp := fun vs H Q _ => ∃ a b D E, vs = [.ref a, .ref b] ∧ DaysAt K H a D ∧ D.ok ∧ DaysAt K H b E ∧ E.ok ∧ ∀ (r : Option Nat) H', isFst (fun d => dHas D d != dHas E d) 0 r → Ex H H' → Q (optV r) H'
theorem fb_first_apart {P : Program} {w : World} {K : PySem.W.Frag} {mg : Str → Option Value} {base : Heap} (T : Env K mg) : ∃ fd, FunD K "first_apart" "first_apart" (defArgs s_first_apart) (defBody s_first_apart) (defScope s_first_apart) [] [] (He.ga K "first_apart") fd ∧ Fb P w K mg base 6 (He.ga K "first_apart") fd ["one", "other"] (sp_first_apart K) := by
  obtain ⟨fd, F⟩ := T.f_first_apart
  refine ⟨fd, F, fb_of F sc_first_apart (fun vs H Q E h => ?_) (fun cdv A outer s H vs Q E hr h => ?_)⟩
  · obtain ⟨a, b, D, E, rfl, _⟩ := h
    rfl
  · obtain ⟨a, b, D, E', rfl, ha, hD, hb, hE, q⟩ := h
    refine ⟨_, (pss_cons (ps_set (i := 2) sc_first_apart.nd rfl (Or.inl rfl) (c_call (ok_common_round T) (hr.mono (by decide)) T.g_common_round T.k_common_round takes0 (pa_cons (pe_callB (call_lenO T.m_Ring_len (ok_Ring_len T) (hr.mono (by decide))) (by rfl) T.n_len (by decide +kernel) (pa_cons (pe_fld (pv 0) (by rfl)) pa_nil)) (pa_cons (pe_callB (call_lenO T.m_Ring_len (ok_Ring_len T) (hr.mono (by decide))) (by rfl) T.n_len (by decide +kernel) (pa_cons (pe_fld (pv 1) (by rfl)) pa_nil)) pa_nil))))
      (pss_cons (ps_for (passes_of rfl) rfl (pi_list (c_call (ok_stretches T) (hr.mono (by decide)) T.g_stretches T.k_stretches takes0 (pa_cons (c_call (ok_edges_of T) (hr.mono (by decide)) T.g_edges_of T.k_edges_of takes0 (pa_cons (pe_lst (pa_cons (pv 0) (pa_cons (pv 1) pa_nil))) pa_nil)) (pa_cons pe_int (pa_cons pe_non pa_nil))))) (pg_tup (by rfl) (pgs_cons (pg_name (i := 3) sc_first_apart.nd rfl (Or.inl rfl)) (pgs_cons (pg_name (i := 4) sc_first_apart.nd rfl (Or.inl rfl)) pgs_nil)))
      (pss_one (ps_for (passes_of rfl) rfl (pi_list (c_call (ok_first_days T) (hr.mono (by decide)) T.g_first_days T.k_first_days takes0 (pa_cons (pv 3) (pa_cons (pv 4) (pa_cons (pv 2) pa_nil))))) (pg_name (i := 5) sc_first_apart.nd rfl (Or.inl rfl))
      (pss_one (ps_if (pt_cmpR op_ne (c_meth (pv 0) T.c_Days T.m_Days_has (ok_Days_has T) (hr.mono (by decide)) takes0 (pa_cons (pv 5) pa_nil)) (c_meth (pv 1) T.c_Days T.m_Days_has (ok_Days_has T) (hr.mono (by decide)) takes0 (pa_cons (pv 5) pa_nil)) (nomark _))
      (pss_one (ps_ret (pv 5)))
      pss_nil)))))
      (pss_one (ps_ret pe_non)))), ?_⟩
    have bD := bits_len hD.1
    have bE := bits_len hE.1
    obtain ⟨dx, r, po, pa, h1, ⟨dr, h2⟩, _⟩ := id ha
    obtain ⟨dx', r', po', pa', h1', ⟨dr', h2'⟩, _⟩ := id hb
    refine ⟨_, rfl, a, _, dx, _, _, rfl, h1, T.c_Days, T.a_Days_ring, rfl, r, dr, _, rfl, h2, r, D.bits, rfl, ⟨dr, h2⟩, by omega, ⟨by omega, by omega⟩, ?_⟩
    refine ⟨_, rfl, b, _, dx', _, _, rfl, h1', T.c_Days, T.a_Days_ring, rfl, r', dr', _, rfl, h2', r', E'.bits, rfl, ⟨dr', h2'⟩, by omega, ⟨by omega, by omega⟩, ?_⟩
    refine ⟨D.bits.length, E'.bits.length, rfl, bD.1, bE.1, bD.2, bE.2, fun m mD mE m1 m49 => ?_⟩
    refine ⟨_, rfl, _, rfl, by show 2 ≤ sizeLine; decide, fun l nl => ?_⟩
    have X1 := ex_new (o := .lst [.ref a, .ref b]) nl
    refine ⟨l, [a, b], [D, E'], rfl, upd_same, rfl, Nat.le_of_ble_eq_true rfl, fun i c F hc hF => ?_, fun p es H2 X2 np hp srtd l80 hes => ?_⟩
    · match i with
      | 0 =>
        cases hc
        cases hF
        exact ⟨ha.mono X1, hD⟩
      | 1 =>
        cases hc
        cases hF
        exact ⟨hb.mono X1, hE⟩
      | i + 2 => cases hc
    refine ⟨p, es, 0, none, rfl, hp, by omega, fun s H3 X3 ns P3 => ?_⟩
    have X13 := (X1.trans X2).trans X3
    obtain ⟨ts, hs1, hs2, hs3⟩ := P3
    have fst : isFst (fun d => dHas D d != dHas E' d) 0 (firstS (fun d => dHas D d != dHas E' d) m (strch es 0 none)) := by
      rw [strch_R]
      have pD := dHas_per (es := es) mD fun e he => (hes e).mpr (.inr ⟨D, by simp, he⟩)
      have pE := dHas_per (es := es) mE fun e he => (hes e).mpr (.inr ⟨E', by simp, he⟩)
      refine firstS_ok (by omega) (fun d hd => ?_) _ 0 (starts_sorted srtd 0) starts_all
      show (dHas D (d + m) != dHas E' (d + m)) = (dHas D d != dHas E' d)
      rw [pD d hd, pE d hd]
    generalize hS : strch es 0 none = S at hs2 hs3 fst
    refine ⟨s, rfl, ⟨_, sq_lst hs1⟩, for_on ts V.ref L2.walk_list (fun i σ H' => Ex H3 H' ∧ firstS (fun d => dHas D d != dHas E' d) m (S.take i) = none ∧ ∃ v3 v4 v5, σ = [some (.ref a), some (.ref b), some (.int m), v3, v4, v5]) ⟨.refl _, rfl, _, _, _, rfl⟩ (fun i σ H' p => sq_lst (p.1 _ _ hs1)) ?_ ?_⟩
    · rintro i t σ H4 ht ⟨X4, f4, v2, v3, v4, rfl⟩
      have hi : i < S.length := by rw [← hs2]; exact (List.getElem?_eq_some_iff.mp ht).1
      have hp4 : S[i]? = some S[i] := List.getElem?_eq_getElem hi
      have h4 := X4 _ _ (hs3 i t _ ht hp4)
      generalize S[i] = p at hp4 h4
      refine ⟨t, _, rfl, sq_tup h4, rfl, _, _, rfl, _, _, rfl, rfl, ?_⟩
      refine ⟨_, rfl, _, rfl, _, rfl, p.1, p.2, m, rfl, by omega, fun u nu => ?_⟩
      have X5 := ex_new (o := .lst (natV (fdays (p.1, p.2) m))) nu
      refine ⟨u, rfl, ⟨_, sq_lst upd_same⟩, for_on (fdays p m) (fun n : Nat => V.int n) L2.walk_list (fun j σ H' => Ex (upd H4 u (.lst (natV (fdays (p.1, p.2) m)))) H' ∧ (∀ k ∈ (fdays p m).take j, (dHas D k != dHas E' k) = false) ∧ ∃ v5, σ = [some (.ref a), some (.ref b), some (.int m), some (.int (p.1 : Nat)), some (optV p.2), v5]) ⟨.refl _, fun k hk => by simp at hk, _, rfl⟩ (fun j σ H' p => sq_lst (p.1 _ _ upd_same)) ?_ ?_⟩
      · rintro j n σ H6 hn ⟨X6, f6, v4, rfl⟩
        have XX := (X4.trans X5).trans X6
        have ha6 := ha.mono (X13.trans XX)
        have hb6 := hb.mono (X13.trans XX)
        obtain ⟨dx, r, po, pa, h1, _⟩ := id ha6
        obtain ⟨dx', r', po', pa', h1', _⟩ := id hb6
        refine ⟨_, rfl, a, dx, _, rfl, h1, rfl, _, rfl, a, D, _, rfl, ha6, hD, cl_int _, fun d' ed => ?_, isM_no⟩
        have ed2 : n = d' := by injection ed with ed; omega
        subst ed2
        refine ⟨_, rfl, b, dx', _, rfl, h1', rfl, _, rfl, b, E', _, rfl, hb6, hE, cl_int _, fun d' ed => ?_, isM_no⟩
        have ed2 : n = d' := by injection ed with ed; omega
        subst ed2
        refine ⟨rfl, _, rfl, ?_⟩
        have eb : (!decide (V.bl (dHas D n) = V.bl (dHas E' n))) = (dHas D n != dHas E' n) := by
          cases dHas D n <;> cases dHas E' n <;> rfl
        rw [eb]
        cases hh : dHas D n != dHas E' n with
        | true =>
          have e1 := findS_take f4 hp4 (find_take (f := fun d => dHas D d != dHas E' d) f6 hn hh)
          rw [e1] at fst
          exact ⟨_, rfl, q (some n) H6 fst (X13.trans XX)⟩
        | false =>
          refine ⟨X6, fun k hk => ?_, _, rfl⟩
          rw [take_snoc hn] at hk
          rcases List.mem_append.mp hk with hk | hk
          · exact f6 k hk
          · rw [List.mem_singleton.mp hk]
            exact hh
      · rintro σ H6 ⟨X6, f6, v4, rfl⟩
        rw [List.take_length] at f6
        exact ⟨(X4.trans X5).trans X6, findS_none f4 hp4 (List.find?_eq_none.mpr fun k hk => by simpa using f6 k hk), _, _, _, rfl⟩
    · rintro σ H4 ⟨X4, f4, v2, v3, v4, rfl⟩
      rw [hs2, List.take_length] at f4
      rw [f4] at fst
      exact q none H4 fst (X13.trans X4)

theorem ok_first_apart {P : Program} {w : World} {K : PySem.W.Frag} {mg : Str → Option Value} {base : Heap} (T : Env K mg) : Fc P w K mg base 6 (He.ga K "first_apart") [] (sp_first_apart K) := by
  obtain ⟨fd, D, F⟩ := fb_first_apart T
  exact F.all (D.bindsN fun _ _ _ _ _ _ us hl => match us, hl with | [_, _], _ => rfl)
theorem ok_first_apart_0_other_one {P : Program} {w : World} {K : PySem.W.Frag} {mg : Str → Option Value} {base : Heap} (T : Env K mg) : Fc P w K mg base 6 (He.ga K "first_apart") ["other", "one"] (fun vs H Q E => vs.length = 0 + (["other", "one"] : List Str).length ∧ sp_first_apart K (pick [.inl 1, .inl 0] vs []) H Q E) := by
  obtain ⟨fd, D, F⟩ := fb_first_apart T
  exact Fb.names D F 0 ["other", "one"] (fun us => pick [.inl 1, .inl 0] us []) (fun r1 => pick_vals _ r1 .nil) (fun kV doc pm an cdv ct us ws h1 h2 => match us, ws, h1, h2 with | [], [_, _], _, _ => rfl)
end
section
/-- two Days, or no Days -/
def sp_Days_eq (K : PySem.W.Frag) : Sp := fun vs H Q _ => ∃ a D y, vs = [.ref a, y] ∧ DaysAt K H a D ∧ D.ok ∧ ((∃ b E, y = .ref b ∧ DaysAt K H b E ∧ E.ok ∧ ∀ (z : Bool) H', (z = true ↔ ∀ d : Nat, dHas D d = dHas E d) → Ex H H' → Q (.bl z) H') ∨ (∃ t, TyX K H y t ∧ PySem.W.kitOne K t (.ref (He.ga K "Days")) = some false ∧ Q (.bl false) H))
theorem fb_Days_eq {P : Program} {w : World} {K : PySem.W.Frag} {mg : Str → Option Value} {base : Heap} (T : Env K mg) : ∃ fd, FunD K "__eq__" "Days.__eq__" (defArgs s_Days_eq) (defBody s_Days_eq) (defScope s_Days_eq) [] [] (He.ma K (He.ga K "Days") "__eq__") fd ∧ Fb P w K mg base 7 (He.ma K (He.ga K "Days") "__eq__") fd ["self", "other"] (sp_Days_eq K) := by
  obtain ⟨fd, F⟩ := T.f_Days_eq
  refine ⟨fd, F, fb_of F sc_Days_eq (fun vs H Q E h => ?_) (fun cdv A outer s H vs Q E hr h => ?_)⟩
  · obtain ⟨a, D, y, rfl, _⟩ := h
    rfl
  · obtain ⟨a, D, y, rfl, hA, hD, h⟩ := h
    refine ⟨_, (pss_one (ps_ret (pe_and (pe_callB call_isi (by rfl) T.n_isinstance (by decide +kernel) (pa_cons (pv 1) (pa_cons (pe_glob (v := .ref _) (by rfl) T.g_Days rfl) pa_nil))) (pe_one (pe_cmpR op_isN (c_call (ok_first_apart T) (hr.mono (by decide)) T.g_first_apart T.k_first_apart takes0 (pa_cons (pv 0) (pa_cons (pv 1) pa_nil))) pe_non (nomark _)))))), ?_⟩
    rcases h with ⟨b, E', rfl, hB, hE, q⟩ | ⟨t, ty, kt, q⟩
    · obtain ⟨dx, r, po, pa, h1, _⟩ := id hB
      refine ⟨_, rfl, .ref b, .ref (DaysC K), _, _, true, rfl, .own _, ty_ins T.i_Days T.c_Days h1, T.kit_Days_Days, true, rfl, ?_⟩
      refine ⟨_, rfl, _, rfl, a, b, D, E', rfl, hA, hD, hB, hE, fun r H' hr X => ?_⟩
      refine ⟨rfl, q _ H' ?_ X⟩
      cases r with
      | none =>
        refine ⟨fun _ d => ?_, fun _ => rfl⟩
        have := hr d (Nat.zero_le _)
        exact eq_of_beq (by simpa using this)
      | some n =>
        refine ⟨fun z => ?_, fun z => ?_⟩
        · exact absurd (of_decide_eq_true z) (fun z => nomatch z)
        · have this : (dHas D n != dHas E' n) = true := hr.2.1
          rw [show (dHas D n != dHas E' n) = false by rw [z n]; simp] at this
          cases this
    · exact ⟨_, rfl, y, .ref (DaysC K), _, _, false, rfl, .own _, ty, kt, false, rfl, q⟩

theorem ok_Days_eq {P : Program} {w : World} {K : PySem.W.Frag} {mg : Str → Option Value} {base : Heap} (T : Env K mg) : Fc P w K mg base 7 (He.ma K (He.ga K "Days") "__eq__") [] (sp_Days_eq K) := by
  obtain ⟨fd, D, F⟩ := fb_Days_eq T
  exact F.all (D.bindsN fun _ _ _ _ _ _ us hl => match us, hl with | [_, _], _ => rfl)
end
section
def natD (ns : List Nat) : List PyData := ns.map fun n : Nat => PyData.int (n : Int)
theorem dp_nat (K : PySem.W.Frag) (H : Hp) : ∀ ns : List Nat, DpAll K H (natV ns) (natD ns)
  | [] => .nil
  | n :: ns => .cons (.int _) (dp_nat K H ns)
theorem natD_lay : ∀ ns : List Nat, PyData.canLayAll0 (natD ns) = true
  | [] => rfl
  | n :: ns => by
    show (true && PyData.canLayAll0 (natD ns)) = true
    rw [natD_lay ns]
    rfl
theorem natD_dep : ∀ ns : List Nat, PyData.depthAll (natD ns) = 0
  | [] => rfl
  | n :: ns => by
    show max 0 (PyData.depthAll (natD ns)) = 0
    rw [natD_dep ns]
    rfl
theorem shaped_nat (ns : List Nat) : SeqAt.shaped (.list (natD ns)) = true := by
  show (PyData.canLayAll0 (natD ns) && decide (PyData.depthAll (natD ns) + 1 ≤ 64)) = true
  rw [natD_lay, natD_dep]
  rfl
def optD : Option Nat → PyData
  | none => .none
  | some n => .int (n : Int)
theorem dp_opt {K : PySem.W.Frag} {H : Hp} (o : Option Nat) : Dp K H (optV o) (optD o) := by
  cases o with
  | none => exact .non
  | some n => exact .int _
theorem okI_nat {n k : Nat} (h : n < 10 ^ k) (hk : k ≤ 150) : okI ((n : Nat) : Int) = true := decide_eq_true (by
  have h1 : n < 10 ^ 150 := Nat.lt_of_lt_of_le h (Nat.pow_le_pow_right (by decide) hk)
  have e : (10 : Nat) ^ 150 < 10 ^ 200 := by decide +kernel
  show ((n : Nat) : Int).natAbs < 10 ^ 200
  rw [Int.natAbs_natCast]
  omega)
theorem natD_ok {k : Nat} (hk : k ≤ 150) : ∀ ns : List Nat, (∀ n ∈ ns, n < 10 ^ k) → okL (natD ns) = true
  | [], _ => rfl
  | n :: ns, h => by
    show (okI ((n : Nat) : Int) && okL (natD ns)) = true
    rw [okI_nat (h n List.mem_cons_self) hk, natD_ok hk ns fun m hm => h m (List.mem_cons_of_mem _ hm)]
    rfl
theorem natD_sz : ∀ ns : List Nat, szL (natD ns) = 1923 * ns.length
  | [] => rfl
  | n :: ns => by
    show 1921 + 2 + szL (natD ns) = 1923 * (ns.length + 1)
    rw [natD_sz ns]
    omega
theorem shapedT_nat (ns : List Nat) : SeqAt.shaped (.tuple (natD ns)) = true := by
  show (PyData.canLayAll0 (natD ns) && decide (PyData.depthAll (natD ns) + 1 ≤ 64)) = true
  rw [natD_lay, natD_dep]
  rfl

end
section
/-- words, as values -/
def sV (ws : List (List Nat)) : List V := ws.map fun w => V.str (SX.S w)
theorem sV_len (ws : List (List Nat)) : (sV ws).length = ws.length := by
  unfold sV
  rw [List.length_map]
theorem sV_app (a b : List (List Nat)) : sV a ++ sV b = sV (a ++ b) := by
  unfold sV
  rw [List.map_append]
theorem sV_str (ws : List (List Nat)) : sV ws = (ws.map SX.S).map V.str := by
  unfold sV
  rw [List.map_map]
  rfl
abbrev wFrom : List Nat := [102, 114, 111, 109]
abbrev wTo : List Nat := [116, 111]
abbrev wNot : List Nat := [110, 111, 116]
abbrev wAlso : List Nat := [97, 108, 115, 111]
def wTill (D : DaysD) : List (List Nat) := match D.till with
  | some t => [wTo, TL.numL t]
  | none => []
def wSince (D : DaysD) : List (List Nat) := if 0 < D.since then [wFrom, TL.numL D.since] else []
def wList (w : List Nat) (ns : List Nat) : List (List Nat) := if ns = [] then [] else w :: ns.map TL.numL
/-- the words of Days, and their text -/
def dwords (D : DaysD) : List (List Nat) := [D.bits] ++ wSince D ++ wTill D ++ wList wNot (srtN D.out) ++ wList wAlso (srtN D.also)
def dtxt (D : DaysD) : List Nat := TL.joinL [32] (dwords D)
/-- all numbers of D are below 10 ^ k -/
def DaysD.fit (D : DaysD) (k : Nat) : Prop := D.since < 10 ^ k ∧ (∀ t, D.till = some t → t < 10 ^ k) ∧ (∀ n ∈ D.out, n < 10 ^ k) ∧ ∀ n ∈ D.also, n < 10 ^ k
theorem wlen {k : Nat} (hk : 8 ≤ k) {D : DaysD} (hD : D.ok) (hf : D.fit k) : (∀ w ∈ dwords D, w.length ≤ k) ∧ (dwords D).length ≤ 23 := by
  obtain ⟨hs, ht, lo, la, no, na, hdj⟩ := hD
  obtain ⟨f1, f2, f3, f4⟩ := hf
  have hb : 1 ≤ D.bits.length ∧ D.bits.length ≤ 7 := of_decide_eq_true (Bool.and_eq_true_iff.mp hs).1
  have nl : ∀ {n : Nat}, n < 10 ^ k → (TL.numL n).length ≤ k := fun h => TL.numL_len (by omega) h
  have s1 := srtN_len D.out
  have s2 := srtN_len D.also
  have wl : ∀ (w : List Nat) (ns : List Nat), w.length ≤ 4 → (∀ n ∈ ns, n < 10 ^ k) → (∀ x ∈ wList w ns, x.length ≤ k) ∧ (wList w ns).length ≤ ns.length + 1 := fun w ns hw hn => by
    unfold wList
    split
    · exact ⟨fun x hx => (by cases hx), Nat.zero_le _⟩
    · refine ⟨fun x hx => ?_, by simp⟩
      rcases List.mem_cons.mp hx with rfl | hx
      · omega
      · obtain ⟨n, h1, rfl⟩ := List.mem_map.mp hx
        exact nl (hn n h1)
  have w1 := wl wNot (srtN D.out) (by decide) fun n hn => f3 n ((srtN_mem n _).mp hn)
  have w2 := wl wAlso (srtN D.also) (by decide) fun n hn => f4 n ((srtN_mem n _).mp hn)
  have w3 : (∀ x ∈ wSince D, x.length ≤ k) ∧ (wSince D).length ≤ 2 := by
    unfold wSince
    split
    · refine ⟨fun x hx => ?_, Nat.le_refl _⟩
      rcases List.mem_cons.mp hx with rfl | hx
      · show 4 ≤ k
        omega
      · rw [List.mem_singleton.mp hx]
        exact nl f1
    · exact ⟨fun x hx => (by cases hx), Nat.zero_le _⟩
  have w4 : (∀ x ∈ wTill D, x.length ≤ k) ∧ (wTill D).length ≤ 2 := by
    unfold wTill
    cases hT : D.till with
    | none => exact ⟨fun x hx => (by cases hx), Nat.zero_le _⟩
    | some t =>
      refine ⟨fun x hx => ?_, Nat.le_refl _⟩
      rcases List.mem_cons.mp hx with rfl | hx
      · show 2 ≤ k
        omega
      · rw [List.mem_singleton.mp hx]
        exact nl (f2 t hT)
  unfold dwords
  refine ⟨fun w hw => ?_, ?_⟩
  · rcases List.mem_append.mp hw with hw | hw
    · rcases List.mem_append.mp hw with hw | hw
      · rcases List.mem_append.mp hw with hw | hw
        · rcases List.mem_append.mp hw with hw | hw
          · rw [List.mem_singleton.mp hw]
            omega
          · exact w3.1 w hw
        · exact w4.1 w hw
      · exact w1.1 w hw
    · exact w2.1 w hw
  · simp only [List.length_append, List.length_cons, List.length_nil]
    have := w1.2
    have := w2.2
    have := w3.2
    have := w4.2
    omega
theorem sum_len {k : Nat} : ∀ {ws : List (List Nat)}, (∀ w ∈ ws, w.length ≤ k) → ((ws.map SX.S).map (·.length)).sum ≤ k * ws.length
  | [], _ => Nat.zero_le _
  | w :: ws, h => by
    have ih := sum_len (ws := ws) fun x hx => h x (List.mem_cons_of_mem _ hx)
    have h1 := h w List.mem_cons_self
    show (SX.S w).length + ((ws.map SX.S).map (·.length)).sum ≤ k * (ws.length + 1)
    rw [SX.S_len, Nat.mul_add]
    omega
theorem joinL_len {k : Nat} : ∀ {ws : List (List Nat)}, (∀ w ∈ ws, w.length ≤ k) → (TL.joinL [32] ws).length ≤ (k + 1) * ws.length
  | [], _ => Nat.zero_le _
  | [w], h => by
    have := h w List.mem_cons_self
    show w.length ≤ _
    simp
    omega
  | w :: x :: r, h => by
    have ih := joinL_len (ws := x :: r) fun y hy => h y (List.mem_cons_of_mem _ hy)
    have h1 := h w List.mem_cons_self
    have e : TL.joinL [32] (w :: x :: r) = w ++ ([32] ++ TL.joinL [32] (x :: r)) := rfl
    rw [e]
    simp only [List.length_append, List.length_cons, List.length_nil] at ih ⊢
    rw [Nat.mul_add]
    omega
theorem joinL_all {p : Nat → Bool} (h32 : p 32 = true) : ∀ {ws : List (List Nat)}, (∀ w ∈ ws, w.all p = true) → (TL.joinL [32] ws).all p = true
  | [], _ => rfl
  | [w], h => h w List.mem_cons_self
  | w :: x :: r, h => by
    have ih := joinL_all h32 (ws := x :: r) fun y hy => h y (List.mem_cons_of_mem _ hy)
    have e : TL.joinL [32] (w :: x :: r) = w ++ ([32] ++ TL.joinL [32] (x :: r)) := rfl
    rw [e, List.all_append, List.all_append, h w List.mem_cons_self, ih]
    simp [h32]
theorem dwords_all {p : Nat → Bool} (hp : ∀ c, 48 ≤ c → c ≤ 57 → p c = true) (hl : ∀ c, 97 ≤ c → c ≤ 122 → p c = true) {D : DaysD} (hD : D.ok) : ∀ w ∈ dwords D, w.all p = true := by
  have nm : ∀ n, (TL.numL n).all p = true := fun n => List.all_eq_true.mpr fun c hc => by
    have := TL.numL_digits n c hc
    exact hp c this.1 this.2
  have wl : ∀ (w : List Nat) (ns : List Nat), w.all p = true → ∀ x ∈ wList w ns, x.all p = true := fun w ns hw x hx => by
    unfold wList at hx
    split at hx
    · cases hx
    · rcases List.mem_cons.mp hx with rfl | hx
      · exact hw
      · obtain ⟨n, _, rfl⟩ := List.mem_map.mp hx
        exact nm n
  have lt : ∀ w : List Nat, (w.all fun c => decide (97 ≤ c) && decide (c ≤ 122)) = true → w.all p = true := fun w h => List.all_eq_true.mpr fun c hc => by
    obtain ⟨h1, h2⟩ := Bool.and_eq_true_iff.mp (List.all_eq_true.mp h c hc)
    exact hl c (of_decide_eq_true h1) (of_decide_eq_true h2)
  intro w hw
  unfold dwords at hw
  rcases List.mem_append.mp hw with hw | hw
  · rcases List.mem_append.mp hw with hw | hw
    · rcases List.mem_append.mp hw with hw | hw
      · rcases List.mem_append.mp hw with hw | hw
        · rw [List.mem_singleton.mp hw]
          refine List.all_eq_true.mpr fun c hc => ?_
          have := List.all_eq_true.mp (Bool.and_eq_true_iff.mp hD.1).2 c hc
          rcases Bool.or_eq_true_iff.mp this with z | z <;> rw [beq_iff_eq.mp z]
          · exact hp 48 (by decide) (by decide)
          · exact hp 49 (by decide) (by decide)
        · unfold wSince at hw
          split at hw
          · rcases List.mem_cons.mp hw with rfl | hw
            · exact lt _ (by decide)
            · rw [List.mem_singleton.mp hw]
              exact nm _
          · cases hw
      · unfold wTill at hw
        cases hT : D.till with
        | none => rw [hT] at hw; cases hw
        | some t =>
          rw [hT] at hw
          rcases List.mem_cons.mp hw with rfl | hw
          · exact lt _ (by decide)
          · rw [List.mem_singleton.mp hw]
            exact nm _
    · exact wl _ _ (lt _ (by decide)) w hw
  · exact wl _ _ (lt _ (by decide)) w hw

end
section
def sp_Days_str (K : PySem.W.Frag) : Sp := fun vs H Q _ => ∃ a D, vs = [.ref a] ∧ DaysAt K H a D ∧ D.ok ∧ D.fit 150 ∧ ∀ H', Ex H H' → Q (.str (SX.S (dtxt D))) H'
theorem fb_Days_str {P : Program} {w : World} {K : PySem.W.Frag} {mg : Str → Option Value} {base : Heap} (T : Env K mg) : ∃ fd, FunD K "__str__" "Days.__str__" (defArgs s_Days_str) (defBody s_Days_str) (defScope s_Days_str) [] [] (He.ma K (He.ga K "Days") "__str__") fd ∧ Fb P w K mg base 4 (He.ma K (He.ga K "Days") "__str__") fd ["self"] (sp_Days_str K) := by
  obtain ⟨fd, F⟩ := T.f_Days_str
  refine ⟨fd, F, fb_of F sc_Days_str (fun vs H Q E h => ?_) (fun cdv A outer s H vs Q E hr h => ?_)⟩
  · obtain ⟨a, D, rfl, _⟩ := h
    rfl
  · obtain ⟨a, D, rfl, ha, hD, hF, q⟩ := h
    refine ⟨_, (pss_cons (ps_set (i := 1) sc_Days_str.nd rfl (Or.inl rfl) (pe_lst (pa_cons (pe_callTy (call_strO T.m_Ring_str (ok_Ring_str T) (hr.mono (by decide))) (by rfl) T.n_str (by decide +kernel) (pa_cons (pe_fld (pv 0) (by rfl)) pa_nil)) pa_nil)))
      (Evl.pss_cut (ps_if (pt_cmpR op_gt (pe_fld (pv 0) (by rfl)) pe_int (nomark _))
      (pss_one (ps_expr (pe_bm PySem.F.plainAttrs_list PySem.F.slot_list_extend PySem.F.type_list_extend mt_extend (pv 1) (pa_cons (pe_lst (pa_cons (pe_k T.v_FROM) (pa_cons (pe_callTy call_str_int (by rfl) T.n_str (by decide +kernel) (pa_cons (pe_fld (pv 0) (by rfl)) pa_nil)) pa_nil))) pa_nil))))
      pss_nil)
      (Evl.pss_cut (ps_if (pt_cmpR op_notN (pe_fld (pv 0) (by rfl)) pe_non (nomark _))
      (pss_one (ps_expr (pe_bm PySem.F.plainAttrs_list PySem.F.slot_list_extend PySem.F.type_list_extend mt_extend (pv 1) (pa_cons (pe_lst (pa_cons (pe_k T.v_TO) (pa_cons (pe_callTy call_str_int (by rfl) T.n_str (by decide +kernel) (pa_cons (pe_fld (pv 0) (by rfl)) pa_nil)) pa_nil))) pa_nil))))
      pss_nil)
      (pss_cons (ps_for (passes_of rfl) rfl (pi_tup (pe_tup (pa_cons (pe_tup (pa_cons (pe_k T.v_NOT) (pa_cons (pe_fld (pv 0) (by rfl)) pa_nil))) (pa_cons (pe_tup (pa_cons (pe_k T.v_ALSO) (pa_cons (pe_fld (pv 0) (by rfl)) pa_nil))) pa_nil)))) (pg_tup (by rfl) (pgs_cons (pg_name (i := 2) sc_Days_str.nd rfl (Or.inl rfl)) (pgs_cons (pg_name (i := 3) sc_Days_str.nd rfl (Or.inl rfl)) pgs_nil)))
      (pss_one (ps_if (pt_cmpR (op_neD hr.rm.units) (pv 3) (pe_tup pa_nil) (nomark _))
      (pss_one (ps_expr (pe_bm PySem.F.plainAttrs_list PySem.F.slot_list_extend PySem.F.type_list_extend mt_extend (pv 1) (pa_cons (pe_op op_cat (pe_lst (pa_cons (pv 2) pa_nil)) (pe_lc (own := [("day", 4)]) (by rfl) sc_Days_str.nd (pi_tup (pv 3)) (blkOk_by (own := [("day", 4)]) (N := ["self", "words", "word", "some", "day"]) (sc := defScope s_Days_str) (by decide +kernel)) (fun _ _ _ _ _ => (pg_name (i := 4) sc_Days_str.nd rfl (Or.inl rfl))) (fun _ _ _ _ _ => pts_nil) (fun _ _ _ _ _ => (pe_callTy call_str_int (by rfl) T.n_str (by decide +kernel) (pa_cons (pv 4) pa_nil))))) pa_nil))))
      pss_nil)))
      (pss_one (ps_ret (pe_join pe_str (pv 1)))))))), ?_⟩
    obtain ⟨hs, ht, lo, la, no, na, hdj⟩ := id hD
    obtain ⟨f1, f2, f3, f4⟩ := id hF
    obtain ⟨dx, r, po, pa, h1, ⟨dr, h2⟩, h3, h4⟩ := id ha
    refine ⟨_, rfl, a, _, dx, _, _, rfl, h1, T.c_Days, T.a_Days_ring, rfl, r, dr, _, rfl, h2, r, D.bits, rfl, ⟨dr, h2⟩, ?_⟩
    refine ⟨trivial, by show 1 ≤ sizeLine; decide, fun w nw => ?_⟩
    have X0 := ex_new (o := .lst (sV [D.bits])) nw
    have dn := (wlen (by decide) hD hF).2
    have dw := (wlen (by decide) hD hF).1
    have big : ∀ {n : Nat}, n < 10 ^ 150 → ((n : Nat) : Int).natAbs.log2 < 1920 := fun {n} h => log_of (Nat.lt_trans (show ((n : Nat) : Int).natAbs < 10 ^ 150 by rw [Int.natAbs_natCast]; exact h) (by decide +kernel))
    refine ⟨fun σ' H' => Ex H H' ∧ σ' = [some (.ref a), some (.ref w), none, none, none] ∧ H' w = some (.lst (sV ([D.bits] ++ wSince D))), ?_, ?_⟩
    · refine ⟨_, rfl, a, _, dx, _, _, rfl, X0 _ _ h1, T.c_Days, T.a_Days_since, rfl, _, _, rfl, rfl, _, rfl, ?_⟩
      unfold wSince
      by_cases c : 0 < D.since
      · rw [decide_eq_true (show (0 : Int) < ((D.since : Nat) : Int) by omega), if_pos c]
        refine iteT ?_
        refine ⟨_, rfl, .inl ⟨rfl, _, sq_lst upd_same⟩, _, rfl, a, _, dx, _, _, rfl, X0 _ _ h1, T.c_Days, T.a_Days_since, rfl, _, rfl, big f1, by show 2 ≤ sizeLine; decide, fun l nl => ?_⟩
        have wl : w ≠ l := ne_of_none upd_same nl
        refine ⟨w, l, sV [D.bits], sV [wFrom, TL.numL D.since], rfl, rfl, ex_new nl _ _ upd_same, ?_, by show 1 + 2 ≤ sizeLine; decide, ?_⟩
        · rw [upd_same, SX.num_S]
          rfl
        · exact ⟨ex_mut (X0.trans (ex_new nl)) nw, rfl, by rw [upd_same, sV_app]⟩
      · rw [decide_eq_false (show ¬ (0 : Int) < ((D.since : Nat) : Int) by omega), if_neg c]
        exact ⟨X0, rfl, upd_same⟩
    rintro σ' H1 ⟨X1, rfl, hw1⟩
    refine ⟨fun σ' H' => Ex H H' ∧ σ' = [some (.ref a), some (.ref w), none, none, none] ∧ H' w = some (.lst (sV ([D.bits] ++ wSince D ++ wTill D))), ?_, ?_⟩
    · refine ⟨_, rfl, a, _, dx, _, _, rfl, X1 _ _ h1, T.c_Days, T.a_Days_till, rfl, rfl, _, rfl, ?_⟩
      unfold wTill
      cases hT : D.till with
      | none => exact ⟨X1, rfl, by rw [List.append_nil]; exact hw1⟩
      | some t =>
        refine iteT ?_
        refine ⟨_, rfl, .inl ⟨rfl, _, sq_lst hw1⟩, _, rfl, a, _, dx, _, _, rfl, X1 _ _ h1, T.c_Days, T.a_Days_till, rfl, (t : Int), (by rw [hT]; rfl), big (f2 t hT), by show 2 ≤ sizeLine; decide, fun l nl => ?_⟩
        have l2 : (sV ([D.bits] ++ wSince D)).length ≤ 10 := by
          rw [sV_len]
          unfold wSince
          split <;> simp
        refine ⟨w, l, _, sV [wTo, TL.numL t], rfl, rfl, ex_new nl _ _ hw1, ?_, sz_le (by rw [sV_len [wTo, TL.numL t]]; show _ + 2 ≤ _; omega), ?_⟩
        · rw [upd_same, SX.num_S]
          rfl
        · exact ⟨ex_mut (X1.trans (ex_new nl)) nw, rfl, by rw [upd_same, sV_app]⟩
    rintro σ' H2 ⟨X2, rfl, hw2⟩
    refine ⟨_, rfl, a, _, dx, _, _, rfl, X2 _ _ h1, T.c_Days, T.a_Days_out, rfl, by show 2 ≤ sizeLine; decide, fun t1 n1 => ?_⟩
    have Y1 := ex_new (o := .tup [.str (Str.ofString "not"), .ref po]) n1
    refine ⟨_, rfl, a, _, dx, _, _, rfl, Y1 _ _ (X2 _ _ h1), T.c_Days, T.a_Days_also, rfl, by show 2 ≤ sizeLine; decide, fun t2 n2 => ⟨by show 2 ≤ sizeLine; decide, fun t nt => ?_⟩⟩
    have Y2 := ex_new (o := .tup [.str (Str.ofString "also"), .ref pa]) n2
    have Y3 := ex_new (o := .tup [.ref t1, .ref t2]) nt
    have X3 := X2.trans ((Y1.trans Y2).trans Y3)
    have hw3 := ((Y1.trans Y2).trans Y3) _ _ hw2
    have g1 := (Y2.trans Y3) _ _ upd_same
    have g2 := Y3 _ _ upd_same
    have g3 : upd (upd (upd H2 t1 (.tup [.str (Str.ofString "not"), .ref po])) t2 (.tup [.str (Str.ofString "also"), .ref pa])) t (.tup [.ref t1, .ref t2]) t = some (.tup [.ref t1, .ref t2]) := upd_same
    refine ⟨t, rfl, ⟨_, sq_tup g3⟩, ?_⟩
    generalize upd (upd (upd H2 t1 (.tup [.str (Str.ofString "not"), .ref po])) t2 (.tup [.str (Str.ofString "also"), .ref pa])) t (.tup [.ref t1, .ref t2]) = H3 at X3 hw3 g1 g2 g3 ⊢
    have g1 : H3 t1 = some (.tup [.str (SX.S wNot), .ref po]) := g1
    have g2 : H3 t2 = some (.tup [.str (SX.S wAlso), .ref pa]) := g2
    have nlw : ∀ b o, (∀ ys, o ≠ .lst ys) → H3 b = some o → b ≠ w := fun b o ho e z => by
      rw [z, hw3] at e
      exact ho _ (Option.some.inj e).symm
    have tw := nlw _ _ (fun _ z => by cases z) g3
    have t1w := nlw _ _ (fun _ z => by cases z) g1
    have t2w := nlw _ _ (fun _ z => by cases z) g2
    have pow := nlw _ _ (fun _ z => by cases z) (X3 _ _ h3)
    have paw := nlw _ _ (fun _ z => by cases z) (X3 _ _ h4)
    have bl : ([D.bits] ++ wSince D ++ wTill D).length ≤ 5 := by
      unfold wSince wTill
      cases D.till <;> split <;> simp
    refine for_on [(t1, wNot, po, srtN D.out), (t2, wAlso, pa, srtN D.also)] (fun p : Addr × List Nat × Addr × List Nat => V.ref p.1) L2.walk_tup (fun i σ H' => Oth w H3 H' ∧ H' w = some (.lst (sV ([D.bits] ++ wSince D ++ wTill D ++ (([(t1, wNot, po, srtN D.out), (t2, wAlso, pa, srtN D.also)] : List (Addr × List Nat × Addr × List Nat)).take i).flatMap fun p => wList p.2.1 p.2.2.2))) ∧ ∃ v2 v3 v4, σ = [some (.ref a), some (.ref w), v2, v3, v4]) ⟨Oth.refl _ _, by rw [List.take_zero, List.flatMap_nil, List.append_nil]; exact hw3, _, _, _, rfl⟩ (fun i σ H' p => sq_tup (p.1 _ _ tw g3)) ?_ ?_
    · rintro i ⟨u, wd, pp, ns⟩ σ H4 hx ⟨O4, hw4, v2, v3, v4, rfl⟩
      have hm : u ≠ w ∧ H3 u = some (.tup [.str (SX.S wd), .ref pp]) ∧ pp ≠ w ∧ H3 pp = some (.tup (natV ns)) ∧ ns.length ≤ 8 ∧ ∀ n ∈ ns, n < 10 ^ 150 := by
        have hm := List.mem_of_getElem? hx
        have s1 := srtN_len D.out
        have s2 := srtN_len D.also
        simp only [List.mem_cons, List.not_mem_nil, or_false, Prod.mk.injEq] at hm
        rcases hm with ⟨rfl, rfl, rfl, rfl⟩ | ⟨rfl, rfl, rfl, rfl⟩
        · exact ⟨t1w, g1, pow, X3 _ _ h3, by omega, fun n hn => f3 n ((srtN_mem n _).mp hn)⟩
        · exact ⟨t2w, g2, paw, X3 _ _ h4, by omega, fun n hn => f4 n ((srtN_mem n _).mp hn)⟩
      obtain ⟨uw, hu, ppw, hpp, ln, bn⟩ := hm
      have tk := take_snoc hx
      have hu4 := O4 _ _ uw hu
      have hp4 := O4 _ _ ppw hpp
      refine ⟨u, _, rfl, sq_tup hu4, rfl, _, _, rfl, _, _, rfl, rfl, ?_⟩
      refine ⟨_, rfl, by show 0 ≤ sizeLine; decide, fun e ne => ?_⟩
      have Z1 := ex_new (o := .tup []) ne
      refine ⟨.tuple (natD ns), .tuple [], .tup (sq_tup (Z1 _ _ hp4)) (dp_nat K _ ns), .tup (sq_tup upd_same) .nil, shapedT_nat ns, rfl, _, rfl, ?_⟩
      have lb : ([D.bits] ++ wSince D ++ wTill D ++ (([(t1, wNot, po, srtN D.out), (t2, wAlso, pa, srtN D.also)] : List (Addr × List Nat × Addr × List Nat)).take i).flatMap fun p => wList p.2.1 p.2.2.2).length ≤ 50 := by
        have s1 := srtN_len D.out
        have s2 := srtN_len D.also
        have wl : ∀ (w : List Nat) (ns : List Nat), (wList w ns).length ≤ ns.length + 1 := fun w ns => by
          unfold wList
          split <;> simp
        have w1 := wl wNot (srtN D.out)
        have w2 := wl wAlso (srtN D.also)
        rw [List.length_append]
        have hi : i = 0 ∨ i = 1 ∨ 2 ≤ i := by omega
        rcases hi with rfl | rfl | hi
        · rw [List.take_zero, List.flatMap_nil]
          show _ + 0 ≤ 50
          omega
        · simp only [List.take_succ_cons, List.take_zero, List.flatMap_cons, List.flatMap_nil, List.append_nil]
          omega
        · rw [List.take_of_length_le (by show 2 ≤ i; exact hi)]
          have bl2 := bl
          simp only [List.length_append] at bl2
          simp only [List.flatMap_cons, List.flatMap_nil, List.append_nil, List.length_append]
          omega
      rw [tk, List.flatMap_append, ← List.append_assoc]
      generalize [D.bits] ++ wSince D ++ wTill D ++ (([(t1, wNot, po, srtN D.out), (t2, wAlso, pa, srtN D.also)] : List (Addr × List Nat × Addr × List Nat)).take i).flatMap (fun p => wList p.2.1 p.2.2.2) = B at hw4 lb ⊢
      rw [show ([(u, wd, pp, ns)] : List (Addr × List Nat × Addr × List Nat)).flatMap (fun p => wList p.2.1 p.2.2.2) = wList wd ns by simp]
      cases hns : ns with
      | nil =>
        exact ⟨O4.trans (ex_oth Z1), by show upd H4 e _ w = some (.lst (sV (B ++ []))); rw [List.append_nil]; exact Z1 _ _ hw4, _, _, _, rfl⟩
      | cons n0 nr =>
        refine iteT ?_
        rw [← hns]
        have nne : ns ≠ [] := by rw [hns]; simp
        refine ⟨_, rfl, .inl ⟨rfl, _, sq_lst (Z1 _ _ hw4)⟩, _, rfl, by show 1 ≤ sizeLine; decide, fun l1 nl1 => ?_⟩
        have Z2 := Z1.trans (ex_new (o := .lst (sV [wd])) nl1)
        refine ⟨_, rfl, pp, rfl, ⟨_, sq_tup (Z2 _ _ hp4)⟩, fun A nA => lc_on ns (fun n : Nat => V.int n) L2.walk_tup (fun n => some (.str (SX.S (TL.numL n)))) (fun H' => Ex (upd (upd H4 e (.tup [])) l1 (.lst (sV [wd]))) H') (fun H' z e => ex_mut e nA) (.refl _) (by omega) (fun H' e => sq_tup (e _ _ (Z2 _ _ hp4))) (fun j n H5 acc N hn X5 hA la k => ?_) fun H5 X5 d5 => ?_⟩
        · refine ⟨rfl, _, rfl, _, rfl, big (bn n (List.mem_of_getElem? hn)), acc, hA, la, ?_⟩
          rw [SX.num_S]
          exact k H5 X5 hA
        · have e5 : ns.filterMap (fun n => some (V.str (SX.S (TL.numL n)))) = sV (ns.map TL.numL) := by
            unfold sV
            rw [List.filterMap_eq_map', List.map_map]
            rfl
          rw [e5] at d5
          have Z5 := Z2.trans X5
          refine ⟨l1, A, sV [wd], _, rfl, rfl, X5 _ _ upd_same, d5, sz_le (by rw [sV_len, sV_len, List.length_map]; show 1 + _ ≤ _; omega), fun l3 nl3 => ?_⟩
          rw [sV_app]
          have Z6 := Z5.trans (ex_new (o := .lst (sV ([wd] ++ ns.map TL.numL))) nl3)
          refine ⟨w, l3, _, _, rfl, rfl, Z6 _ _ hw4, upd_same, sz_le (by rw [sV_len, sV_len, List.length_append, List.length_map]; show _ + (1 + _) ≤ _; omega), ?_⟩
          refine ⟨(O4.trans (ex_oth Z6)).upd, ?_, _, _, _, rfl⟩
          rw [upd_same, sV_app]
          unfold wList
          rw [if_neg nne]
          rfl
    · rintro σ H4 ⟨O4, hw4, v2, v3, v4, rfl⟩
      have ed : [D.bits] ++ wSince D ++ wTill D ++ (([(t1, wNot, po, srtN D.out), (t2, wAlso, pa, srtN D.also)] : List (Addr × List Nat × Addr × List Nat)).take ([(t1, wNot, po, srtN D.out), (t2, wAlso, pa, srtN D.also)] : List (Addr × List Nat × Addr × List Nat)).length).flatMap (fun p => wList p.2.1 p.2.2.2) = dwords D := by
        rw [List.take_length]
        unfold dwords
        simp
      rw [ed] at hw4
      have X4 : Ex H H4 := Oth.ex X3 nw O4
      refine ⟨⟨_, rfl⟩, _, rfl, _, _, (dwords D).map SX.S, rfl, rfl, .inl (sq_lst (by rw [hw4, sV_str])), ?_, ?_⟩
      · have := sum_len dw
        rw [List.length_map]
        have z : (Str.ofString " ").length = 1 := rfl
        rw [z]
        omega
      · rw [show Str.ofString " " = SX.S [32] from rfl, SX.join_S]
        exact q H4 X4

theorem ok_Days_str {P : Program} {w : World} {K : PySem.W.Frag} {mg : Str → Option Value} {base : Heap} (T : Env K mg) : Fc P w K mg base 4 (He.ma K (He.ga K "Days") "__str__") [] (sp_Days_str K) := by
  obtain ⟨fd, D, F⟩ := fb_Days_str T
  exact F.all (D.bindsN fun _ _ _ _ _ _ us hl => match us, hl with | [_], _ => rfl)
end
section
/-- a pot: what is left of a cell's digits, and what mixes -/
def Pot (H : Hp) (p : Addr) : Prop := ∃ a b c : Int, H p = some (.lst [.int a, .int b, .int c]) ∧ 0 ≤ b ∧ b < 2147483629
def sp__law_pot (K : PySem.W.Frag) : Sp := fun vs H Q _ => ∃ (a : Addr) (ns : List Int) (k : Int), vs = [.ref a, .int k] ∧ SqL K H a (ns.map V.int) ∧ 0 ≤ k ∧ k < 1000 ∧ ∀ p H', H p = none → Pot H' p → (∀ b, b ≠ p → H' b = H b) → Q (.ref p) H'
theorem fb__law_pot {P : Program} {w : World} {K : PySem.W.Frag} {mg : Str → Option Value} {base : Heap} (T : Env K mg) : ∃ fd, FunD K "_law_pot" "_law_pot" (defArgs s__law_pot) (defBody s__law_pot) (defScope s__law_pot) [] [] (He.ga K "_law_pot") fd ∧ Fb P w K mg base 1 (He.ga K "_law_pot") fd ["_law_script", "_law_k"] (sp__law_pot K) := by
  obtain ⟨fd, F⟩ := T.f__law_pot
  refine ⟨fd, F, fb_of F sc__law_pot (fun vs H Q E h => ?_) (fun cdv A outer s H vs Q E hr h => ?_)⟩
  · obtain ⟨a, ns, k, rfl, _⟩ := h
    rfl
  · obtain ⟨a, ns, k, rfl, hS, k0, k1, q⟩ := h
    refine ⟨_, (Evl.pss_cut (ps_set (i := 2) sc__law_pot.nd rfl (Or.inl rfl) (pe_ifExp (pt_cmpR op_lt (pv 1) (pe_callB call_len (by rfl) T.n_len (by decide +kernel) (pa_cons (pv 0) pa_nil)) (nomark _)) (pe_ix ix_list (pv 0) (pv 1) (fun _ _ => rfl)) pe_int))
      (pss_one (ps_ret (pe_lst (pa_cons (pe_callB (call_max2 rfl) (by rfl) T.n_max (by decide +kernel) (pa_cons pe_int (pa_cons (pe_op op_sub (pv 2) (pe_op op_pow pe_int pe_int)) pa_nil))) (pa_cons (pe_op op_mod (pe_op op_pow (pe_op op_add (pe_op op_mul (pe_op op_mod (pv 2) pe_int) pe_int) (pe_op op_mul pe_int (pe_op op_add (pv 1) pe_int))) pe_int) pe_int) (pa_cons pe_int pa_nil))))))), ?_⟩
    refine ⟨fun σ' H' => H' = H ∧ ∃ cell : Int, σ' = [some (.ref a), some (.int k), some (.int cell)], ?_, ?_⟩
    · refine ⟨_, rfl, _, rfl, _, _, rfl, .inl ⟨_, hS, rfl⟩, _, _, rfl, rfl, _, rfl, ite2 (fun c => ?_) (fun c => ?_)⟩
      · have c2 : k < ((ns.map V.int).length : Int) := of_decide_eq_true c
        rw [List.length_map] at c2
        obtain ⟨i, rfl⟩ := Int.eq_ofNat_of_zero_le k0
        have hi : i < ns.length := Int.ofNat_lt.mp c2
        refine ⟨_, rfl, _, rfl, a, _, _, .int ns[i], rfl, rfl, hS, ?_, rfl, ns[i], rfl⟩
        exact atI_nat (by rw [List.getElem?_map, List.getElem?_eq_getElem hi]; rfl)
      · exact ⟨rfl, 0, rfl⟩
    · rintro σ' H' ⟨rfl, cell, rfl⟩
      have m1 := Int.emod_nonneg cell (show (2147483629 : Int) ≠ 0 by decide)
      have m2 := Int.emod_lt_of_pos cell (show (0 : Int) < 2147483629 by decide)
      refine ⟨_, rfl, _, _, rfl, rfl, ⟨by decide, by decide, by decide⟩, _, _, rfl, rfl, _, _, rfl, ?_⟩
      refine ⟨_, rfl, _, _, rfl, rfl, (by show (0 : Int) < 2147483629; decide), _, _, rfl, rfl, .inr (by decide), _, rfl, _, _, rfl, rfl, _, _, rfl, rfl, .inl (by decide), _, _, rfl, rfl, _, _, rfl, rfl, ⟨by decide, by decide, ?_⟩, _, _, rfl, rfl, (by show (0 : Int) < 2147483563; decide), ?_⟩
      · show (cell % 2147483629 * 69621 + 40503 * (k + 1)).natAbs < 2 ^ 64
        omega
      · refine ⟨by show 3 ≤ sizeLine; decide, fun p hp => ?_⟩
        refine q p _ hp ⟨_, _, _, upd_same, Int.emod_nonneg _ (by decide), Int.lt_trans (Int.emod_lt_of_pos _ (by decide)) (by decide)⟩ fun b n => upd_ne n

theorem ok__law_pot {P : Program} {w : World} {K : PySem.W.Frag} {mg : Str → Option Value} {base : Heap} (T : Env K mg) : Fc P w K mg base 1 (He.ga K "_law_pot") [] (sp__law_pot K) := by
  obtain ⟨fd, D, F⟩ := fb__law_pot T
  exact F.all (D.bindsN fun _ _ _ _ _ _ us hl => match us, hl with | [_, _], _ => rfl)
end
section
/-- the pot at p is drawn from: everything else stays -/
def PotOn (H H' : Hp) (p : Addr) : Prop := Pot H' p ∧ ∀ b o, b ≠ p → H b = some o → H' b = some o
theorem PotOn.refl {H : Hp} {p : Addr} (h : Pot H p) : PotOn H H p := ⟨h, fun _ _ _ e => e⟩
theorem PotOn.trans {H H1 H2 : Hp} {p : Addr} (a : PotOn H H1 p) (b : PotOn H1 H2 p) : PotOn H H2 p := ⟨b.1, fun c o n e => b.2 c o n (a.2 c o n e)⟩
theorem pot_new {H H' : Hp} {p l : Addr} {o : HO} (P : PotOn H H' p) (n : H' l = none) : PotOn H (upd H' l o) p := by
  obtain ⟨⟨x, y, z, e, r⟩, k⟩ := P
  refine ⟨⟨x, y, z, by rw [upd_ne (ne_of_none e n)]; exact e, r⟩, fun b u nb h => ?_⟩
  rw [upd_ne (ne_of_none (k b u nb h) n)]
  exact k b u nb h
def sp__law_take (K : PySem.W.Frag) : Sp := fun vs H Q _ => ∃ (p : Addr) (n : Int), vs = [.ref p, .int n] ∧ Pot H p ∧ 0 < n ∧ n < 1073741824 ∧ ∀ (d : Int) H', 0 ≤ d → d < n → PotOn H H' p → Q (.int d) H'
theorem fb__law_take {P : Program} {w : World} {K : PySem.W.Frag} {mg : Str → Option Value} {base : Heap} (T : Env K mg) : ∃ fd, FunD K "_law_take" "_law_take" (defArgs s__law_take) (defBody s__law_take) (defScope s__law_take) [] [] (He.ga K "_law_take") fd ∧ Fb P w K mg base 1 (He.ga K "_law_take") fd ["_law_pot_here", "_law_many"] (sp__law_take K) := by
  obtain ⟨fd, F⟩ := T.f__law_take
  refine ⟨fd, F, fb_of F sc__law_take (fun vs H Q E h => ?_) (fun cdv A outer s H vs Q E hr h => ?_)⟩
  · obtain ⟨p, n, rfl, _⟩ := h
    rfl
  · obtain ⟨p, n, rfl, ⟨a, b, c, hp, b0, b1⟩, n0, n1, q⟩ := h
    refine ⟨_, (pss_cons (ps_if (pt_cmpR op_gt (pe_ix ix_list (pv 0) pe_int (fun _ _ => rfl)) pe_int (nomark _))
      (pss_cons (ps_asg (pe_callB call_divmodW (by rfl) T.n_divmod (by decide +kernel) (pa_cons (pe_ix ix_list (pv 0) pe_int (fun _ _ => rfl)) (pa_cons (pv 1) pa_nil))) (pg_tup (by rfl) (pgs_cons (pg_sub (pv 0) pe_int set_list) (pgs_cons (pg_name (i := 2) sc__law_take.nd rfl (Or.inl rfl)) pgs_nil))))
      (pss_one (ps_ret (pv 2))))
      pss_nil)
      (pss_cons (ps_asg (pe_op op_add (pe_ix ix_list (pv 0) pe_int (fun _ _ => rfl)) pe_int) (pg_sub (pv 0) pe_int set_list))
      (pss_cons (ps_asg (pe_op op_mod (pe_op op_add (pe_op op_mul (pe_ix ix_list (pv 0) pe_int (fun _ _ => rfl)) pe_int) (pe_op op_mul pe_int (pe_ix ix_list (pv 0) pe_int (fun _ _ => rfl)))) pe_int) (pg_sub (pv 0) pe_int set_list))
      (pss_one (ps_ret (pe_op op_mod (pe_op op_fdiv (pe_op op_mod (pe_op op_mul (pe_ix ix_list (pv 0) pe_int (fun _ _ => rfl)) (pe_ix ix_list (pv 0) pe_int (fun _ _ => rfl))) pe_int) pe_int) (pv 1))))))), ?_⟩
    refine ⟨_, rfl, p, _, _, .int a, rfl, rfl, sq_lst hp, rfl, _, _, rfl, rfl, _, rfl, ite2 (fun _ => ?_) (fun _ => ?_)⟩
    · refine ⟨_, rfl, p, _, _, .int a, rfl, rfl, sq_lst hp, rfl, _, rfl, a, n, rfl, ⟨n0, PyProof.noPylong_small (by omega)⟩, fun t ht => ?_⟩
      have pt : p ≠ t := ne_of_none hp ht
      refine ⟨t, _, rfl, sq_tup upd_same, rfl, _, _, rfl, _, rfl, p, [.int a, .int b, .int c], 0, 0, rfl, rfl, (by rw [upd_ne pt]; exact hp), rfl, _, _, rfl, rfl, _, rfl, ?_⟩
      refine q _ _ (Int.emod_nonneg _ (by omega)) (Int.emod_lt_of_pos _ n0) ⟨⟨_, _, _, upd_same, b0, b1⟩, fun x o nx e => ?_⟩
      rw [upd_ne nx, upd_ne (ne_of_none e ht)]
      exact e
    · refine ⟨_, rfl, p, _, _, .int c, rfl, rfl, sq_lst hp, rfl, _, _, rfl, rfl, _, rfl, p, _, 2, 2, rfl, rfl, hp, rfl, ?_⟩
      refine ⟨_, rfl, p, _, _, .int b, rfl, rfl, sq_lst upd_same, rfl, _, _, rfl, rfl, .inr (by decide), _, rfl, p, _, _, .int (c + 1), rfl, rfl, sq_lst upd_same, rfl, _, _, rfl, rfl, .inl (by decide), _, _, rfl, rfl, _, _, rfl, rfl, (by show (0 : Int) < 2147483629; decide), _, rfl, p, _, 1, 1, rfl, rfl, upd_same, rfl, ?_⟩
      have m1 := Int.emod_nonneg (b * 48271 + 11213 * (c + 1)) (show (2147483629 : Int) ≠ 0 by decide)
      have m2 := Int.emod_lt_of_pos (b * 48271 + 11213 * (c + 1)) (show (0 : Int) < 2147483629 by decide)
      refine ⟨_, rfl, p, _, _, .int ((b * 48271 + 11213 * (c + 1)) % 2147483629), rfl, rfl, sq_lst upd_same, rfl, _, rfl, p, _, _, .int ((b * 48271 + 11213 * (c + 1)) % 2147483629), rfl, rfl, sq_lst upd_same, rfl, _, _, rfl, rfl, .inl ⟨by omega, by omega⟩, _, _, rfl, rfl, (by show (0 : Int) < 2147483587; decide), _, _, rfl, rfl, ⟨by decide, by decide⟩, _, rfl, _, _, rfl, rfl, n0, ?_⟩
      refine q _ _ (Int.emod_nonneg _ (by omega)) (Int.emod_lt_of_pos _ n0) ⟨⟨_, _, _, upd_same, m1, m2⟩, fun x o nx e => ?_⟩
      rw [upd_ne nx, upd_ne nx]
      exact e
theorem PotOn.ex {H0 H H' : Hp} {p : Addr} (e : Ex H0 H) (n : H0 p = none) (P : PotOn H H' p) : Ex H0 H' := fun b o h => P.2 b o (ne_of_none h n) (e b o h)
theorem pot_upd {H H' : Hp} {p l : Addr} {o : HO} (P : PotOn H H' p) (n : H l = none) (ne : l ≠ p) : PotOn H (upd H' l o) p := by
  obtain ⟨⟨x, y, z, e, r⟩, k⟩ := P
  refine ⟨⟨x, y, z, by rw [upd_ne (Ne.symm ne)]; exact e, r⟩, fun b u nb h => ?_⟩
  rw [upd_ne (ne_of_none h n)]
  exact k b u nb h
theorem PotOn.then {H H1 H2 : Hp} {p : Addr} (P : PotOn H H1 p) (np : H p = none) (e : Ex H1 H2) : PotOn H H2 p := by
  obtain ⟨⟨x, y, z, h, r⟩, k⟩ := P
  exact ⟨⟨x, y, z, e _ _ h, r⟩, fun b u nb h => e _ _ (k b u nb h)⟩
theorem PotOn.ex2 {H H1 H2 : Hp} {p : Addr} (P : PotOn H H1 p) (e : Ex H1 H2) : PotOn H H2 p := by
  obtain ⟨⟨x, y, z, h, r⟩, k⟩ := P
  exact ⟨⟨x, y, z, e _ _ h, r⟩, fun b u nb h => e _ _ (k b u nb h)⟩
theorem pot_ne {H H' : Hp} {p l : Addr} (P : PotOn H H' p) (n : H' l = none) : l ≠ p := fun z => by
  obtain ⟨_, _, _, e, _⟩ := P.1
  rw [z, e] at n
  cases n
theorem at_mem {xs : List V} {i : Int} (h0 : 0 ≤ i) (h1 : i < (xs.length : Nat)) : ∃ x, x ∈ xs ∧ atI xs i = some x := by
  obtain ⟨n, rfl⟩ := Int.eq_ofNat_of_zero_le h0
  have hn : n < xs.length := Int.ofNat_lt.mp h1
  exact ⟨xs[n], List.getElem_mem hn, atI_nat (List.getElem?_eq_getElem hn)⟩
theorem PotOn.fresh {H H' : Hp} {p b : Addr} (P : PotOn H H' p) (n : H' b = none) : H b = none := by
  cases e : H b with
  | none => rfl
  | some o =>
    by_cases hb : b = p
    · obtain ⟨_, _, _, e2, _⟩ := P.1
      rw [hb, e2] at n
      cases n
    · rw [P.2 b o hb e] at n
      cases n
theorem pot_other {H : Hp} {p b : Addr} {o : HO} (hp : Pot H p) (h : H b = some o) (ho : ∀ x y z : Int, o ≠ .lst [.int x, .int y, .int z]) : b ≠ p := fun w => by
  obtain ⟨x, y, z, e, _⟩ := hp
  rw [w, e] at h
  exact ho x y z (Option.some.inj h).symm

theorem ok__law_take {P : Program} {w : World} {K : PySem.W.Frag} {mg : Str → Option Value} {base : Heap} (T : Env K mg) : Fc P w K mg base 1 (He.ga K "_law_take") [] (sp__law_take K) := by
  obtain ⟨fd, D, F⟩ := fb__law_take T
  exact F.all (D.bindsN fun _ _ _ _ _ _ us hl => match us, hl with | [_, _], _ => rfl)
end
section
def sp__law_great (K : PySem.W.Frag) : Sp := fun vs H Q _ => ∃ (p : Addr) (n : Int), vs = [.ref p, .int n] ∧ Pot H p ∧ 0 < n ∧ ∀ (d : Int) H', 0 ≤ d → d < n → PotOn H H' p → Q (.int d) H'
theorem fb__law_great {P : Program} {w : World} {K : PySem.W.Frag} {mg : Str → Option Value} {base : Heap} (T : Env K mg) : ∃ fd, FunD K "_law_great" "_law_great" (defArgs s__law_great) (defBody s__law_great) (defScope s__law_great) [] [] (He.ga K "_law_great") fd ∧ Fb P w K mg base 2 (He.ga K "_law_great") fd ["_law_pot_here", "_law_bound"] (sp__law_great K) := by
  obtain ⟨fd, F⟩ := T.f__law_great
  refine ⟨fd, F, fb_of F sc__law_great (fun vs H Q E h => ?_) (fun cdv A outer s H vs Q E hr h => ?_)⟩
  · obtain ⟨p, n, rfl, _⟩ := h
    rfl
  · obtain ⟨p, n, rfl, hp, n0, q⟩ := h
    refine ⟨_, (pss_cons (ps_set (i := 2) sc__law_great.nd rfl (Or.inl rfl) pe_int)
      (pss_cons (ps_for (passes_of rfl) rfl (pi_range1 (by rfl) T.n_range (pa_cons pe_int pa_nil)) (pg_name (i := 3) sc__law_great.nd rfl (Or.inl rfl))
      (pss_one (ps_set (i := 2) sc__law_great.nd rfl (Or.inl rfl) (pe_op op_add (pe_op op_mul (pv 2) (pe_op op_pow pe_int pe_int)) (c_call (ok__law_take T) (hr.mono (by decide)) T.g__law_take T.k__law_take takes0 (pa_cons (pv 0) (pa_cons (pe_op op_pow pe_int pe_int) pa_nil)))))))
      (pss_one (ps_ret (pe_op op_mod (pv 2) (pv 1)))))), ?_⟩
    refine ⟨7, rfl, by decide, by decide, for_range (n := 7) (fun i σ H' => PotOn H H' p ∧ ∃ (f : Int) (v : Option V), σ = [some (.ref p), some (.int n), some (.int f), v] ∧ 0 ≤ f) ⟨.refl hp, 0, none, rfl, Int.le_refl _⟩ ?_ ?_⟩
    · rintro i σ H1 hi ⟨P1, f, v, rfl, f0⟩
      refine ⟨_, rfl, _, _, rfl, rfl, ⟨by decide, by decide, by decide⟩, _, _, rfl, rfl, .inr (by decide), _, rfl, _, _, rfl, rfl, ⟨by decide, by decide, by decide⟩, p, _, rfl, P1.1, by decide, by decide, fun d H2 d0 d1 P2 => ?_⟩
      refine ⟨_, _, rfl, rfl, P1.trans P2, _, _, rfl, ?_⟩
      have : (0 : Int) ≤ f * 10 ^ (9 : Int).toNat := Int.mul_nonneg f0 (by decide)
      omega
    · rintro σ H1 ⟨P1, f, v, rfl, f0⟩
      refine ⟨_, rfl, _, rfl, _, _, rfl, rfl, n0, ?_⟩
      exact q _ _ (Int.emod_nonneg _ (by omega)) (Int.emod_lt_of_pos _ n0) P1

theorem ok__law_great {P : Program} {w : World} {K : PySem.W.Frag} {mg : Str → Option Value} {base : Heap} (T : Env K mg) : Fc P w K mg base 2 (He.ga K "_law_great") [] (sp__law_great K) := by
  obtain ⟨fd, D, F⟩ := fb__law_great T
  exact F.all (D.bindsN fun _ _ _ _ _ _ us hl => match us, hl with | [_, _], _ => rfl)
end
section
def sp__law_bits (K : PySem.W.Frag) : Sp := fun vs H Q _ => ∃ p : Addr, vs = [.ref p] ∧ Pot H p ∧ ∀ (l : List Nat) H', sgn l = true → PotOn H H' p → Q (.str (SX.S l)) H'
/-- a list of one-sign texts -/
def Sgs (xs : List V) (l : List Nat) : Prop := xs = l.map fun c => V.str (SX.S [c])
theorem joinL_ones : ∀ l : List Nat, TL.joinL [] (l.map fun c => [c]) = l
  | [] => rfl
  | [c] => rfl
  | c :: d :: r => by
    show [c] ++ [] ++ TL.joinL [] ((d :: r).map fun c => [c]) = _
    rw [joinL_ones (d :: r)]
    rfl
theorem join_signs (l : List Nat) : Txt.join (Str.ofString "") (l.map fun c => SX.S [c]) = SX.S l := by
  have e := SX.join_S [] (l.map fun c => [c])
  rw [List.map_map, joinL_ones] at e
  exact e
theorem fb__law_bits {P : Program} {w : World} {K : PySem.W.Frag} {mg : Str → Option Value} {base : Heap} (T : Env K mg) : ∃ fd, FunD K "_law_bits" "_law_bits" (defArgs s__law_bits) (defBody s__law_bits) (defScope s__law_bits) [] [] (He.ga K "_law_bits") fd ∧ Fb P w K mg base 2 (He.ga K "_law_bits") fd ["_law_pot_here"] (sp__law_bits K) := by
  obtain ⟨fd, F⟩ := T.f__law_bits
  refine ⟨fd, F, fb_of F sc__law_bits (fun vs H Q E h => ?_) (fun cdv A outer s H vs Q E hr h => ?_)⟩
  · obtain ⟨p, rfl, _⟩ := h
    rfl
  · obtain ⟨p, rfl, hp, q⟩ := h
    refine ⟨_, (pss_one (ps_ret (pe_join pe_str (pe_lc (own := [("_law_k", 1)]) (by rfl) sc__law_bits.nd (pi_range1 (by rfl) T.n_range (pa_cons (pe_op op_add pe_int (c_call (ok__law_take T) (hr.mono (by decide)) T.g__law_take T.k__law_take takes0 (pa_cons (pv 0) (pa_cons pe_int pa_nil)))) pa_nil)) (blkOk_by (own := [("_law_k", 1)]) (N := ["_law_pot_here", "_law_k"]) (sc := defScope s__law_bits) (by decide +kernel)) (fun _ _ _ _ _ => (pg_name (i := 1) sc__law_bits.nd rfl (Or.inl rfl))) (fun _ _ _ _ _ => pts_nil) (fun _ _ _ _ _ => (pe_ix ix_str pe_str (c_call (ok__law_take T) (hr.mono (by decide)) T.g__law_take T.k__law_take takes0 (pa_cons (pv 0) (pa_cons pe_int pa_nil))) (fun _ _ => rfl))))))), ?_⟩
    refine ⟨⟨_, rfl⟩, _, rfl, p, 7, rfl, hp, by decide, by decide, fun d H1 d0 d1 P1 => ⟨_, _, rfl, rfl, _, rfl, by omega, by omega, fun D nD => ?_⟩⟩
    have Dp : D ≠ p := fun z => by
      obtain ⟨_, _, _, e, _⟩ := P1.1
      rw [z, e] at nD
      cases nD
    have nD0 : H D = none := by
      cases e : H D with
      | none => rfl
      | some o =>
        rw [P1.2 D o Dp e] at nD
        cases nD
    refine lc_any (n := (1 + d).toNat) (J := Itr 0 (1 + d).toNat) L2.walk_range (fun i acc H' => PotOn H H' p ∧ ∃ l : List Nat, acc = l.map (fun c => V.str (SX.S [c])) ∧ l.length = i ∧ l.all (fun c => c == 48 || c == 49) = true) (fun i acc H' l e => ⟨pot_upd e.1 nD0 Dp, e.2⟩) ⟨P1, [], rfl, rfl, rfl⟩ (by omega) (fun i acc H' e => ?_) (fun _ _ _ _ => trivial) (fun i x H2 H3 acc N hi e hD la y k _ => ?_) (fun acc H2 e hD => ?_)
    · obtain ⟨_, l, rfl, hl, _⟩ := e
      simp [hl]
    · obtain ⟨rfl, rfl⟩ := y
      obtain ⟨P2, l, rfl, hl, ha⟩ := e
      refine ⟨rfl, _, rfl, p, 2, rfl, P2.1, by decide, by decide, fun b H4 b0 b1 P4 => ?_⟩
      obtain ⟨m, rfl⟩ := Int.eq_ofNat_of_zero_le b0
      have hm : m = 0 ∨ m = 1 := by omega
      have e4 := P4.2 _ _ Dp hD
      rcases hm with rfl | rfl
      · refine ⟨_, _, 48, rfl, rfl, by show 2 ≤ sizeLine; decide, rfl, _, e4, la, ?_⟩
        exact k _ H4 e4 ⟨P2.trans P4, l ++ [48], by simp, by simp [hl], by simp [ha]⟩
      · refine ⟨_, _, 49, rfl, rfl, by show 2 ≤ sizeLine; decide, rfl, _, e4, la, ?_⟩
        exact k _ H4 e4 ⟨P2.trans P4, l ++ [49], by simp, by simp [hl], by simp [ha]⟩
    · obtain ⟨P2, l, rfl, hl, ha⟩ := e
      refine ⟨_, _, l.map (fun c => SX.S [c]), rfl, rfl, .inl (sq_lst (by rw [hD, List.map_map]; rfl)), ?_, ?_⟩
      · have : ∀ l : List Nat, ((l.map (fun c => SX.S [c])).map (·.length)).sum = l.length := fun l => by
          induction l with
          | nil => rfl
          | cons c r ih =>
            show 1 + ((r.map (fun c => SX.S [c])).map (·.length)).sum = r.length + 1
            omega
        rw [this, List.length_map]
        have z : (Str.ofString "").length = 0 := rfl
        rw [z]
        omega
      rw [join_signs]
      refine q l H2 ?_ P2
      unfold sgn
      rw [ha, decide_eq_true (by omega)]
      rfl

theorem ok__law_bits {P : Program} {w : World} {K : PySem.W.Frag} {mg : Str → Option Value} {base : Heap} (T : Env K mg) : Fc P w K mg base 2 (He.ga K "_law_bits") [] (sp__law_bits K) := by
  obtain ⟨fd, D, F⟩ := fb__law_bits T
  exact F.all (D.bindsN fun _ _ _ _ _ _ us hl => match us, hl with | [_], _ => rfl)
end
section
def optLt (o : Option Nat) (b : Nat) : Prop := ∀ t, o = some t → t < b
def sp__law_near (K : PySem.W.Frag) : Sp := fun vs H Q _ => ∃ (p : Addr) (lo : Nat) (hi : Option Nat), vs = [.ref p, .int lo, optV hi] ∧ Pot H p ∧ lo < 10 ^ 52 ∧ optLt hi (10 ^ 52) ∧ ∀ (n : Nat) H', n < 10 ^ 53 → PotOn H H' p → Q (.int n) H'
theorem fb__law_near {P : Program} {w : World} {K : PySem.W.Frag} {mg : Str → Option Value} {base : Heap} (T : Env K mg) : ∃ fd, FunD K "_law_near" "_law_near" (defArgs s__law_near) (defBody s__law_near) (defScope s__law_near) [] [] (He.ga K "_law_near") fd ∧ Fb P w K mg base 3 (He.ga K "_law_near") fd ["_law_pot_here", "_law_low", "_law_high"] (sp__law_near K) := by
  obtain ⟨fd, F⟩ := T.f__law_near
  refine ⟨fd, F, fb_of F sc__law_near (fun vs H Q E h => ?_) (fun cdv A outer s H vs Q E hr h => ?_)⟩
  · obtain ⟨p, lo, hi, rfl, _⟩ := h
    rfl
  · obtain ⟨p, lo, hi, rfl, hp, hlo, hhi, q⟩ := h
    refine ⟨_, (pss_cons (ps_set (i := 3) sc__law_near.nd rfl (Or.inl rfl) (c_call (ok__law_take T) (hr.mono (by decide)) T.g__law_take T.k__law_take takes0 (pa_cons (pv 0) (pa_cons pe_int pa_nil))))
      (pss_cons (ps_if (pt_cmpR op_eq (pv 3) pe_int (nomark _))
      (pss_one (ps_ret (c_call (ok__law_take T) (hr.mono (by decide)) T.g__law_take T.k__law_take takes0 (pa_cons (pv 0) (pa_cons pe_int pa_nil)))))
      pss_nil)
      (Evl.pss_cut (ps_if (PW.pt (pw_and (pt_cmpR op_eq (pv 3) pe_int (nomark _)) (pw_and1 (pt_cmpR op_notN (pv 2) pe_non (nomark _)))))
      (pss_one (ps_ret (pe_callB (call_max2 rfl) (by rfl) T.n_max (by decide +kernel) (pa_cons pe_int (pa_cons (pe_op op_sub (pe_op op_add (pv 2) pe_int) (c_call (ok__law_take T) (hr.mono (by decide)) T.g__law_take T.k__law_take takes0 (pa_cons (pv 0) (pa_cons pe_int pa_nil)))) pa_nil)))))
      pss_nil)
      (pss_cons (ps_if (pt_cmpR op_eq (pv 3) pe_int (nomark _))
      (pss_one (ps_ret (c_call (ok__law_great T) (hr.mono (by decide)) T.g__law_great T.k__law_great takes0 (pa_cons (pv 0) (pa_cons (pe_op op_pow pe_int pe_int) pa_nil)))))
      pss_nil)
      (pss_one (ps_ret (pe_callB (call_max2 rfl) (by rfl) T.n_max (by decide +kernel) (pa_cons pe_int (pa_cons (pe_op op_add (pe_op op_sub (pv 1) pe_int) (c_call (ok__law_take T) (hr.mono (by decide)) T.g__law_take T.k__law_take takes0 (pa_cons (pv 0) (pa_cons pe_int pa_nil)))) pa_nil))))))))), ?_⟩
    refine ⟨_, rfl, p, 6, rfl, hp, by decide, by decide, fun way H1 w0 w1 P1 => ?_⟩
    refine ⟨_, rfl, rfl, _, rfl, ite2 (fun _ => ?_) (fun _ => ?_)⟩
    · refine ⟨_, rfl, p, 30, rfl, P1.1, by decide, by decide, fun d H2 d0 d1 P2 => ?_⟩
      obtain ⟨m, rfl⟩ := Int.eq_ofNat_of_zero_le d0
      exact q m H2 (Nat.lt_trans (show m < 30 by omega) (by decide +kernel)) (P1.trans P2)
    · refine ⟨fun σ' H' => H' = H1 ∧ σ' = [some (.ref p), some (.int lo), some (optV hi), some (.int way)], ?_, ?_⟩
      · refine ⟨_, rfl, rfl, _, rfl, ite2 (fun _ => ?_) (fun _ => ?_)⟩
        · refine ⟨_, rfl, rfl, _, rfl, ?_⟩
          cases hi with
          | none => exact ⟨rfl, rfl⟩
          | some t =>
            have ht := hhi t rfl
            refine ⟨_, rfl, _, _, rfl, rfl, _, rfl, p, 12, rfl, P1.1, by decide, by decide, fun d H2 d0 d1 P2 => ⟨_, _, rfl, rfl, _, _, rfl, ?_⟩⟩
            have e : (if ((t : Nat) : Int) + 5 - d > 0 then ((t : Nat) : Int) + 5 - d else 0) = (((((t : Nat) : Int) + 5 - d).toNat : Nat) : Int) := by split <;> omega
            rw [e]
            exact q _ H2 (by omega) (P1.trans P2)
        · exact ⟨rfl, rfl⟩
      rintro σ' H2 ⟨rfl, rfl⟩
      refine ⟨_, rfl, rfl, _, rfl, ite2 (fun _ => ?_) (fun _ => ?_)⟩
      · refine ⟨_, rfl, _, _, rfl, rfl, ⟨by decide, by decide, by decide⟩, p, _, rfl, P1.1, by decide, fun d H2 d0 d1 P2 => ?_⟩
        obtain ⟨m, rfl⟩ := Int.eq_ofNat_of_zero_le d0
        have d2 : (m : Int) < 10 ^ 50 := d1
        exact q m H2 (by omega) (P1.trans P2)
      · refine ⟨_, rfl, _, _, rfl, rfl, _, rfl, p, 25, rfl, P1.1, by decide, by decide, fun d H2 d0 d1 P2 => ⟨_, _, rfl, rfl, _, _, rfl, ?_⟩⟩
        have e : (if ((lo : Nat) : Int) - 3 + d > 0 then ((lo : Nat) : Int) - 3 + d else 0) = (((((lo : Nat) : Int) - 3 + d).toNat : Nat) : Int) := by split <;> omega
        rw [e]
        exact q _ H2 (by omega) (P1.trans P2)

theorem ok__law_near {P : Program} {w : World} {K : PySem.W.Frag} {mg : Str → Option Value} {base : Heap} (T : Env K mg) : Fc P w K mg base 3 (He.ga K "_law_near") [] (sp__law_near K) := by
  obtain ⟨fd, D, F⟩ := fb__law_near T
  exact F.all (D.bindsN fun _ _ _ _ _ _ us hl => match us, hl with | [_, _, _], _ => rfl)
end
section
def sp__law_few (K : PySem.W.Frag) : Sp := fun vs H Q _ => ∃ (p : Addr) (lo : Nat) (hi : Option Nat) (tk : Addr) (ts : List Nat), vs = [.ref p, .int lo, optV hi, .ref tk] ∧ Pot H p ∧ lo < 10 ^ 52 ∧ optLt hi (10 ^ 52) ∧ H tk = some (.lst (natV ts)) ∧ tk ≠ p ∧ ts.length ≤ 100 ∧
  ∀ (a : Addr) (ns : List Nat) H', H a = none → H' a = some (.lst (natV ns)) → a ≠ p → ns.length ≤ 8 → ns.Nodup → (∀ n ∈ ns, n < 10 ^ 53 ∧ n ∉ ts) → PotOn H H' p → Q (.ref a) H'
theorem fb__law_few {P : Program} {w : World} {K : PySem.W.Frag} {mg : Str → Option Value} {base : Heap} (T : Env K mg) : ∃ fd, FunD K "_law_few" "_law_few" (defArgs s__law_few) (defBody s__law_few) (defScope s__law_few) [] [] (He.ga K "_law_few") fd ∧ Fb P w K mg base 4 (He.ga K "_law_few") fd ["_law_pot_here", "_law_low", "_law_high", "_law_taken"] (sp__law_few K) := by
  obtain ⟨fd, F⟩ := T.f__law_few
  refine ⟨fd, F, fb_of F sc__law_few (fun vs H Q E h => ?_) (fun cdv A outer s H vs Q E hr h => ?_)⟩
  · obtain ⟨p, lo, hi, tk, ts, rfl, _⟩ := h
    rfl
  · obtain ⟨p, lo, hi, tk, ts, rfl, hp, hlo, hhi, htk, ntk, lts, q⟩ := h
    refine ⟨_, (pss_cons (ps_set (i := 4) sc__law_few.nd rfl (Or.inl rfl) (pe_lst pa_nil))
      (pss_cons (ps_for (passes_of rfl) rfl (pi_range1 (by rfl) T.n_range (pa_cons (pe_ix ix_list (pe_lst (pa_cons pe_int (pa_cons pe_int (pa_cons pe_int (pa_cons pe_int (pa_cons pe_int (pa_cons pe_int (pa_cons pe_int (pa_cons pe_int pa_nil))))))))) (c_call (ok__law_take T) (hr.mono (by decide)) T.g__law_take T.k__law_take takes0 (pa_cons (pv 0) (pa_cons pe_int pa_nil))) (fun _ _ => rfl)) pa_nil)) (pg_name (i := 5) sc__law_few.nd rfl (Or.inl rfl))
      (pss_cons (ps_set (i := 6) sc__law_few.nd rfl (Or.inl rfl) (c_call (ok__law_near T) (hr.mono (by decide)) T.g__law_near T.k__law_near takes0 (pa_cons (pv 0) (pa_cons (pv 1) (pa_cons (pv 2) pa_nil)))))
      (pss_one (ps_if (pt_cmpR op_notIn_seq (pv 6) (pe_op op_cat (pv 4) (pv 3)) (by rfl))
      (pss_one (ps_expr (pe_bm PySem.F.plainAttrs_list PySem.F.slot_list_append PySem.F.type_list_append mt_append (pv 4) (pa_cons (pv 6) pa_nil))))
      pss_nil))))
      (pss_one (ps_ret (pv 4))))), ?_⟩
    refine ⟨by show 0 ≤ sizeLine; decide, fun f nf => ?_⟩
    have fp : f ≠ p := pot_ne (.refl hp) nf
    have P1 := fun o => pot_new (o := o) (.refl hp) nf
    refine ⟨by show 8 ≤ sizeLine; decide, fun l nl => ?_⟩
    have lp : l ≠ p := pot_ne (P1 _) nl
    have P2 := fun o => pot_new (o := o) (P1 _) nl
    refine ⟨_, rfl, p, 8, rfl, (P2 _).1, by decide, by decide, fun d H3 d0 d1 P3 => ?_⟩
    obtain ⟨x, hx, ex⟩ := at_mem (xs := [.int 0, .int 0, .int 1, .int 2, .int 3, .int 5, .int 8, .int 8]) d0 (by show d < 8; exact d1)
    refine ⟨l, _, _, x, rfl, rfl, sq_lst (P3.2 _ _ lp upd_same), ex, ?_⟩
    have hc : ∃ c : Nat, x = .int (c : Int) ∧ c ≤ 8 := by
      simp only [List.mem_cons, List.not_mem_nil, or_false] at hx
      rcases hx with rfl | rfl | rfl | rfl | rfl | rfl | rfl | rfl
      · exact ⟨0, rfl, by decide⟩
      · exact ⟨0, rfl, by decide⟩
      · exact ⟨1, rfl, by decide⟩
      · exact ⟨2, rfl, by decide⟩
      · exact ⟨3, rfl, by decide⟩
      · exact ⟨5, rfl, by decide⟩
      · exact ⟨8, rfl, by decide⟩
      · exact ⟨8, rfl, by decide⟩
    obtain ⟨c, rfl, c8⟩ := hc
    have hf3 := P3.2 _ _ fp (ex_new nl _ _ upd_same)
    refine ⟨_, rfl, by omega, by omega, for_range (fun i σ H' => PotOn H H' p ∧ ∃ (ns : List Nat) (v5 v6 : Option V), σ = [some (.ref p), some (.int lo), some (optV hi), some (.ref tk), some (.ref f), v5, v6] ∧ H' f = some (.lst (natV ns)) ∧ ns.length ≤ i ∧ ns.Nodup ∧ ∀ n ∈ ns, n < 10 ^ 53 ∧ n ∉ ts) ⟨(P2 _).trans P3, [], _, _, rfl, hf3, Nat.le_refl _, List.nodup_nil, fun n hn => absurd hn (by simp)⟩ ?_ ?_⟩
    · rintro i σ H4 hi4 ⟨P4, ns, v5, v6, rfl, h4, ln, nd, hb⟩
      have i8 : i < 8 := by omega
      refine ⟨_, rfl, _, rfl, _, rfl, p, lo, hi, rfl, P4.1, hlo, hhi, fun n H5 hn P5 => ?_⟩
      have P45 := P4.trans P5
      have hf5 := P5.2 _ _ fp h4
      have ht5 := P45.2 _ _ ntk htk
      refine ⟨_, rfl, _, rfl, _, rfl, f, tk, _, _, rfl, rfl, hf5, ht5, ?_, fun c2 nc => ?_⟩
      · rw [natV_len, natV_len]
        exact Nat.le_of_lt (small_len (by omega))
      have ea : natV ns ++ natV ts = natV (ns ++ ts) := by
        unfold natV
        rw [List.map_append]
      rw [ea]
      refine ⟨c2, _, rfl, .inl (sq_lst upd_same), rfl, flat_nat _, _, rfl, ?_⟩
      have P6 := fun o => pot_new (o := o) P45 nc
      have hf6 := fun o => ex_new (o := o) nc _ _ hf5
      rw [inV_nat]
      by_cases hm : n ∈ ns ++ ts
      · rw [decide_eq_true hm]
        exact ⟨P6 _, ns, _, _, rfl, hf6 _, by omega, nd, hb⟩
      · rw [decide_eq_false hm]
        refine ⟨_, rfl, .inl ⟨rfl, _, sq_lst (hf6 _)⟩, _, rfl, f, _, _, rfl, rfl, hf6 _, small_len (by rw [natV_len]; omega), ?_⟩
        refine ⟨pot_upd (P6 _) nf fp, ns ++ [n], _, _, rfl, ?_, by simp; omega, ?_, ?_⟩
        · rw [upd_same]
          unfold natV
          simp
        · exact List.nodup_append.mpr ⟨nd, by simp, fun a ha b hb e => by simp at hb; subst hb; subst e; exact hm (List.mem_append_left _ ha)⟩
        · intro m hmm
          rcases List.mem_append.mp hmm with hmm | hmm
          · exact hb m hmm
          · simp at hmm
            subst hmm
            exact ⟨hn, fun z => hm (List.mem_append_right _ z)⟩
    · rintro σ H4 ⟨P4, ns, v5, v6, rfl, h4, ln, nd, hb⟩
      exact ⟨_, rfl, q f ns H4 nf h4 fp (by omega) nd hb P4⟩

theorem ok__law_few {P : Program} {w : World} {K : PySem.W.Frag} {mg : Str → Option Value} {base : Heap} (T : Env K mg) : Fc P w K mg base 4 (He.ga K "_law_few") [] (sp__law_few K) := by
  obtain ⟨fd, D, F⟩ := fb__law_few T
  exact F.all (D.bindsN fun _ _ _ _ _ _ us hl => match us, hl with | [_, _, _, _], _ => rfl)
end
section
def DaysD.lt (D : DaysD) : Prop := D.since < 10 ^ 52 ∧ optLt D.till (10 ^ 52) ∧ (∀ n ∈ D.out, n < 10 ^ 53) ∧ ∀ n ∈ D.also, n < 10 ^ 53
/-- at t what a law has drawn for days -/
def SomeAt (H : Hp) (t g m : Addr) (D : DaysD) : Prop := H t = some (.tup [.str (SX.S D.bits), .int (D.since : Nat), optV D.till, .ref g, .ref m]) ∧ H g = some (.lst (natV D.out)) ∧ H m = some (.lst (natV D.also))
theorem SomeAt.mono {H H' : Hp} {t g m : Addr} {D : DaysD} (h : SomeAt H t g m D) (e : Ex H H') : SomeAt H' t g m D := ⟨e _ _ h.1, e _ _ h.2.1, e _ _ h.2.2⟩
theorem rr_bb {K : PySem.W.Frag} {H : Hp} {q : Addr} {bb : Bool} {Q : VK} (e : H q = some (.lst [.bl bb, .bl bb])) (k : Q (.str (PyData.shown (.list [.bool bb, .bool bb]))) H) : rRepr K [.ref q] H Q := by
  refine rr_data (.lst (sq_lst e) (.cons (.bl _) (.cons (.bl _) .nil))) ?_ ?_ ?_ k
  · cases bb <;> decide +kernel
  · cases bb <;> decide +kernel
  · cases bb <;> decide +kernel
/-- truths, as data -/
theorem dp_bools (K : PySem.W.Frag) (H : Hp) : ∀ bs : List Bool, DpAll K H (bs.map V.bl) (bs.map PyData.bool)
  | [] => .nil
  | b :: bs => .cons (.bl b) (dp_bools K H bs)
theorem bools_shaped (bs : List Bool) : SeqAt.shaped (.list (bs.map PyData.bool)) = true := by
  have h1 : ∀ bs : List Bool, PyData.canLayAll0 (bs.map PyData.bool) = true := fun bs => by
    induction bs with
    | nil => rfl
    | cons b r ih =>
      show (true && PyData.canLayAll0 (r.map PyData.bool)) = true
      rw [ih]
      rfl
  have h2 : ∀ bs : List Bool, PyData.depthAll (bs.map PyData.bool) = 0 := fun bs => by
    induction bs with
    | nil => rfl
    | cons b r ih =>
      show max 0 (PyData.depthAll (r.map PyData.bool)) = 0
      rw [ih]
      rfl
  show (PyData.canLayAll0 (bs.map PyData.bool) && decide (PyData.depthAll (bs.map PyData.bool) + 1 ≤ 64)) = true
  rw [h1, h2]
  rfl
theorem bools_eqv : ∀ bs : List Bool, PyData.eqvAll (bs.map PyData.bool) (bs.map PyData.bool) = true
  | [] => rfl
  | b :: bs => by
    show ((b == b) && PyData.eqvAll (bs.map PyData.bool) (bs.map PyData.bool)) = true
    rw [bools_eqv bs]
    cases b <;> rfl
/-- repr([since, till]) -/
theorem rr_since {K : PySem.W.Frag} {H : Hp} {q : Addr} {s : Nat} {o : Option Nat} {Q : VK} (hs : s < 10 ^ 52) (ho : optLt o (10 ^ 52)) (e : H q = some (.lst [.int (s : Nat), optV o])) (k : Q (.str (PyData.shown (.list [.int (s : Nat), optD o]))) H) : rRepr K [.ref q] H Q := by
  have i1 := okI_nat hs (by decide)
  refine rr_data (.lst (sq_lst e) (.cons (.int _) (.cons (dp_opt o) .nil))) ?_ ?_ ?_ k
  · show (okI ((s : Nat) : Int) && (okD (optD o) && true)) = true
    rw [i1]
    cases o with
    | none => rfl
    | some n =>
      show (true && (okI ((n : Nat) : Int) && true)) = true
      rw [okI_nat (ho n rfl) (by decide)]
      rfl
  · cases o <;> exact Nat.le_of_ble_eq_true rfl
  · cases o <;> exact Nat.le_of_ble_eq_true rfl
/-- repr of a list of two tuples of days -/
theorem rr_days {K : PySem.W.Frag} {H : Hp} {q a b : Addr} {xs ys : List Nat} {Q : VK} (hx : ∀ n ∈ xs, n < 10 ^ 53) (hy : ∀ n ∈ ys, n < 10 ^ 53) (lx : xs.length ≤ 1000) (ly : ys.length ≤ 1000) (ha : H a = some (.tup (natV xs))) (hb : H b = some (.tup (natV ys))) (e : H q = some (.lst [.ref a, .ref b]))
    (k : Q (.str (PyData.shown (.list [.tuple (natD xs), .tuple (natD ys)]))) H) : rRepr K [.ref q] H Q := by
  refine rr_data (.lst (sq_lst e) (.cons (.tup (sq_tup ha) (dp_nat K H xs)) (.cons (.tup (sq_tup hb) (dp_nat K H ys)) .nil))) ?_ ?_ ?_ k
  · show (okL (natD xs) && (okL (natD ys) && true)) = true
    rw [natD_ok (by decide) xs hx, natD_ok (by decide) ys hy]
    rfl
  · show (szL (natD xs) + 3) + 2 + ((szL (natD ys) + 3) + 2 + 0) + 3 ≤ 16000000
    rw [natD_sz, natD_sz]
    omega
  · show max (PyData.depthAll (natD xs) + 1) (max (PyData.depthAll (natD ys) + 1) 0) + 1 ≤ 60
    rw [natD_dep, natD_dep]
    decide
def sp__law_some (K : PySem.W.Frag) : Sp := fun vs H Q _ => ∃ (p : Addr), vs = [.ref p] ∧ Pot H p ∧ ∀ (t g m : Addr) (D : DaysD) H', SomeAt H' t g m D → D.ok → D.lt → H t = none → H g = none → H m = none → t ≠ p → g ≠ p → m ≠ p → PotOn H H' p → Q (.ref t) H'
theorem fb__law_some {P : Program} {w : World} {K : PySem.W.Frag} {mg : Str → Option Value} {base : Heap} (T : Env K mg) : ∃ fd, FunD K "_law_some" "_law_some" (defArgs s__law_some) (defBody s__law_some) (defScope s__law_some) [] [] (He.ga K "_law_some") fd ∧ Fb P w K mg base 5 (He.ga K "_law_some") fd ["_law_pot_here"] (sp__law_some K) := by
  obtain ⟨fd, F⟩ := T.f__law_some
  refine ⟨fd, F, fb_of F sc__law_some (fun vs H Q E h => ?_) (fun cdv A outer s H vs Q E hr h => ?_)⟩
  · obtain ⟨p, rfl, _⟩ := h
    rfl
  · obtain ⟨p, rfl, hp, q⟩ := h
    refine ⟨_, (pss_cons (ps_set (i := 1) sc__law_some.nd rfl (Or.inl rfl) (c_call (ok__law_take T) (hr.mono (by decide)) T.g__law_take T.k__law_take takes0 (pa_cons (pv 0) (pa_cons pe_int pa_nil))))
      (pss_cons (ps_set (i := 2) sc__law_some.nd rfl (Or.inl rfl) (c_call (ok__law_bits T) (hr.mono (by decide)) T.g__law_bits T.k__law_bits takes0 (pa_cons (pv 0) pa_nil)))
      (pss_cons (ps_set (i := 3) sc__law_some.nd rfl (Or.inl rfl) pe_int)
      (Evl.pss_cut (ps_if (pt_cmpR op_eq (pe_op op_mod (pv 1) pe_int) pe_int (nomark _))
      (pss_one (ps_set (i := 3) sc__law_some.nd rfl (Or.inl rfl) (c_call (ok__law_take T) (hr.mono (by decide)) T.g__law_take T.k__law_take takes0 (pa_cons (pv 0) (pa_cons pe_int pa_nil)))))
      pss_nil)
      (Evl.pss_cut (ps_if (pt_cmpR op_eq (pe_op op_mod (pv 1) pe_int) pe_int (nomark _))
      (pss_one (ps_set (i := 3) sc__law_some.nd rfl (Or.inl rfl) (c_call (ok__law_great T) (hr.mono (by decide)) T.g__law_great T.k__law_great takes0 (pa_cons (pv 0) (pa_cons (pe_op op_pow pe_int pe_int) pa_nil)))))
      pss_nil)
      (pss_cons (ps_set (i := 4) sc__law_some.nd rfl (Or.inl rfl) pe_non)
      (Evl.pss_cut (ps_if (pt_cmpR op_eq (pe_op op_fdiv (pv 1) pe_int) pe_int (nomark _))
      (pss_one (ps_set (i := 4) sc__law_some.nd rfl (Or.inl rfl) (pe_op op_add (pv 3) (c_call (ok__law_take T) (hr.mono (by decide)) T.g__law_take T.k__law_take takes0 (pa_cons (pv 0) (pa_cons pe_int pa_nil))))))
      pss_nil)
      (Evl.pss_cut (ps_if (pt_cmpR op_eq (pe_op op_fdiv (pv 1) pe_int) pe_int (nomark _))
      (pss_one (ps_set (i := 4) sc__law_some.nd rfl (Or.inl rfl) (pe_op op_add (pv 3) (c_call (ok__law_great T) (hr.mono (by decide)) T.g__law_great T.k__law_great takes0 (pa_cons (pv 0) (pa_cons (pe_op op_pow pe_int pe_int) pa_nil))))))
      pss_nil)
      (pss_cons (ps_set (i := 5) sc__law_some.nd rfl (Or.inl rfl) (c_call (ok__law_few T) (hr.mono (by decide)) T.g__law_few T.k__law_few takes0 (pa_cons (pv 0) (pa_cons (pv 3) (pa_cons (pv 4) (pa_cons (pe_lst pa_nil) pa_nil))))))
      (pss_one (ps_ret (pe_tup (pa_cons (pv 2) (pa_cons (pv 3) (pa_cons (pv 4) (pa_cons (pv 5) (pa_cons (c_call (ok__law_few T) (hr.mono (by decide)) T.g__law_few T.k__law_few takes0 (pa_cons (pv 0) (pa_cons (pv 3) (pa_cons (pv 4) (pa_cons (pv 5) pa_nil))))) pa_nil))))))))))))))))), ?_⟩
    refine ⟨_, rfl, p, 9, rfl, hp, by decide, by decide, fun way H1 w0 w1 P1 => ?_⟩
    refine ⟨_, rfl, p, rfl, P1.1, fun l H2 hs P2 => ?_⟩
    have P12 := P1.trans P2
    refine ⟨fun σ' H' => PotOn H H' p ∧ ∃ lo : Nat, σ' = [some (.ref p), some (.int way), some (.str (SX.S l)), some (.int lo), none, none] ∧ lo < 10 ^ 51, ?_, ?_⟩
    · refine ⟨_, rfl, _, _, rfl, rfl, by show (0 : Int) < 3; decide, rfl, _, rfl, ite2 (fun _ => ?_) (fun _ => ?_)⟩
      · refine ⟨_, rfl, p, 40, rfl, P12.1, by decide, by decide, fun d H3 d0 d1 P3 => ?_⟩
        obtain ⟨m, rfl⟩ := Int.eq_ofNat_of_zero_le d0
        exact ⟨P12.trans P3, m, rfl, Nat.lt_trans (show m < 40 by omega) (by decide +kernel)⟩
      · exact ⟨P12, 0, rfl, by decide +kernel⟩
    rintro σ' H3 ⟨P3, lo, rfl, hlo⟩
    refine ⟨fun σ' H' => PotOn H H' p ∧ ∃ lo : Nat, σ' = [some (.ref p), some (.int way), some (.str (SX.S l)), some (.int lo), none, none] ∧ lo < 10 ^ 51, ?_, ?_⟩
    · refine ⟨_, rfl, _, _, rfl, rfl, by show (0 : Int) < 3; decide, rfl, _, rfl, ite2 (fun _ => ?_) (fun _ => ?_)⟩
      · refine ⟨_, rfl, _, _, rfl, rfl, ⟨by decide, by decide, by decide⟩, p, _, rfl, P3.1, by decide, fun d H4 d0 d1 P4 => ?_⟩
        obtain ⟨m, rfl⟩ := Int.eq_ofNat_of_zero_le d0
        have d2 : (m : Int) < 10 ^ 50 := d1
        exact ⟨P3.trans P4, m, rfl, by omega⟩
      · exact ⟨P3, lo, rfl, hlo⟩
    clear hlo P3
    rintro σ' H4 ⟨P4, lo, rfl, hlo⟩
    refine ⟨fun σ' H' => PotOn H H' p ∧ ∃ hi : Option Nat, σ' = [some (.ref p), some (.int way), some (.str (SX.S l)), some (.int lo), some (optV hi), none] ∧ ∀ u, hi = some u → lo ≤ u ∧ u < 10 ^ 52, ?_, ?_⟩
    · refine ⟨_, rfl, _, _, rfl, rfl, ⟨by decide, by decide⟩, rfl, _, rfl, ite2 (fun _ => ?_) (fun _ => ?_)⟩
      · refine ⟨_, rfl, _, rfl, p, 30, rfl, P4.1, by decide, by decide, fun d H5 d0 d1 P5 => ⟨_, _, rfl, rfl, ?_⟩⟩
        obtain ⟨m, rfl⟩ := Int.eq_ofNat_of_zero_le d0
        exact ⟨P4.trans P5, some (lo + m), rfl, fun u hu => by cases hu; omega⟩
      · exact ⟨P4, none, rfl, fun u hu => by cases hu⟩
    rintro σ' H5 ⟨P5, hi, rfl, hhi⟩
    refine ⟨fun σ' H' => PotOn H H' p ∧ ∃ hi : Option Nat, σ' = [some (.ref p), some (.int way), some (.str (SX.S l)), some (.int lo), some (optV hi), none] ∧ ∀ u, hi = some u → lo ≤ u ∧ u < 10 ^ 52, ?_, ?_⟩
    · refine ⟨_, rfl, _, _, rfl, rfl, ⟨by decide, by decide⟩, rfl, _, rfl, ite2 (fun _ => ?_) (fun _ => ?_)⟩
      · refine ⟨_, rfl, _, rfl, _, _, rfl, rfl, ⟨by decide, by decide, by decide⟩, p, _, rfl, P5.1, by decide, fun d H6 d0 d1 P6 => ⟨_, _, rfl, rfl, ?_⟩⟩
        obtain ⟨m, rfl⟩ := Int.eq_ofNat_of_zero_le d0
        have d2 : (m : Int) < 10 ^ 49 := d1
        exact ⟨P5.trans P6, some (lo + m), rfl, fun u hu => by cases hu; omega⟩
      · exact ⟨P5, hi, rfl, hhi⟩
    clear hhi P5
    rintro σ' H6 ⟨P6, hi, rfl, hhi⟩
    have hb : optLt hi (10 ^ 52) := fun u hu => (hhi u hu).2
    refine ⟨_, rfl, _, rfl, _, rfl, by show 0 ≤ sizeLine; decide, fun e ne => ?_⟩
    have ep := pot_ne P6 ne
    have P7 := pot_new (o := .lst []) P6 ne
    refine ⟨p, lo, hi, e, [], rfl, P7.1, by omega, hb, upd_same, ep, by decide, fun g os H8 ng hg gp lg ndg hbg P8 => ?_⟩
    have P68 := P7.trans P8
    refine ⟨_, rfl, _, rfl, _, rfl, _, rfl, _, rfl, _, rfl, _, rfl, _, rfl, p, lo, hi, g, os, rfl, P68.1, by omega, hb, hg, gp, by omega, fun m as H9 nm hm mp lm ndm hbm P9 => ?_⟩
    refine ⟨by show 5 ≤ sizeLine; decide, fun t nt => ?_⟩
    have P69 := P68.trans P9
    have g9 := P9.2 _ _ gp hg
    refine q t g m ⟨l, lo, hi, os, as⟩ _ ⟨upd_same, ex_new nt _ _ g9, ex_new nt _ _ hm⟩ ⟨hs, fun u hu => (hhi u hu).1, lg, lm, ndg, ndm, fun n hn => (hbm n hn).2⟩ ⟨by show lo < 10 ^ 52; omega, hb, fun n hn => (hbg n hn).1, fun n hn => (hbm n hn).1⟩ ?_ ?_ ?_ ?_ gp mp (pot_new P69 nt)
    · exact P69.fresh nt
    · exact P7.fresh ng
    · exact P68.fresh nm
    · exact pot_ne P69 nt

theorem ok__law_some {P : Program} {w : World} {K : PySem.W.Frag} {mg : Str → Option Value} {base : Heap} (T : Env K mg) : Fc P w K mg base 5 (He.ga K "_law_some") [] (sp__law_some K) := by
  obtain ⟨fd, D, F⟩ := fb__law_some T
  exact F.all (D.bindsN fun _ _ _ _ _ _ us hl => match us, hl with | [_], _ => rfl)
end
section
def sp__law_has (K : PySem.W.Frag) : Sp := fun vs H Q _ => ∃ (t g m : Addr) (D : DaysD) (d : Nat), vs = [.ref t, .int d] ∧ SomeAt H t g m D ∧ D.ok ∧ Q (.bl (dHas D d)) H
theorem fb__law_has {P : Program} {w : World} {K : PySem.W.Frag} {mg : Str → Option Value} {base : Heap} (T : Env K mg) : ∃ fd, FunD K "_law_has" "_law_has" (defArgs s__law_has) (defBody s__law_has) (defScope s__law_has) [] [] (He.ga K "_law_has") fd ∧ Fb P w K mg base 1 (He.ga K "_law_has") fd ["_law_some_here", "_law_spot"] (sp__law_has K) := by
  obtain ⟨fd, F⟩ := T.f__law_has
  refine ⟨fd, F, fb_of F sc__law_has (fun vs H Q E h => ?_) (fun cdv A outer s H vs Q E hr h => ?_)⟩
  · obtain ⟨t, g, m, D, d, rfl, _⟩ := h
    rfl
  · obtain ⟨t, g, m, D, d, rfl, hS, hD, q⟩ := h
    refine ⟨_, (pss_cons (ps_asg (pv 0) (pg_tup (by rfl) (pgs_cons (pg_name (i := 2) sc__law_has.nd rfl (Or.inl rfl)) (pgs_cons (pg_name (i := 3) sc__law_has.nd rfl (Or.inl rfl)) (pgs_cons (pg_name (i := 4) sc__law_has.nd rfl (Or.inl rfl)) (pgs_cons (pg_name (i := 5) sc__law_has.nd rfl (Or.inl rfl)) (pgs_cons (pg_name (i := 6) sc__law_has.nd rfl (Or.inl rfl)) pgs_nil)))))))
      (pss_cons (ps_if (pt_cmpR op_in_seq (pv 1) (pv 6) (by rfl))
      (pss_one (ps_ret pe_bl))
      pss_nil)
      (Evl.pss_cut (ps_if (PW.pt (pw_or (pt_cmpR op_lt (pv 1) (pv 3) (nomark _)) (pw_or (PW.pt (pw_and (pt_cmpR op_notN (pv 4) pe_non (nomark _)) (pw_and1 (pt_cmpR op_gt (pv 1) (pv 4) (nomark _))))) (pw_or1 (pt_cmpR op_in_seq (pv 1) (pv 5) (by rfl))))))
      (pss_one (ps_ret pe_bl))
      pss_nil)
      (pss_one (ps_ret (pe_cmpR op_eq (pe_ix ix_str (pv 2) (pe_op op_mod (pv 1) (pe_callB call_len (by rfl) T.n_len (by decide +kernel) (pa_cons (pv 2) pa_nil))) (fun _ _ => rfl)) pe_str (nomark _))))))), ?_⟩
    obtain ⟨h1, h3, h4⟩ := hS
    obtain ⟨hs, ht, _⟩ := hD
    have h7 : 1 ≤ D.bits.length ∧ D.bits.length ≤ 7 := of_decide_eq_true (Bool.and_eq_true_iff.mp hs).1
    have ls : (SX.S D.bits).length ≤ sizeLine := Nat.le_of_lt (small_len (by rw [SX.S_len]; omega))
    refine ⟨_, rfl, t, _, rfl, sq_tup h1, rfl, _, _, rfl, _, _, rfl, _, _, rfl, _, _, rfl, _, _, rfl, rfl, ?_⟩
    refine ⟨_, rfl, _, rfl, m, _, rfl, .inl (sq_lst h4), rfl, flat_nat _, _, rfl, ?_⟩
    rw [inV_nat]
    by_cases c1 : d ∈ D.also
    · rw [decide_eq_true c1]
      rw [show dHas D d = true by unfold dHas; rw [decide_eq_true c1]; rfl] at q
      exact q
    · rw [decide_eq_false c1]
      refine iteF ?_
      refine ⟨fun σ' H' => H' = H ∧ σ' = [some (.ref t), some (.int d), some (.str (SX.S D.bits)), some (.int D.since), some (optV D.till), some (.ref g), some (.ref m)] ∧ dHas D d = (D.bits.getD (d % D.bits.length) 0 == 49), ?_, ?_⟩
      · refine ⟨_, rfl, _, rfl, _, _, rfl, rfl, _, rfl, ?_⟩
        by_cases c2 : d < D.since
        · rw [decide_eq_true (show ((d : Nat) : Int) < ((D.since : Nat) : Int) by omega)]
          rw [show dHas D d = false by unfold dHas; rw [decide_eq_false c1, decide_eq_true c2]; rfl] at q
          exact q
        · rw [decide_eq_false (show ¬ ((d : Nat) : Int) < ((D.since : Nat) : Int) by omega)]
          refine iteF ?_
          cases hT : D.till with
          | none =>
            refine ⟨_, rfl, rfl, _, rfl, ?_⟩
            refine ⟨_, rfl, _, rfl, g, _, rfl, .inl (sq_lst h3), rfl, flat_nat _, _, rfl, ?_⟩
            rw [inV_nat]
            by_cases c3 : d ∈ D.out
            · rw [decide_eq_true c3]
              rw [show dHas D d = false by unfold dHas; rw [hT, decide_eq_false c1, decide_eq_true c3, Bool.or_true, Bool.or_true]; rfl] at q
              exact q
            · rw [decide_eq_false c3]
              exact ⟨rfl, rfl, by unfold dHas; rw [hT, decide_eq_false c1, decide_eq_false c2, decide_eq_false c3]; rfl⟩
          | some u =>
            refine ⟨_, rfl, rfl, _, rfl, iteT ?_⟩
            refine ⟨_, rfl, _, rfl, _, _, rfl, rfl, _, rfl, ?_⟩
            by_cases c4 : u < d
            · rw [decide_eq_true (show ((u : Nat) : Int) < ((d : Nat) : Int) by omega)]
              rw [show dHas D d = false by unfold dHas; rw [hT, decide_eq_false c1, decide_eq_false c2]; show (false || (!(false || (decide (u < d) || decide (d ∈ D.out))) && _)) = false; rw [decide_eq_true c4]; rfl] at q
              exact q
            · rw [decide_eq_false (show ¬ ((u : Nat) : Int) < ((d : Nat) : Int) by omega)]
              refine ⟨_, rfl, _, rfl, g, _, rfl, .inl (sq_lst h3), rfl, flat_nat _, _, rfl, ?_⟩
              rw [inV_nat]
              by_cases c3 : d ∈ D.out
              · rw [decide_eq_true c3]
                rw [show dHas D d = false by unfold dHas; rw [hT, decide_eq_false c1, decide_eq_true c3, Bool.or_true, Bool.or_true]; rfl] at q
                exact q
              · rw [decide_eq_false c3]
                exact ⟨rfl, rfl, by unfold dHas; rw [hT, decide_eq_false c1, decide_eq_false c2]; show (false || (!(false || (decide (u < d) || decide (d ∈ D.out))) && _)) = _; rw [decide_eq_false c4, decide_eq_false c3]; rfl⟩
      rintro σ' H' ⟨rfl, rfl, eq⟩
      obtain ⟨c, ec, dc⟩ := sgn_at (d := d) hs
      refine ⟨_, rfl, _, rfl, _, rfl, _, D.bits.length, rfl, ⟨ls, (SX.S_len D.bits).symm⟩, _, _, rfl, rfl, (by show (0 : Int) < D.bits.length; omega), ?_⟩
      refine ⟨_, _, c, rfl, rfl, ls, ec, rfl, ?_⟩
      rw [dc, ← eq]
      exact q

theorem ok__law_has {P : Program} {w : World} {K : PySem.W.Frag} {mg : Str → Option Value} {base : Heap} (T : Env K mg) : Fc P w K mg base 1 (He.ga K "_law_has") [] (sp__law_has K) := by
  obtain ⟨fd, D, F⟩ := fb__law_has T
  exact F.all (D.bindsN fun _ _ _ _ _ _ us hl => match us, hl with | [_, _], _ => rfl)
end
section
def sp__law_made (K : PySem.W.Frag) : Sp := fun vs H Q _ => ∃ (t g m : Addr) (D : DaysD), vs = [.ref t] ∧ SomeAt H t g m D ∧ D.ok ∧ ∀ x H', Ex H H' → H x = none → DaysAt K H' x D → Q (.ref x) H'
theorem fb__law_made {P : Program} {w : World} {K : PySem.W.Frag} {mg : Str → Option Value} {base : Heap} (T : Env K mg) : ∃ fd, FunD K "_law_made" "_law_made" (defArgs s__law_made) (defBody s__law_made) (defScope s__law_made) [] [] (He.ga K "_law_made") fd ∧ Fb P w K mg base 7 (He.ga K "_law_made") fd ["_law_some_here"] (sp__law_made K) := by
  obtain ⟨fd, F⟩ := T.f__law_made
  refine ⟨fd, F, fb_of F sc__law_made (fun vs H Q E h => ?_) (fun cdv A outer s H vs Q E hr h => ?_)⟩
  · obtain ⟨t, g, m, D, rfl, _⟩ := h
    rfl
  · obtain ⟨t, g, m, D, rfl, hS, hD, q⟩ := h
    refine ⟨_, (pss_one (ps_ret (c_make T.mk_Days (ok_Days_init T) (hr.mono (by decide)) T.g_Days takes0 (pa_cons (c_make T.mk_Ring (ok_Ring_init T) (hr.mono (by decide)) T.g_Ring takes0 (pa_cons (pe_ix ix_tup (pv 0) pe_int (fun _ _ => rfl)) pa_nil)) (pa_cons (pe_ix ix_tup (pv 0) pe_int (fun _ _ => rfl)) (pa_cons (pe_ix ix_tup (pv 0) pe_int (fun _ _ => rfl)) (pa_cons (pe_callTy call_list_of (by rfl) T.n_list (by decide +kernel) (pa_cons (pe_ix ix_tup (pv 0) pe_int (fun _ _ => rfl)) pa_nil)) (pa_cons (pe_callTy call_list_of (by rfl) T.n_list (by decide +kernel) (pa_cons (pe_ix ix_tup (pv 0) pe_int (fun _ _ => rfl)) pa_nil)) pa_nil)))))))), ?_⟩
    obtain ⟨hs, ht, lo, la, no, na, hdj⟩ := id hD
    refine ⟨_, rfl, t, _, 0, _, rfl, rfl, sq_tup hS.1, rfl, fun r dr nr ndr ner => ring_new nr ndr ner hs fun H1 X1 R1 => ⟨rfl, ?_⟩⟩
    have h1 := hS.mono X1
    refine ⟨_, rfl, t, _, 1, _, rfl, rfl, sq_tup h1.1, rfl, _, rfl, t, _, 2, _, rfl, rfl, sq_tup h1.1, rfl, _, rfl, t, _, 3, _, rfl, rfl, sq_tup h1.1, rfl, g, _, rfl, .inl (sq_lst h1.2.1), fun l1 n1 => ?_⟩
    have X2 := ex_new (o := .lst (natV D.out)) n1
    have h2 := h1.mono X2
    refine ⟨_, rfl, t, _, 4, _, rfl, rfl, sq_tup h2.1, rfl, m, _, rfl, .inl (sq_lst h2.2.2), fun l2 n2 => ?_⟩
    have X3 := X2.trans (ex_new (o := .lst (natV D.also)) n2)
    refine fun x dx nx nd ne => ⟨rfl, days_new nx nd ne (R1.mono X3) hD (.inr ⟨l1, rfl, .inl (ex_new n2 _ _ upd_same), lo, no⟩) (.inr ⟨l2, rfl, .inl upd_same, la, na⟩) fun H4 X4 D4 => ⟨rfl, ?_⟩⟩
    exact q x H4 ((X1.trans X3).trans X4) (ex_fresh (X1.trans X3) nx) D4

theorem ok__law_made {P : Program} {w : World} {K : PySem.W.Frag} {mg : Str → Option Value} {base : Heap} (T : Env K mg) : Fc P w K mg base 7 (He.ga K "_law_made") [] (sp__law_made K) := by
  obtain ⟨fd, D, F⟩ := fb__law_made T
  exact F.all (D.bindsN fun _ _ _ _ _ _ us hl => match us, hl with | [_], _ => rfl)
end
section
theorem natV_toNat {l : List Int} (h : ∀ i ∈ l, 0 ≤ i) : l.map V.int = natV (l.map Int.toNat) := by
  unfold natV
  rw [List.map_map]
  apply List.map_congr_left
  intro i hi
  show V.int i = V.int ((i.toNat : Nat) : Int)
  rw [Int.toNat_of_nonneg (h i hi)]
theorem toNat_lt {l : List Int} (h : ∀ i ∈ l, 0 ≤ i) (s : l.Pairwise (· < ·)) : (l.map Int.toNat).Pairwise (· < ·) := by
  refine List.pairwise_map.mpr (s.imp_of_mem fun {a b} ha hb z => ?_)
  have := h a ha
  have := h b hb
  omega
theorem natV_app (a b : List Nat) : natV a ++ natV b = natV (a ++ b) := by
  unfold natV
  rw [List.map_append]
def sp__law_edges (K : PySem.W.Frag) : Sp := fun vs H Q _ => ∃ (t g m : Addr) (D : DaysD), vs = [.ref t] ∧ SomeAt H t g m D ∧ D.ok ∧ ∀ (p : Addr) (es : List Nat) H', Ex H H' → H p = none → H' p = some (.lst (natV es)) → es.Pairwise (· < ·) → es.length ≤ 100 → (∀ e, e ∈ es ↔ e = 0 ∨ e ∈ edgesOf D) → Q (.ref p) H'
theorem fb__law_edges {P : Program} {w : World} {K : PySem.W.Frag} {mg : Str → Option Value} {base : Heap} (T : Env K mg) : ∃ fd, FunD K "_law_edges" "_law_edges" (defArgs s__law_edges) (defBody s__law_edges) (defScope s__law_edges) [] [] (He.ga K "_law_edges") fd ∧ Fb P w K mg base 1 (He.ga K "_law_edges") fd ["_law_some_here"] (sp__law_edges K) := by
  obtain ⟨fd, F⟩ := T.f__law_edges
  refine ⟨fd, F, fb_of F sc__law_edges (fun vs H Q E h => ?_) (fun cdv A outer s H vs Q E hr h => ?_)⟩
  · obtain ⟨t, g, m, D, rfl, _⟩ := h
    rfl
  · obtain ⟨t, g, m, D, rfl, hS, hD, q⟩ := h
    refine ⟨_, (pss_cons (ps_set (i := 1) sc__law_edges.nd rfl (Or.inl rfl) (pe_op op_cat (pe_op op_cat (pe_op op_cat (pe_lst (pa_cons pe_int (pa_cons (pe_ix ix_tup (pv 0) pe_int (fun _ _ => rfl)) pa_nil))) (pe_ix ix_tup (pv 0) pe_int (fun _ _ => rfl))) (pe_ix ix_tup (pv 0) pe_int (fun _ _ => rfl))) (pe_lc (own := [("_law_spot", 2)]) (by rfl) sc__law_edges.nd (pi_list (pe_op op_cat (pe_ix ix_tup (pv 0) pe_int (fun _ _ => rfl)) (pe_ix ix_tup (pv 0) pe_int (fun _ _ => rfl)))) (blkOk_by (own := [("_law_spot", 2)]) (N := ["_law_some_here", "_law_found", "_law_spot"]) (sc := defScope s__law_edges) (by decide +kernel)) (fun _ _ _ _ _ => (pg_name (i := 2) sc__law_edges.nd rfl (Or.inl rfl))) (fun _ _ _ _ _ => pts_nil) (fun _ _ _ _ _ => (pe_op op_add (pv 2) pe_int)))))
      (Evl.pss_cut (ps_if (pt_cmpR op_notN (pe_ix ix_tup (pv 0) pe_int (fun _ _ => rfl)) pe_non (nomark _))
      (pss_one (ps_expr (pe_bm PySem.F.plainAttrs_list PySem.F.slot_list_append PySem.F.type_list_append mt_append (pv 1) (pa_cons (pe_op op_add (pe_ix ix_tup (pv 0) pe_int (fun _ _ => rfl)) pe_int) pa_nil))))
      pss_nil)
      (pss_one (ps_ret (pe_callB (cr_sortedSA rfl) (by rfl) T.n_sorted (by decide +kernel) (pa_cons (pe_callTy (cr_setI K rfl) (by rfl) T.n_set (by decide +kernel) (pa_cons (pv 1) pa_nil)) pa_nil)))))), ?_⟩
    obtain ⟨g1, g3, g4⟩ := hS
    obtain ⟨_, _, lo, la, _⟩ := id hD
    refine ⟨_, rfl, t, _, 1, _, rfl, rfl, sq_tup g1, rfl, by show 2 ≤ sizeLine; decide, fun e0 n0 => ?_⟩
    have X0 := fun o => ex_new (o := o) n0
    refine ⟨_, rfl, t, _, 3, _, rfl, rfl, sq_tup (X0 _ _ _ g1), rfl, e0, g, natV [0, D.since], natV D.out, rfl, rfl, upd_same, X0 _ _ _ g3, sz_le (by rw [natV_len, natV_len]; show 2 + _ ≤ _; omega), fun e1 n1 => ?_⟩
    rw [natV_app]
    have X1 := fun o => (X0 _).trans (ex_new (o := o) n1)
    refine ⟨_, rfl, t, _, 4, _, rfl, rfl, sq_tup (X1 _ _ _ g1), rfl, e1, m, _, natV D.also, rfl, rfl, upd_same, X1 _ _ _ g4, sz_le (by rw [natV_len, natV_len, List.length_append]; show 2 + _ + _ ≤ _; omega), fun e2 n2 => ?_⟩
    rw [natV_app]
    have X2 := fun o => (X1 _).trans (ex_new (o := o) n2)
    refine ⟨_, rfl, t, _, 3, _, rfl, rfl, sq_tup (X2 _ _ _ g1), rfl, _, rfl, t, _, 4, _, rfl, rfl, sq_tup (X2 _ _ _ g1), rfl, g, m, natV D.out, natV D.also, rfl, rfl, X2 _ _ _ g3, X2 _ _ _ g4, sz_le (by rw [natV_len, natV_len]; omega), fun c nc => ?_⟩
    rw [natV_app]
    have X3 := fun o => (X2 _).trans (ex_new (o := o) nc)
    have X3 := X3 (.lst (natV (D.out ++ D.also)))
    have he2 := fun o => ex_new (o := o) nc _ _ upd_same
    have he2 := he2 (.lst (natV (D.out ++ D.also)))
    refine ⟨c, rfl, ⟨_, sq_lst upd_same⟩, fun A nA => lc_on (D.out ++ D.also) (fun n : Nat => V.int n) L2.walk_list (fun x => some (.int ((x + 1 : Nat) : Int))) (fun H' => Ex _ H') (fun H' z e => ex_mut e nA) (.refl _) (by rw [List.length_append]; omega) (fun H' e => sq_lst (e _ _ upd_same)) (fun i x H4 acc N hx X4 hA la k => ?_) fun H4 X4 d4 => ?_⟩
    · exact ⟨rfl, _, rfl, _, _, rfl, rfl, acc, hA, la, k H4 X4 hA⟩
    have ed : (D.out ++ D.also).filterMap (fun x => some (V.int ((x + 1 : Nat) : Int))) = natV ((D.out ++ D.also).map (· + 1)) := by
      unfold natV
      rw [List.filterMap_eq_map', List.map_map]
      rfl
    rw [ed] at d4
    have X04 := X3.trans X4
    refine ⟨e2, A, _, _, rfl, rfl, X4 _ _ he2, d4, sz_le (by rw [natV_len, natV_len, List.length_append, List.length_append, List.length_map, List.length_append]; show 2 + _ + _ + _ ≤ _; omega), fun f nf => ?_⟩
    rw [natV_app]
    have nf0 := ex_fresh X04 nf
    have X5 := X04.trans (ex_new (o := .lst (natV ([0, D.since] ++ D.out ++ D.also ++ (D.out ++ D.also).map (· + 1)))) nf)
    have ll : ([0, D.since] ++ D.out ++ D.also ++ (D.out ++ D.also).map (· + 1)).length ≤ 50 := by
      simp only [List.length_append, List.length_map, List.length_cons, List.length_nil]
      omega
    generalize hL : [0, D.since] ++ D.out ++ D.also ++ (D.out ++ D.also).map (· + 1) = L at ll X5 ⊢
    refine ⟨fun σ' H' => Ex H H' ∧ ∃ v2, σ' = [some (.ref t), some (.ref f), v2] ∧ H' f = some (.lst (natV (L ++ (match D.till with | some u => [u + 1] | none => [])))), ?_, ?_⟩
    · refine ⟨_, rfl, t, _, 2, _, rfl, rfl, sq_tup (X5 _ _ g1), rfl, rfl, _, rfl, ?_⟩
      cases hT : D.till with
      | none => exact ⟨X5, _, rfl, by rw [List.append_nil]; exact upd_same⟩
      | some u =>
        refine iteT ?_
        refine ⟨_, rfl, .inl ⟨rfl, _, sq_lst upd_same⟩, _, rfl, t, _, 2, .int (u : Nat), rfl, rfl, sq_tup (X5 _ _ g1), (by rw [hT]; rfl), _, _, rfl, rfl, f, _, _, rfl, rfl, upd_same, small_len (by rw [natV_len]; omega), ex_mut X5 nf0, _, rfl, ?_⟩
        rw [upd_same]
        unfold natV
        rw [List.map_append]
        rfl
    rintro σ' H6 ⟨X6, v2, rfl, hf⟩
    generalize hM : L ++ (match D.till with | some u => [u + 1] | none => []) = M at hf
    have lm : M.length ≤ 51 := by
      rw [← hM, List.length_append]
      cases D.till <;> simp <;> omega
    refine ⟨_, rfl, f, M.map (fun n : Nat => (n : Int)), rfl, .inl (by rw [← nat_int]; exact sq_lst hf), by rw [List.length_map]; omega, fun s n ns hn => ?_⟩
    refine ⟨s, _, _, rfl, upd_same, fun es p srtd mem le np => ?_⟩
    have h0 : ∀ i ∈ es, 0 ≤ i := fun i hi => by
      obtain ⟨x, _, e⟩ := List.mem_map.mp (of_decide_eq_true ((mem i).mp hi))
      omega
    rw [natV_toNat h0]
    rw [List.length_map] at hn
    refine q p _ _ (X6.trans ((ex_new ns).trans (ex_new np))) (ex_fresh X6 (ex_fresh (ex_new ns) np)) upd_same (toNat_lt h0 srtd) (by rw [List.length_map]; omega) fun e => ?_
    have m1 : e ∈ es.map Int.toNat ↔ e ∈ M := by
      constructor
      · intro h
        obtain ⟨i, hi, e1⟩ := List.mem_map.mp h
        obtain ⟨x, hx, e2⟩ := List.mem_map.mp (of_decide_eq_true ((mem i).mp hi))
        have : x = e := by omega
        exact this ▸ hx
      · intro h
        exact List.mem_map.mpr ⟨(e : Int), (mem e).mpr (decide_eq_true (List.mem_map.mpr ⟨e, h, rfl⟩)), by simp⟩
    rw [m1, mem_edges, ← hM, ← hL]
    simp only [List.mem_append, List.mem_cons, List.not_mem_nil, or_false, List.mem_map]
    constructor
    · rintro ((((( h | h) | h) | h) | ⟨x, h, rfl⟩) | h)
      · exact .inl h
      · exact .inr (.inl h)
      · exact .inr (.inr (.inr ⟨e, .inl h, .inl rfl⟩))
      · exact .inr (.inr (.inr ⟨e, .inr h, .inl rfl⟩))
      · exact .inr (.inr (.inr ⟨x, h, .inr rfl⟩))
      · cases hT : D.till with
        | none => rw [hT] at h; simp at h
        | some u => rw [hT] at h; simp at h; exact .inr (.inr (.inl ⟨u, rfl, h⟩))
    · rintro (h | h | ⟨u, hT, h⟩ | ⟨x, hx, h | h⟩)
      · exact .inl (.inl (.inl (.inl (.inl h))))
      · exact .inl (.inl (.inl (.inl (.inr h))))
      · refine .inr ?_
        rw [hT]
        simp [h]
      · subst h
        rcases hx with h | h
        · exact .inl (.inl (.inl (.inr h)))
        · exact .inl (.inl (.inr h))
      · exact .inl (.inr ⟨x, hx, h.symm⟩)

theorem ok__law_edges {P : Program} {w : World} {K : PySem.W.Frag} {mg : Str → Option Value} {base : Heap} (T : Env K mg) : Fc P w K mg base 1 (He.ga K "_law_edges") [] (sp__law_edges K) := by
  obtain ⟨fd, D, F⟩ := fb__law_edges T
  exact F.all (D.bindsN fun _ _ _ _ _ _ us hl => match us, hl with | [_], _ => rfl)
end
section
theorem DaysD.lt.fit {D : DaysD} (h : D.lt) : D.fit 53 := by
  obtain ⟨b1, b2, b3, b4⟩ := h
  have e : (10 : Nat) ^ 52 < 10 ^ 53 := by decide +kernel
  exact ⟨Nat.lt_trans b1 e, fun t ht => Nat.lt_trans (b2 t ht) e, b3, b4⟩
theorem fit_150 {D : DaysD} (h : D.fit 53) : D.fit 150 := by
  obtain ⟨b1, b2, b3, b4⟩ := h
  have e : (10 : Nat) ^ 53 < 10 ^ 150 := by decide +kernel
  exact ⟨Nat.lt_trans b1 e, fun t ht => Nat.lt_trans (b2 t ht) e, fun n hn => Nat.lt_trans (b3 n hn) e, fun n hn => Nat.lt_trans (b4 n hn) e⟩

end
section
theorem DaysAt.keep {K : PySem.W.Frag} {H H' : Hp} {a : Addr} {D : DaysD} (h : DaysAt K H a D) (k : ∀ b o, (∀ ys, o ≠ .lst ys) → H b = some o → H' b = some o) : DaysAt K H' a D := by
  obtain ⟨dx, r, po, pa, h1, ⟨dr, h2⟩, h3, h4⟩ := h
  exact ⟨dx, r, po, pa, k _ _ (fun _ z => by cases z) h1, ⟨dr, k _ _ (fun _ z => by cases z) h2⟩, k _ _ (fun _ z => by cases z) h3, k _ _ (fun _ z => by cases z) h4⟩
theorem PotOn.no_list {H H' : Hp} {p : Addr} (hp : Pot H p) (P : PotOn H H' p) : ∀ b o, (∀ ys, o ≠ .lst ys) → H b = some o → H' b = some o := fun b o hn e => P.2 _ _ (pot_other hp e (fun x y z w => hn _ w)) e
theorem SomeAt.pot {H H' : Hp} {p t g m : Addr} {D : DaysD} (h : SomeAt H t g m D) (tp : t ≠ p) (gp : g ≠ p) (mp : m ≠ p) (P : PotOn H H' p) : SomeAt H' t g m D := ⟨P.2 _ _ tp h.1, P.2 _ _ gp h.2.1, P.2 _ _ mp h.2.2⟩
theorem ok_plain {l : List Nat} {n : Nat} (hs : sgn l = true) : (⟨l, n, none, [], []⟩ : DaysD).ok := ⟨hs, (fun u hu => by cases hu), Nat.zero_le _, Nat.zero_le _, List.nodup_nil, List.nodup_nil, (fun n hn => by cases hn)⟩
theorem lt_plain {l : List Nat} {n : Nat} (h : n < 10 ^ 52) : (⟨l, n, none, [], []⟩ : DaysD).lt := ⟨h, (fun u hu => by cases hu), (fun n hn => by cases hn), fun n hn => by cases hn⟩

end
section
theorem sgn_len {l : List Nat} (h : sgn l = true) : 1 ≤ l.length ∧ l.length ≤ 7 := of_decide_eq_true (Bool.and_eq_true_iff.mp h).1
theorem sgn_of {l : List Nat} (h1 : 1 ≤ l.length) (h2 : l.length ≤ 7) (h : ∀ c ∈ l, c = 48 ∨ c = 49) : sgn l = true := by
  unfold sgn
  rw [decide_eq_true ⟨h1, h2⟩, Bool.true_and, List.all_eq_true]
  intro c hc
  simpa using h c hc
theorem sgn_mem {l : List Nat} (h : sgn l = true) : ∀ c ∈ l, c = 48 ∨ c = 49 := fun c hc => by
  simpa using List.all_eq_true.mp (Bool.and_eq_true_iff.mp h).2 c hc
theorem sgn_rep {l : List Nat} {n : Nat} (h : sgn l = true) (h1 : 1 ≤ n) (h2 : n ≤ 7 / l.length) : sgn (List.replicate n l).flatten = true := by
  have hl := sgn_len h
  have hm : n * l.length ≤ 7 := (Nat.le_div_iff_mul_le (by omega)).mp h2
  refine sgn_of ?_ ?_ fun c hc => ?_
  · rw [len_flat]
    exact Nat.mul_pos h1 hl.1
  · rw [len_flat]
    exact hm
  · obtain ⟨l', h3, h4⟩ := List.mem_flatten.mp hc
    rw [(List.mem_replicate.mp h3).2] at h4
    exact sgn_mem h c h4
theorem sgn_flip {l : List Nat} {i : Nat} {c : Nat} (h : sgn l = true) (hi : i < l.length) (hc : c = 48 ∨ c = 49) : sgn (l.take i ++ [c] ++ l.drop (i + 1)) = true := by
  have hl := sgn_len h
  refine sgn_of ?_ ?_ fun d hd => ?_
  · simp
    omega
  · simp
    omega
  · simp only [List.mem_append, List.mem_singleton] at hd
    rcases hd with (hd | rfl) | hd
    · exact sgn_mem h d (List.mem_of_mem_take hd)
    · exact hc
    · exact sgn_mem h d (List.mem_of_mem_drop hd)
theorem app_S (a b : List Nat) : SX.S a ++ SX.S b = SX.S (a ++ b) := by
  refine TL.ext_tl ?_
  rw [TL.tl_append]

end
section
def sp__law_pair (K : PySem.W.Frag) : Sp := fun vs H Q _ => ∃ p : Addr, vs = [.ref p] ∧ Pot H p ∧ ∀ (q t1 g1 m1 t2 g2 m2 : Addr) (D E : DaysD) H', SqT K H' q [.ref t1, .ref t2] → SomeAt H' t1 g1 m1 D → SomeAt H' t2 g2 m2 E → D.ok → E.ok → D.fit 53 → E.fit 53 → PotOn H H' p → Q (.ref q) H'
theorem natV_rev (l : List Nat) : (natV l).reverse = natV l.reverse := by
  unfold natV
  rw [List.map_reverse]
theorem natV_app2 (a b : List Nat) : natV a ++ natV b = natV (a ++ b) := by
  unfold natV
  rw [List.map_append]
theorem fb__law_pair {P : Program} {w : World} {K : PySem.W.Frag} {mg : Str → Option Value} {base : Heap} (T : Env K mg) : ∃ fd, FunD K "_law_pair" "_law_pair" (defArgs s__law_pair) (defBody s__law_pair) (defScope s__law_pair) [] [] (He.ga K "_law_pair") fd ∧ Fb P w K mg base 6 (He.ga K "_law_pair") fd ["_law_pot_here"] (sp__law_pair K) := by
  obtain ⟨fd, F⟩ := T.f__law_pair
  refine ⟨fd, F, fb_of F sc__law_pair (fun vs H Q E h => ?_) (fun cdv A outer s H vs Q E hr h => ?_)⟩
  · obtain ⟨p, rfl, _⟩ := h
    rfl
  · obtain ⟨p, rfl, hp, q⟩ := h
    refine ⟨_, (pss_cons (ps_set (i := 1) sc__law_pair.nd rfl (Or.inl rfl) (c_call (ok__law_take T) (hr.mono (by decide)) T.g__law_take T.k__law_take takes0 (pa_cons (pv 0) (pa_cons pe_int pa_nil))))
      (pss_cons (ps_set (i := 2) sc__law_pair.nd rfl (Or.inl rfl) (c_call (ok__law_some T) (hr.mono (by decide)) T.g__law_some T.k__law_some takes0 (pa_cons (pv 0) pa_nil)))
      (pss_cons (ps_asg (pv 2) (pg_tup (by rfl) (pgs_cons (pg_name (i := 3) sc__law_pair.nd rfl (Or.inl rfl)) (pgs_cons (pg_name (i := 4) sc__law_pair.nd rfl (Or.inl rfl)) (pgs_cons (pg_name (i := 5) sc__law_pair.nd rfl (Or.inl rfl)) (pgs_cons (pg_name (i := 6) sc__law_pair.nd rfl (Or.inl rfl)) (pgs_cons (pg_name (i := 7) sc__law_pair.nd rfl (Or.inl rfl)) pgs_nil)))))))
      (pss_cons (ps_if (pt_cmpR op_eq (pv 1) pe_int (nomark _))
      (pss_cons (ps_set (i := 8) sc__law_pair.nd rfl (Or.inl rfl) (pe_op op_fdiv pe_int (pe_callB call_len (by rfl) T.n_len (by decide +kernel) (pa_cons (pv 3) pa_nil))))
      (pss_one (ps_ret (pe_tup (pa_cons (pv 2) (pa_cons (pe_tup (pa_cons (pe_op op_repS (pv 3) (pv 8)) (pa_cons (pv 4) (pa_cons (pv 5) (pa_cons (pe_revL (pv 6)) (pa_cons (pe_revL (pv 7)) pa_nil)))))) pa_nil))))))
      pss_nil)
      (pss_cons (ps_if (pt_cmpR op_eq (pv 1) pe_int (nomark _))
      (pss_cons (ps_set (i := 9) sc__law_pair.nd rfl (Or.inl rfl) (c_call (ok__law_near T) (hr.mono (by decide)) T.g__law_near T.k__law_near takes0 (pa_cons (pv 0) (pa_cons (pv 4) (pa_cons (pv 5) pa_nil)))))
      (pss_cons (ps_if (PW.pt (pw_or (pt_cmpR op_in_seq (pv 9) (pe_op op_cat (pv 6) (pv 7)) (by rfl)) (pw_or1 (pt_cmpR op_eq (pe_callB call_len (by rfl) T.n_len (by decide +kernel) (pa_cons (pv 6) pa_nil)) pe_int (nomark _)))))
      (pss_one (ps_ret (pe_tup (pa_cons (pv 2) (pa_cons (pv 2) pa_nil)))))
      pss_nil)
      (pss_one (ps_ret (pe_tup (pa_cons (pv 2) (pa_cons (pe_tup (pa_cons (pv 3) (pa_cons (pv 4) (pa_cons (pv 5) (pa_cons (pe_op op_cat (pv 6) (pe_lst (pa_cons (pv 9) pa_nil))) (pa_cons (pv 7) pa_nil)))))) pa_nil)))))))
      pss_nil)
      (pss_cons (ps_if (pt_cmpR op_eq (pv 1) pe_int (nomark _))
      (pss_one (ps_ret (pe_tup (pa_cons (pv 2) (pa_cons (pe_tup (pa_cons (pv 3) (pa_cons (pv 4) (pa_cons (pv 5) (pa_cons (pv 6) (pa_cons (pe_slice sl_list (pv 7) (po_some pe_int) po_none) pa_nil)))))) pa_nil)))))
      pss_nil)
      (pss_cons (ps_if (pt_cmpR op_eq (pv 1) pe_int (nomark _))
      (pss_cons (ps_set (i := 10) sc__law_pair.nd rfl (Or.inl rfl) (c_call (ok__law_take T) (hr.mono (by decide)) T.g__law_take T.k__law_take takes0 (pa_cons (pv 0) (pa_cons (pe_callB call_len (by rfl) T.n_len (by decide +kernel) (pa_cons (pv 3) pa_nil)) pa_nil))))
      (pss_one (ps_ret (pe_tup (pa_cons (pv 2) (pa_cons (pe_tup (pa_cons (pe_op op_add_str (pe_op op_add_str (pe_slice sl_str (pv 3) po_none (po_some (pv 10))) (pe_ix ix_str pe_str (pe_callTy call_int_str (by rfl) T.n_int (by decide +kernel) (pa_cons (pe_ix ix_str (pv 3) (pv 10) (fun _ _ => rfl)) pa_nil)) (fun _ _ => rfl))) (pe_slice sl_str (pv 3) (po_some (pe_op op_add (pv 10) pe_int)) po_none)) (pa_cons (pv 4) (pa_cons (pv 5) (pa_cons (pv 6) (pa_cons (pv 7) pa_nil)))))) pa_nil))))))
      pss_nil)
      (pss_cons (ps_if (pt_cmpR op_eq (pv 1) pe_int (nomark _))
      (pss_one (ps_ret (pe_tup (pa_cons (pv 2) (pa_cons (pe_ifExp (pt_cmpR op_isN (pv 5) pe_non (nomark _)) (pe_tup (pa_cons (pv 3) (pa_cons (pe_op op_add (pv 4) (c_call (ok__law_take T) (hr.mono (by decide)) T.g__law_take T.k__law_take takes0 (pa_cons (pv 0) (pa_cons pe_int pa_nil)))) (pa_cons (pv 5) (pa_cons (pv 6) (pa_cons (pv 7) pa_nil)))))) (pv 2)) pa_nil)))))
      pss_nil)
      (pss_cons (ps_if (pt_cmpR op_eq (pv 1) pe_int (nomark _))
      (pss_one (ps_ret (pe_tup (pa_cons (pv 2) (pa_cons (pe_tup (pa_cons (pv 3) (pa_cons (pv 4) (pa_cons (pe_op op_add (pv 4) (c_call (ok__law_take T) (hr.mono (by decide)) T.g__law_take T.k__law_take takes0 (pa_cons (pv 0) (pa_cons pe_int pa_nil)))) (pa_cons (pv 6) (pa_cons (pv 7) pa_nil)))))) pa_nil)))))
      pss_nil)
      (pss_one (ps_ret (pe_tup (pa_cons (pv 2) (pa_cons (c_call (ok__law_some T) (hr.mono (by decide)) T.g__law_some T.k__law_some takes0 (pa_cons (pv 0) pa_nil)) pa_nil)))))))))))))), ?_⟩
    refine ⟨_, rfl, p, 7, rfl, hp, by decide, by decide, fun way H1 w0 w1 P1 => ?_⟩
    refine ⟨_, rfl, p, rfl, P1.1, fun t g m D H2 hS hD hL nt ng nm tp gp mp P2 => ?_⟩
    have P12 := P1.trans P2
    have hF := hL.fit
    obtain ⟨hs, ht, lo, la, no, na, hdj⟩ := id hD
    obtain ⟨f1, f2, f3, f4⟩ := id hF
    have h7 := sgn_len hs
    have ls : (SX.S D.bits).length ≤ sizeLine := Nat.le_of_lt (small_len (by rw [SX.S_len]; omega))
    refine ⟨_, rfl, t, _, rfl, sq_tup hS.1, rfl, _, _, rfl, _, _, rfl, _, _, rfl, _, _, rfl, _, _, rfl, rfl, ?_⟩
    have P0 := P12
    refine ⟨_, rfl, rfl, _, rfl, ite2 (fun _ => ?_) (fun c0 => ?_)⟩
    · have d7 : (7 : Int) / ((D.bits.length : Nat) : Int) = ((7 / D.bits.length : Nat) : Int) := by
        have e7 : ((7 : Nat) : Int) / ((D.bits.length : Nat) : Int) = ((7 / D.bits.length : Nat) : Int) := by simp
        exact e7
      have m7 : 1 ≤ 7 / D.bits.length ∧ 7 / D.bits.length ≤ 7 := ⟨(Nat.le_div_iff_mul_le (by omega)).mpr (by omega), Nat.div_le_self _ _⟩
      refine ⟨_, rfl, _, D.bits.length, rfl, ⟨ls, (SX.S_len D.bits).symm⟩, _, _, rfl, rfl, ⟨by omega, by omega⟩, ?_⟩
      refine ⟨_, rfl, _, rfl, _, rfl, _, _, rfl, rfl, by rw [SX.S_len]; omega, by rw [d7]; omega, by rw [d7]; omega, _, rfl, _, rfl, _, rfl, g, _, rfl, sq_lst hS.2.1, fun ga nga => ?_⟩
      rw [natV_rev]
      have S1 := hS.mono (ex_new (o := .lst (natV D.out.reverse)) nga)
      refine ⟨_, rfl, m, _, rfl, sq_lst S1.2.2, fun ma nma => ?_⟩
      rw [natV_rev]
      have X2 := ex_new (o := .lst (natV D.also.reverse)) nma
      refine ⟨by show 5 ≤ sizeLine; decide, fun t2 nt2 => ⟨by show 2 ≤ sizeLine; decide, fun qq nqq => ?_⟩⟩
      rw [d7, mul_S]
      rw [d7, mul_S] at nqq
      have X3 := ex_new (o := .tup [.str (SX.S (List.replicate (7 / D.bits.length) D.bits).flatten), .int (D.since : Nat), optV D.till, .ref ga, .ref ma]) nt2
      have X4 := ex_new (o := .tup [.ref t, .ref t2]) nqq
      refine q qq t g m t2 ga ma D ⟨(List.replicate (7 / D.bits.length) D.bits).flatten, D.since, D.till, D.out.reverse, D.also.reverse⟩ _ (sq_tup upd_same) (S1.mono (X2.trans (X3.trans X4))) ⟨X4 _ _ upd_same, (X2.trans (X3.trans X4)) _ _ upd_same, (X3.trans X4) _ _ upd_same⟩ hD ?_ hF ?_ ?_
      · exact ⟨sgn_rep hs (by omega) (Nat.le_refl _), ht, by show D.out.reverse.length ≤ 8; rw [List.length_reverse]; exact lo, by show D.also.reverse.length ≤ 8; rw [List.length_reverse]; exact la, List.pairwise_reverse.mpr (no.imp Ne.symm), List.pairwise_reverse.mpr (na.imp Ne.symm), fun n hn ho => hdj n (List.mem_reverse.mp hn) (List.mem_reverse.mp ho)⟩
      · exact ⟨f1, f2, fun n hn => f3 n (List.mem_reverse.mp hn), fun n hn => f4 n (List.mem_reverse.mp hn)⟩
      · exact pot_new (pot_new (pot_new (pot_new P12 nga) nma) nt2) nqq
    refine ⟨_, rfl, rfl, _, rfl, ite2 (fun _ => ?_) (fun c1 => ?_)⟩
    · refine ⟨_, rfl, _, rfl, _, rfl, p, D.since, D.till, rfl, P12.1, hL.1, hL.2.1, fun n H3 hn P3 => ?_⟩
      have S3 := hS.pot tp gp mp P3
      have P13 := P12.trans P3
      refine ⟨_, rfl, _, rfl, _, rfl, g, m, _, _, rfl, rfl, S3.2.1, S3.2.2, sz_le (by rw [natV_len, natV_len]; omega), fun c nc => ?_⟩
      rw [natV_app2]
      have S4 := S3.mono (ex_new (o := .lst (natV (D.out ++ D.also))) nc)
      have P4 := pot_new (o := .lst (natV (D.out ++ D.also))) P13 nc
      have same : ∀ {H5 : Hp}, SomeAt H5 t g m D → PotOn H H5 p → ∀ qq, H5 qq = none → Q (.ref qq) (upd H5 qq (.tup [.ref t, .ref t])) := fun {H5} S5 P5 qq nqq => by
        have S6 := S5.mono (ex_new (o := .tup [.ref t, .ref t]) nqq)
        exact q qq t g m t g m D D _ (sq_tup upd_same) S6 S6 hD hD hF hF (pot_new P5 nqq)
      refine ⟨c, _, rfl, .inl (sq_lst upd_same), rfl, flat_nat _, _, rfl, ?_⟩
      rw [inV_nat]
      by_cases hm : n ∈ D.out ++ D.also
      · rw [decide_eq_true hm]
        exact ⟨_, rfl, _, rfl, by show 2 ≤ sizeLine; decide, fun qq nqq => same S4 P4 qq nqq⟩
      · rw [decide_eq_false hm]
        refine ⟨_, rfl, _, _, rfl, .inl ⟨_, sq_lst S4.2.1, rfl⟩, rfl, _, rfl, ite2 (fun _ => ?_) (fun c8 => ?_)⟩
        · exact ⟨_, rfl, _, rfl, by show 2 ≤ sizeLine; decide, fun qq nqq => same S4 P4 qq nqq⟩
        have l8 : D.out.length < 8 := by
          refine Nat.lt_of_le_of_ne lo fun z => c8 ?_
          rw [natV_len, z]
          rfl
        refine ⟨_, rfl, _, rfl, _, rfl, _, rfl, _, rfl, _, rfl, by show 1 ≤ sizeLine; decide, fun u nu => ?_⟩
        have X5 := ex_new (o := .lst [.int (n : Nat)]) nu
        have S5 := S4.mono X5
        refine ⟨g, u, _, _, rfl, rfl, S5.2.1, upd_same, sz_le (by rw [natV_len]; show _ + 1 ≤ _; omega), fun ga nga => ?_⟩
        rw [show natV D.out ++ [V.int (n : Nat)] = natV (D.out ++ [n]) from natV_app2 D.out [n]]
        have X6 := ex_new (o := .lst (natV (D.out ++ [n]))) nga
        refine ⟨_, rfl, by show 5 ≤ sizeLine; decide, fun t2 nt2 => ⟨by show 2 ≤ sizeLine; decide, fun qq nqq => ?_⟩⟩
        have X7 := ex_new (o := .tup [.str (SX.S D.bits), .int (D.since : Nat), optV D.till, .ref ga, .ref m]) nt2
        have X8 := ex_new (o := .tup [.ref t, .ref t2]) nqq
        refine q qq t g m t2 ga m D ⟨D.bits, D.since, D.till, D.out ++ [n], D.also⟩ _ (sq_tup upd_same) (S5.mono (X6.trans (X7.trans X8))) ⟨X8 _ _ upd_same, (X7.trans X8) _ _ upd_same, (X6.trans (X7.trans X8)) _ _ S5.2.2⟩ hD ?_ hF ?_ ?_
        · refine ⟨hs, ht, by show (D.out ++ [n]).length ≤ 8; rw [List.length_append]; show _ + 1 ≤ 8; omega, la, ?_, na, fun k hk ho => ?_⟩
          · exact List.nodup_append.mpr ⟨no, by simp, fun a ha b hb e => by simp at hb; subst hb; subst e; exact hm (List.mem_append_left _ ha)⟩
          · rcases List.mem_append.mp ho with ho | ho
            · exact hdj k hk ho
            · rw [List.mem_singleton.mp ho] at hk
              exact hm (List.mem_append_right _ hk)
        · refine ⟨f1, f2, fun k hk => ?_, f4⟩
          rcases List.mem_append.mp hk with hk | hk
          · exact f3 k hk
          · rw [List.mem_singleton.mp hk]
            exact hn
        · exact pot_new (pot_new (pot_new (pot_new P4 nu) nga) nt2) nqq
    refine ⟨_, rfl, rfl, _, rfl, ite2 (fun _ => ?_) (fun c2 => ?_)⟩
    · refine ⟨_, rfl, _, rfl, _, rfl, _, rfl, _, rfl, _, rfl, _, rfl, m, _, rfl, sq_lst hS.2.2, fun ma nma => ?_⟩
      rw [cut1]
      have ed : (natV D.also).drop 1 = natV (D.also.drop 1) := by
        unfold natV
        rw [List.map_drop]
      rw [ed]
      have X2 := ex_new (o := .lst (natV (D.also.drop 1))) nma
      refine ⟨by show 5 ≤ sizeLine; decide, fun t2 nt2 => ⟨by show 2 ≤ sizeLine; decide, fun qq nqq => ?_⟩⟩
      have X3 := ex_new (o := .tup [.str (SX.S D.bits), .int (D.since : Nat), optV D.till, .ref g, .ref ma]) nt2
      have X4 := ex_new (o := .tup [.ref t, .ref t2]) nqq
      refine q qq t g m t2 g ma D ⟨D.bits, D.since, D.till, D.out, D.also.drop 1⟩ _ (sq_tup upd_same) (hS.mono (X2.trans (X3.trans X4))) ⟨X4 _ _ upd_same, (X2.trans (X3.trans X4)) _ _ hS.2.1, (X3.trans X4) _ _ upd_same⟩ hD ?_ hF ?_ ?_
      · exact ⟨hs, ht, lo, by show (D.also.drop 1).length ≤ 8; rw [List.length_drop]; omega, no, na.sublist (List.drop_sublist 1 _), fun n hn ho => hdj n (List.mem_of_mem_drop hn) ho⟩
      · exact ⟨f1, f2, f3, fun n hn => f4 n (List.mem_of_mem_drop hn)⟩
      · exact pot_new (pot_new (pot_new P12 nma) nt2) nqq
    refine ⟨_, rfl, rfl, _, rfl, ite2 (fun _ => ?_) (fun c3 => ?_)⟩
    · refine ⟨_, rfl, _, rfl, _, D.bits.length, rfl, ⟨ls, (SX.S_len D.bits).symm⟩, p, D.bits.length, rfl, P12.1, by omega, by omega, fun x H3 x0 x1 P3 => ?_⟩
      obtain ⟨i, rfl⟩ := Int.eq_ofNat_of_zero_le x0
      have hi : i < D.bits.length := by omega
      have hc := sgn_mem hs D.bits[i] (List.getElem_mem hi)
      refine ⟨_, rfl, _, rfl, ?_⟩
      dsimp only [tNoPart]
      refine ⟨_, rfl, _, rfl, _, rfl, ls, _, rfl, _, rfl, _, _, D.bits[i], rfl, rfl, ls, atI_nat (List.getElem?_eq_getElem hi), ?_⟩
      obtain ⟨n, c, hn, hcc, hat⟩ : ∃ (n : Int) (c : Nat), intText? ⟨#[D.bits[i]]⟩ = some n ∧ (c = 48 ∨ c = 49) ∧ atI (Str.ofString "10").cps.toList n = some c := by
        rcases hc with e | e <;> rw [e]
        · exact ⟨0, 49, by decide +kernel, .inr rfl, by decide +kernel⟩
        · exact ⟨1, 48, by decide +kernel, .inl rfl, by decide +kernel⟩
      refine ⟨_, n, rfl, hn, by show 1 ≤ 640; decide, _, _, c, rfl, rfl, by show 2 ≤ sizeLine; decide, hat, _, _, rfl, rfl, ?_, ?_⟩
      · rw [Mo.cut_to, SX.S_len, List.length_take]
        exact Nat.le_of_lt (small_len (by show min i D.bits.length + 1 ≤ 100000; omega))
      refine ⟨_, rfl, _, rfl, _, _, rfl, rfl, _, rfl, ?_⟩
      dsimp only [tNoPart]
      have e2 : cutS (SX.S D.bits) (some ((i : Int) + 1)) none = SX.S (D.bits.drop (i + 1)) := Mo.cut_from D.bits (i + 1)
      refine ⟨_, rfl, ls, _, _, rfl, rfl, ?_, _, rfl, _, rfl, _, rfl, _, rfl, by show 5 ≤ sizeLine; decide, fun t2 nt2 => ?_⟩
      · rw [e2, Mo.cut_to]
        have e3 : (SX.S (D.bits.take i) ++ (⟨#[c]⟩ : Str)).length = min i D.bits.length + 1 := by
          rw [show SX.S (D.bits.take i) ++ (⟨#[c]⟩ : Str) = SX.S (D.bits.take i ++ [c]) from app_S _ [c], SX.S_len]
          simp
        rw [e3, SX.S_len, List.length_drop]
        exact Nat.le_of_lt (small_len (by omega))
      rw [e2, Mo.cut_to, show SX.S (D.bits.take i) ++ (⟨#[c]⟩ : Str) = SX.S (D.bits.take i ++ [c]) from app_S _ [c], app_S]
      refine ⟨by show 2 ≤ sizeLine; decide, fun qq nqq => ?_⟩
      have S3 := hS.pot tp gp mp P3
      have X3 := ex_new (o := .tup [.str (SX.S (D.bits.take i ++ [c] ++ D.bits.drop (i + 1))), .int (D.since : Nat), optV D.till, .ref g, .ref m]) nt2
      have X4 := ex_new (o := .tup [.ref t, .ref t2]) nqq
      have S4 := S3.mono (X3.trans X4)
      exact q qq t g m t2 g m D ⟨D.bits.take i ++ [c] ++ D.bits.drop (i + 1), D.since, D.till, D.out, D.also⟩ _ (sq_tup upd_same) S4 ⟨X4 _ _ upd_same, S4.2.1, S4.2.2⟩ hD ⟨sgn_flip hs hi hcc, ht, lo, la, no, na, hdj⟩ hF ⟨f1, f2, f3, f4⟩ (pot_new (pot_new (P12.trans P3) nt2) nqq)
    refine ⟨_, rfl, rfl, _, rfl, ite2 (fun _ => ?_) (fun c4 => ?_)⟩
    · cases hT : D.till with
      | some u =>
        have S2 := hS
        refine ⟨_, rfl, _, rfl, rfl, _, rfl, iteF ⟨_, rfl, by show 2 ≤ sizeLine; decide, fun qq nqq => ?_⟩⟩
        have S6 := S2.mono (ex_new (o := .tup [.ref t, .ref t]) nqq)
        exact q qq t g m t g m D D _ (sq_tup upd_same) S6 S6 hD hD hF hF (pot_new P12 nqq)
      | none =>
        refine ⟨_, rfl, _, rfl, rfl, _, rfl, iteT ⟨_, rfl, _, rfl, _, rfl, p, 3, rfl, P12.1, by decide, by decide, fun d H3 d0 d1 P3 => ⟨_, _, rfl, rfl, _, rfl, _, rfl, _, rfl, by show 5 ≤ sizeLine; decide, fun t2 nt2 => ⟨by show 2 ≤ sizeLine; decide, fun qq nqq => ?_⟩⟩⟩⟩
        obtain ⟨k, rfl⟩ := Int.eq_ofNat_of_zero_le d0
        have S3 := hS.pot tp gp mp P3
        have X3 := ex_new (o := .tup [.str (SX.S D.bits), .int ((D.since : Nat) + (k : Nat)), .non, .ref g, .ref m]) nt2
        have X4 := ex_new (o := .tup [.ref t, .ref t2]) nqq
        have S4 := S3.mono (X3.trans X4)
        have s53 := hL.1
        exact q qq t g m t2 g m D ⟨D.bits, D.since + k, none, D.out, D.also⟩ _ (sq_tup upd_same) S4 ⟨X4 _ _ upd_same, S4.2.1, S4.2.2⟩ hD ⟨hs, (fun u z => nomatch z), lo, la, no, na, hdj⟩ hF ⟨by show D.since + k < 10 ^ 53; omega, (fun u z => nomatch z), f3, f4⟩ (pot_new (pot_new (P12.trans P3) nt2) nqq)
    refine ⟨_, rfl, rfl, _, rfl, ite2 (fun _ => ?_) (fun c5 => ?_)⟩
    · refine ⟨_, rfl, _, rfl, _, rfl, _, rfl, _, rfl, p, 90, rfl, P12.1, by decide, by decide, fun d H3 d0 d1 P3 => ⟨_, _, rfl, rfl, _, rfl, _, rfl, by show 5 ≤ sizeLine; decide, fun t2 nt2 => ⟨by show 2 ≤ sizeLine; decide, fun qq nqq => ?_⟩⟩⟩
      obtain ⟨k, rfl⟩ := Int.eq_ofNat_of_zero_le d0
      have S3 := hS.pot tp gp mp P3
      have X3 := ex_new (o := .tup [.str (SX.S D.bits), .int (D.since : Nat), .int ((D.since : Nat) + (k : Nat)), .ref g, .ref m]) nt2
      have X4 := ex_new (o := .tup [.ref t, .ref t2]) nqq
      have S4 := S3.mono (X3.trans X4)
      have s53 := hL.1
      exact q qq t g m t2 g m D ⟨D.bits, D.since, some (D.since + k), D.out, D.also⟩ _ (sq_tup upd_same) S4 ⟨X4 _ _ upd_same, S4.2.1, S4.2.2⟩ hD ⟨hs, fun u hu => by cases hu; exact Nat.le_add_right _ _, lo, la, no, na, hdj⟩ hF ⟨f1, fun u hu => by cases hu; omega, f3, f4⟩ (pot_new (pot_new (P12.trans P3) nt2) nqq)
    refine ⟨_, rfl, _, rfl, p, rfl, P12.1, fun t2 g2 m2 E2 H3 hS2 hE2 hL2 _ _ _ _ _ _ P3 => ⟨by show 2 ≤ sizeLine; decide, fun qq nqq => ?_⟩⟩
    have X4 := ex_new (o := .tup [.ref t, .ref t2]) nqq
    exact q qq t g m t2 g2 m2 D E2 _ (sq_tup upd_same) ((hS.pot tp gp mp P3).mono X4) (hS2.mono X4) hD hE2 hF hL2.fit (pot_new (P12.trans P3) nqq)

theorem ok__law_pair {P : Program} {w : World} {K : PySem.W.Frag} {mg : Str → Option Value} {base : Heap} (T : Env K mg) : Fc P w K mg base 6 (He.ga K "_law_pair") [] (sp__law_pair K) := by
  obtain ⟨fd, D, F⟩ := fb__law_pair T
  exact F.all (D.bindsN fun _ _ _ _ _ _ us hl => match us, hl with | [_], _ => rfl)
end
section
def sp__law_alike (K : PySem.W.Frag) : Sp := fun vs H Q _ => ∃ (t1 g1 m1 t2 g2 m2 : Addr) (D E : DaysD) (hi : Option Nat), vs = [.ref t1, .ref t2, optV hi] ∧ SomeAt H t1 g1 m1 D ∧ SomeAt H t2 g2 m2 E ∧ D.ok ∧ E.ok ∧ (∀ d : Nat, (∀ h, hi = some h → d < h) → dHas D d = dHas E d) ∧ ∀ H', Ex H H' → Q (.bl true) H'
def inH (hi : Option Nat) (x : Nat) : Bool := match hi with | none => true | some h => decide (x < h)
theorem fb__law_alike {P : Program} {w : World} {K : PySem.W.Frag} {mg : Str → Option Value} {base : Heap} (T : Env K mg) : ∃ fd, FunD K "_law_alike" "_law_alike" (defArgs s__law_alike) (defBody s__law_alike) (defScope s__law_alike) [] [] (He.ga K "_law_alike") fd ∧ Fb P w K mg base 2 (He.ga K "_law_alike") fd ["_law_head", "_law_two", "_law_high"] (sp__law_alike K) := by
  obtain ⟨fd, F⟩ := T.f__law_alike
  refine ⟨fd, F, fb_of F sc__law_alike (fun vs H Q E h => ?_) (fun cdv A outer s H vs Q E hr h => ?_)⟩
  · obtain ⟨t1, g1, m1, t2, g2, m2, D, E, hi, rfl, _⟩ := h
    rfl
  · obtain ⟨t1, g1, m1, t2, g2, m2, D, E', hi, rfl, S1, S2, hD, hE, al, q⟩ := h
    refine ⟨_, (pss_cons (ps_set (i := 3) sc__law_alike.nd rfl (Or.inl rfl) (pe_callB (cr_sortedSA rfl) (by rfl) T.n_sorted (by decide +kernel) (pa_cons (pe_callTy (cr_setI K rfl) (by rfl) T.n_set (by decide +kernel) (pa_cons (pe_op op_cat (c_call (ok__law_edges T) (hr.mono (by decide)) T.g__law_edges T.k__law_edges takes0 (pa_cons (pv 0) pa_nil)) (c_call (ok__law_edges T) (hr.mono (by decide)) T.g__law_edges T.k__law_edges takes0 (pa_cons (pv 1) pa_nil))) pa_nil)) pa_nil)))
      (pss_cons (ps_setLc (i := 4) (own := [("_law_edge", 8)]) (by rfl) sc__law_alike.nd rfl rfl (sw_true rfl rfl rfl (by decide +kernel)) (pi_list (pv 3)) (blkOk_by (own := [("_law_edge", 8)]) (N := ["_law_head", "_law_two", "_law_high", "_law_edges_here", "_law_cuts", "_law_here", "_law_there", "_law_last", "_law_edge", "_law_spot"]) (sc := defScope s__law_alike) (by decide +kernel)) (fun _ _ _ _ _ => (pg_name (i := 8) sc__law_alike.nd rfl (Or.inl rfl))) (fun _ _ _ _ _ => (pts_one (PW.pt (pw_or (pt_cmpR op_isN (pv 2) pe_non (nomark _)) (pw_or1 (pt_cmpR op_lt (pv 8) (pv 2) (nomark _))))))) (fun _ _ _ _ _ => (pv 8)))
      (pss_cons (ps_for (passes_of rfl) rfl (RZ.pi_zipA (by rfl) T.n_zip (pa_cons (pv 4) (pa_cons (pe_op op_cat (pe_slice sl_list (pv 4) (po_some pe_int) po_none) (pe_lst (pa_cons (pv 2) pa_nil))) pa_nil))) (pg_tup (by rfl) (pgs_cons (pg_name (i := 5) sc__law_alike.nd rfl (Or.inl rfl)) (pgs_cons (pg_name (i := 6) sc__law_alike.nd rfl (Or.inl rfl)) pgs_nil)))
      (pss_cons (ps_set (i := 7) sc__law_alike.nd rfl (Or.inl rfl) (pe_op op_add (pv 5) (pe_op op_mul (pe_callB call_len (by rfl) T.n_len (by decide +kernel) (pa_cons (pe_ix ix_tup (pv 0) pe_int (fun _ _ => rfl)) pa_nil)) (pe_callB call_len (by rfl) T.n_len (by decide +kernel) (pa_cons (pe_ix ix_tup (pv 1) pe_int (fun _ _ => rfl)) pa_nil)))))
      (Evl.pss_cut (ps_if (pt_cmpR op_notN (pv 6) pe_non (nomark _))
      (pss_one (ps_set (i := 7) sc__law_alike.nd rfl (Or.inl rfl) (pe_callB (call_min2 rfl) (by rfl) T.n_min (by decide +kernel) (pa_cons (pv 7) (pa_cons (pv 6) pa_nil)))))
      pss_nil)
      (pss_one (ps_if (pt_val (pe_callB (cr_any rfl) (by rfl) T.n_any (by decide +kernel) (pa_cons (pe_lc (own := [("_law_spot", 9)]) (by rfl) sc__law_alike.nd (pi_rangeB (by rfl) T.n_range (pa_cons (pv 5) (pa_cons (pv 7) pa_nil))) (blkOk_by (own := [("_law_spot", 9)]) (N := ["_law_head", "_law_two", "_law_high", "_law_edges_here", "_law_cuts", "_law_here", "_law_there", "_law_last", "_law_edge", "_law_spot"]) (sc := defScope s__law_alike) (by decide +kernel)) (fun _ _ _ _ _ => (pg_name (i := 9) sc__law_alike.nd rfl (Or.inl rfl))) (fun _ _ _ _ _ => pts_nil) (fun _ _ _ _ _ => (pe_cmpR op_ne (c_call (ok__law_has T) (hr.mono (by decide)) T.g__law_has T.k__law_has takes0 (pa_cons (pv 0) (pa_cons (pv 9) pa_nil))) (c_call (ok__law_has T) (hr.mono (by decide)) T.g__law_has T.k__law_has takes0 (pa_cons (pv 1) (pa_cons (pv 9) pa_nil))) (nomark _)))) pa_nil)))
      (pss_one (ps_ret pe_bl))
      pss_nil)))))
      (pss_one (ps_ret pe_bl))))), ?_⟩
    refine ⟨_, rfl, t1, g1, m1, D, rfl, S1, hD, fun p1 es1 H1 X1 np1 hp1 srt1 l1 mem1 => ?_⟩
    refine ⟨_, rfl, t2, g2, m2, E', rfl, S2.mono X1, hE, fun p2 es2 H2 X2 np2 hp2 srt2 l2 mem2 => ?_⟩
    refine ⟨p1, p2, _, _, rfl, rfl, X2 _ _ hp1, hp2, sz_le (by rw [natV_len, natV_len]; omega), fun c nc => ?_⟩
    rw [natV_app]
    dsimp only [tNil]
    have X3 := (X1.trans X2).trans (ex_new (o := .lst (natV (es1 ++ es2))) nc)
    refine ⟨c, (es1 ++ es2).map (fun n : Nat => (n : Int)), rfl, .inl (by rw [← nat_int]; exact sq_lst upd_same), by rw [List.length_map, List.length_append]; omega, fun s n ns hn => ?_⟩
    dsimp only [tNil]
    refine ⟨s, _, _, rfl, upd_same, fun es p srtd mem le np => ?_⟩
    have h0 : ∀ i ∈ es, 0 ≤ i := fun i hi => by
      obtain ⟨x, _, e⟩ := List.mem_map.mp (of_decide_eq_true ((mem i).mp hi))
      omega
    rw [natV_toNat h0]
    have X5 := X3.trans ((ex_new ns).trans (ex_new (o := .lst (natV (es.map Int.toNat))) np))
    have hp5 : ∀ G : Hp, upd G p (.lst (natV (es.map Int.toNat))) p = some (.lst (natV (es.map Int.toNat))) := fun G => upd_same
    have l200 : (es.map Int.toNat).length ≤ 250 := by
      rw [List.length_map]
      rw [List.length_map, List.length_append] at hn
      omega
    generalize es.map Int.toNat = es' at X5 hp5 l200 ⊢
    refine ⟨_, rfl, p, rfl, ⟨_, sq_lst (hp5 _)⟩, fun A nA => lc_on es' (fun n : Nat => V.int n) L2.walk_list (fun x => if inH hi x = true then some (.int (x : Nat)) else none) (fun H' => Ex _ H') (fun H' z e => ex_mut e nA) (.refl _) (by omega) (fun H' e => sq_lst (e _ _ (hp5 _))) (fun i x H3 acc N hx X3 hA la k => ?_) fun H6 X6 d6 => ?_⟩
    · have kk := k H3 X3 hA
      refine ⟨rfl, _, rfl, rfl, _, rfl, ?_⟩
      cases hi with
      | none =>
        have e1 : inH none x = true := rfl
        simp only [e1, if_true] at kk
        exact ⟨_, rfl, acc, hA, la, kk⟩
      | some h =>
        refine iteF ?_
        refine ⟨_, rfl, _, rfl, _, _, rfl, rfl, _, rfl, ?_⟩
        by_cases c2 : x < h
        · have e1 : inH (some h) x = true := decide_eq_true c2
          simp only [e1, if_true] at kk
          rw [decide_eq_true (show ((x : Nat) : Int) < ((h : Nat) : Int) by omega)]
          exact ⟨_, rfl, acc, hA, la, kk⟩
        · have e1 : inH (some h) x = false := decide_eq_false c2
          simp only [e1, if_false, Bool.false_eq_true] at kk
          rw [decide_eq_false (show ¬ ((x : Nat) : Int) < ((h : Nat) : Int) by omega)]
          exact kk
    have ef : es'.filterMap (fun x => if inH hi x = true then some (V.int (x : Nat)) else none) = natV (es'.filter (inH hi)) := by
      unfold natV
      rw [← List.filterMap_eq_map, List.filterMap_filter]
      refine congrArg (fun f => es'.filterMap f) (funext fun x => ?_)
      cases c : inH hi x <;> simp
    rw [ef] at d6
    have lC : (es'.filter (inH hi)).length ≤ 250 := Nat.le_trans (List.length_filter_le _ _) l200
    have hC2 : ∀ c ∈ es'.filter (inH hi), ∀ h, hi = some h → c < h := fun c hc h hh => by
      have h2 := (List.mem_filter.mp hc).2
      rw [hh] at h2
      exact of_decide_eq_true h2
    have hC3 : ∀ x ∈ ((es'.filter (inH hi)).drop 1).map some ++ [hi], ∀ h, hi = some h → ∃ y, x = some y ∧ y ≤ h := fun x hx h hh => by
      rcases List.mem_append.mp hx with hx | hx
      · obtain ⟨y, hy, e⟩ := List.mem_map.mp hx
        exact ⟨y, e.symm, Nat.le_of_lt (hC2 y (List.mem_of_mem_drop hy) h hh)⟩
      · rw [List.mem_singleton.mp hx, hh]
        exact ⟨h, rfl, Nat.le_refl _⟩
    have X06 := X5.trans X6
    generalize es'.filter (inH hi) = C at d6 hC2 hC3 lC ⊢
    refine ⟨_, rfl, _, rfl, _, rfl, A, _, rfl, sq_lst d6, fun sl nsl => ?_⟩
    rw [cut1]
    refine ⟨_, rfl, by show 1 ≤ sizeLine; decide, fun n1 nn1 => ?_⟩
    have Y5 := fun o => (ex_new nsl).trans (ex_new (o := o) nn1)
    refine ⟨sl, n1, _, _, rfl, rfl, ex_new nn1 _ _ upd_same, upd_same, sz_le (by rw [List.length_drop, natV_len]; show _ + 1 ≤ _; omega), fun nx nnx => ?_⟩
    have en : (natV C).drop 1 ++ [optV hi] = ((C.drop 1).map some ++ [hi]).map optV := by
      unfold natV
      rw [List.map_append, List.map_map, List.map_drop]
      rfl
    rw [en]
    have Y6 := (Y5 _).trans (ex_new (o := .lst (((C.drop 1).map some ++ [hi]).map optV)) nnx)
    have hst5 := Y6 _ _ d6
    have X7 := X06.trans Y6
    have hnx : upd (upd (upd H6 sl (.lst ((natV C).drop 1))) n1 (.lst [optV hi])) nx (.lst (((C.drop 1).map some ++ [hi]).map optV)) nx = some (.lst (((C.drop 1).map some ++ [hi]).map optV)) := upd_same
    generalize upd (upd (upd H6 sl (.lst ((natV C).drop 1))) n1 (.lst [optV hi])) nx (.lst (((C.drop 1).map some ++ [hi]).map optV)) = H7 at hst5 X7 hnx ⊢
    generalize hNx : (C.drop 1).map some ++ [hi] = Nx at hnx hC3
    have bD := bits_len hD.1
    have bE := bits_len hE.1
    have lsD : (SX.S D.bits).length ≤ sizeLine := Nat.le_of_lt (small_len (by rw [SX.S_len]; omega))
    have lsE : (SX.S E'.bits).length ≤ sizeLine := Nat.le_of_lt (small_len (by rw [SX.S_len]; omega))
    refine ⟨A, nx, _, _, rfl, .inl ⟨sq_lst hst5, sq_lst hnx, for_it (L2.walk_zip rfl) (fun i σ H' => Ex H7 H' ∧ ∃ v5 v6 v7 v8 v9, σ = [some (.ref t1), some (.ref t2), some (optV hi), some (.ref p), some (.ref A), v5, v6, v7, v8, v9]) ⟨.refl _, _, _, _, _, _, rfl⟩ (fun i σ H' _ p => ⟨sq_lst (p.1 _ _ hst5), sq_lst (p.1 _ _ hnx)⟩) ?_ ?_⟩⟩
    · rintro i x σ H8 H9 hi8 ⟨X8, v5, v6, v7, v8, v9, rfl⟩ ⟨u, x1, x2, rfl, nu, rfl, g1', g2'⟩
      dsimp only at g1' g2'
      unfold natV at g1'
      rw [List.getElem?_map] at g1' g2'
      obtain ⟨c, hc, rfl⟩ := Option.map_eq_some_iff.mp g1'
      obtain ⟨n, hn, rfl⟩ := Option.map_eq_some_iff.mp g2'
      have hn1 := hC3 n (List.mem_of_getElem? hn)
      have X9 := X8.trans (ex_new (o := .tup [.int (c : Nat), optV n]) nu)
      refine ⟨u, _, rfl, sq_tup upd_same, rfl, _, _, rfl, _, _, rfl, rfl, ?_⟩
      generalize upd H8 u (.tup [.int (c : Nat), optV n]) = H9 at X9 ⊢
      have S19 := S1.mono (X7.trans X9)
      have S29 := S2.mono (X7.trans X9)
      refine ⟨_, rfl, _, rfl, t1, _, 0, _, rfl, rfl, sq_tup S19.1, rfl, _, D.bits.length, rfl, ⟨lsD, (SX.S_len _).symm⟩, _, rfl, t2, _, 0, _, rfl, rfl, sq_tup S29.1, rfl, _, E'.bits.length, rfl, ⟨lsE, (SX.S_len _).symm⟩, ?_⟩
      have dl49 : D.bits.length * E'.bits.length ≤ 49 := Nat.mul_le_mul bD.2 bE.2
      refine ⟨_, _, rfl, rfl, .inl ⟨by omega, by omega⟩, _, _, rfl, rfl, ?_⟩
      have ec : ((c : Nat) : Int) + ((D.bits.length : Nat) : Int) * ((E'.bits.length : Nat) : Int) = ((c + D.bits.length * E'.bits.length : Nat) : Int) := by simp
      generalize hdl : D.bits.length * E'.bits.length = dl at *
      refine ⟨fun σ' H' => H' = H9 ∧ ∃ l : Nat, (∀ h, hi = some h → l ≤ h) ∧ l ≤ c + dl ∧ ∃ v8 v9, σ' = [some (.ref t1), some (.ref t2), some (optV hi), some (.ref p), some (.ref A), some (.int (c : Nat)), some (optV n), some (.int (l : Nat)), v8, v9], ?_, ?_⟩
      · refine ⟨_, rfl, rfl, _, rfl, ?_⟩
        cases n with
        | none =>
          refine ⟨rfl, c + dl, fun h hh => ?_, Nat.le_refl _, v8, v9, ?_⟩
          · obtain ⟨y, e, _⟩ := hn1 h hh
            cases e
          · rw [← ec]
            rfl
        | some y =>
          refine iteT ?_
          refine ⟨_, rfl, _, rfl, _, _, rfl, rfl, min (c + dl) y, fun h hh => ?_, by omega, v8, v9, ?_⟩
          · obtain ⟨z, e, hz⟩ := hn1 h hh
            cases e
            omega
          · have e9 : (if ((y : Nat) : Int) < ((c : Nat) : Int) + ((D.bits.length : Nat) : Int) * ((E'.bits.length : Nat) : Int) then ((y : Nat) : Int) else ((c : Nat) : Int) + ((D.bits.length : Nat) : Int) * ((E'.bits.length : Nat) : Int)) = ((min (c + dl) y : Nat) : Int) := by rw [ec]; split <;> omega
            rw [e9]
            rfl
      · rintro σ' H10 ⟨rfl, l, hl, hl7, v8, v9, rfl⟩
        refine ⟨_, rfl, _, rfl, _, _, rfl, fun A2 nA2 => lc_rg (fun i => some (.bl false)) (fun H' => Ex H10 H') (fun H' z e => ex_mut e nA2) (.refl _) (by omega) (fun i H11 acc N hi10 X11 hA la k => ?_) fun H11 X11 d11 => ?_⟩
        · refine ⟨rfl, _, rfl, _, rfl, t1, g1, m1, D, c + i, rfl, S19.mono X11, hD, _, rfl, _, rfl, t2, g2, m2, E', c + i, rfl, S29.mono X11, hE, rfl, acc, hA, la, ?_⟩
          rw [al (c + i) fun h hh => by have := hl h hh; omega]
          simp only [decide_true, Bool.not_true]
          exact k H11 X11 hA
        · rw [fm_const] at d11
          refine ⟨A2, List.replicate _ false, rfl, sq_lst (by rw [List.map_replicate]; exact d11), ?_⟩
          rw [any_rep]
          exact ⟨false, rfl, X9.trans X11, _, _, _, _, _, rfl⟩
    · rintro σ H8 ⟨X8, v5, v6, v7, v8, v9, rfl⟩
      exact q H8 (X7.trans X8)

theorem ok__law_alike {P : Program} {w : World} {K : PySem.W.Frag} {mg : Str → Option Value} {base : Heap} (T : Env K mg) : Fc P w K mg base 2 (He.ga K "_law_alike") [] (sp__law_alike K) := by
  obtain ⟨fd, D, F⟩ := fb__law_alike T
  exact F.all (D.bindsN fun _ _ _ _ _ _ us hl => match us, hl with | [_, _, _], _ => rfl)
end
section
def sp__law_right (K : PySem.W.Frag) : Sp := fun vs H Q _ => ∃ (t1 g1 m1 t2 g2 m2 : Addr) (D E : DaysD) (r : Option Nat), vs = [optV r, .ref t1, .ref t2] ∧ SomeAt H t1 g1 m1 D ∧ SomeAt H t2 g2 m2 E ∧ D.ok ∧ E.ok ∧ isFst (fun d => dHas D d != dHas E d) 0 r ∧ ∀ H', Ex H H' → Q (.bl true) H'
theorem fb__law_right {P : Program} {w : World} {K : PySem.W.Frag} {mg : Str → Option Value} {base : Heap} (T : Env K mg) : ∃ fd, FunD K "_law_right" "_law_right" (defArgs s__law_right) (defBody s__law_right) (defScope s__law_right) [] [] (He.ga K "_law_right") fd ∧ Fb P w K mg base 3 (He.ga K "_law_right") fd ["_law_found", "_law_head", "_law_two"] (sp__law_right K) := by
  obtain ⟨fd, F⟩ := T.f__law_right
  refine ⟨fd, F, fb_of F sc__law_right (fun vs H Q E h => ?_) (fun cdv A outer s H vs Q E hr h => ?_)⟩
  · obtain ⟨t1, g1, m1, t2, g2, m2, D, E, r, rfl, _⟩ := h
    rfl
  · obtain ⟨t1, g1, m1, t2, g2, m2, D, E', r, rfl, S1, S2, hD, hE, hfst, q⟩ := h
    refine ⟨_, (pss_cons (ps_if (pt_cmpR op_isN (pv 0) pe_non (nomark _))
      (pss_one (ps_ret (c_call (ok__law_alike T) (hr.mono (by decide)) T.g__law_alike T.k__law_alike takes0 (pa_cons (pv 1) (pa_cons (pv 2) (pa_cons pe_non pa_nil))))))
      pss_nil)
      (pss_cons (ps_if (PW.pt (pw_or (pt_not (pt_val (pe_callB call_isi (by rfl) T.n_isinstance (by decide +kernel) (pa_cons (pv 0) (pa_cons (pe_bltn (v := .ty "int") (by rfl) T.n_int (by decide +kernel) rfl) pa_nil))))) (pw_or (pt_val (pe_callB call_isi (by rfl) T.n_isinstance (by decide +kernel) (pa_cons (pv 0) (pa_cons (pe_bltn (v := .ty "bool") (by rfl) T.n_bool (by decide +kernel) rfl) pa_nil)))) (pw_or1 (pt_cmpR op_lt (pv 0) pe_int (nomark _))))))
      (pss_one (ps_ret pe_bl))
      pss_nil)
      (pss_one (ps_ret (pe_and (pe_cmpR op_ne (c_call (ok__law_has T) (hr.mono (by decide)) T.g__law_has T.k__law_has takes0 (pa_cons (pv 1) (pa_cons (pv 0) pa_nil))) (c_call (ok__law_has T) (hr.mono (by decide)) T.g__law_has T.k__law_has takes0 (pa_cons (pv 2) (pa_cons (pv 0) pa_nil))) (nomark _)) (pe_one (c_call (ok__law_alike T) (hr.mono (by decide)) T.g__law_alike T.k__law_alike takes0 (pa_cons (pv 1) (pa_cons (pv 2) (pa_cons (pv 0) pa_nil)))))))))), ?_⟩
    cases r with
    | none =>
      refine ⟨_, rfl, rfl, _, rfl, iteT ?_⟩
      refine ⟨_, rfl, _, rfl, t1, g1, m1, t2, g2, m2, D, E', none, rfl, S1, S2, hD, hE, fun d _ => ?_, fun H' X => q H' X⟩
      exact eq_of_beq (by simpa using hfst d (Nat.zero_le _))
    | some n =>
      obtain ⟨_, h1, h2⟩ := hfst
      refine ⟨_, rfl, rfl, _, rfl, iteF ?_⟩
      refine ⟨_, rfl, _, .ty "int", _, _, true, rfl, .ty "int", .base (.int _), kit_ty (by decide +kernel), true, rfl, ?_⟩
      refine ⟨_, rfl, _, .ty "bool", _, _, false, rfl, .ty "bool", .base (.int _), kit_ty (by decide +kernel), false, rfl, ?_⟩
      refine ⟨_, rfl, _, _, rfl, rfl, _, rfl, ?_⟩
      rw [decide_eq_false (show ¬ ((n : Nat) : Int) < 0 by omega)]
      refine iteF ?_
      refine ⟨_, rfl, _, rfl, t1, g1, m1, D, n, rfl, S1, hD, _, rfl, _, rfl, t2, g2, m2, E', n, rfl, S2, hE, rfl, ?_⟩
      have eb : (!decide (V.bl (dHas D n) = V.bl (dHas E' n))) = true := by
        have h1 : (dHas D n != dHas E' n) = true := h1
        cases hx : dHas D n <;> cases hy : dHas E' n <;> rw [hx, hy] at h1 <;> first | rfl | cases h1
      rw [eb]
      refine ⟨true, rfl, iteT ?_⟩
      refine ⟨_, rfl, _, rfl, _, rfl, t1, g1, m1, t2, g2, m2, D, E', some n, rfl, S1, S2, hD, hE, fun d hd => ?_, fun H' X => q H' X⟩
      exact eq_of_beq (by simpa using h2 d (Nat.zero_le _) (hd n rfl))

theorem ok__law_right {P : Program} {w : World} {K : PySem.W.Frag} {mg : Str → Option Value} {base : Heap} (T : Env K mg) : Fc P w K mg base 3 (He.ga K "_law_right") [] (sp__law_right K) := by
  obtain ⟨fd, D, F⟩ := fb__law_right T
  exact F.all (D.bindsN fun _ _ _ _ _ _ us hl => match us, hl with | [_, _, _], _ => rfl)
end
section
theorem dec_mono {K : PySem.W.Frag} {H H' : Hp} {v : V} (e : Ex H H') (d : Dec K H v) : Dec K H' v := by
  cases d with
  | non => exact .non
  | bl b => exact .bl b
  | int i => exact .int i
  | str z => exact .str z
  | lst h => exact .lst (ex_sql e h)
  | tup h => exact .tup (ex_sqt e h)
  | dK h => exact .dK (e _ _ h)
/-- a thing that is no ring -/
def OddR (K : PySem.W.Frag) (H : Hp) (v : V) : Prop := (∃ t, TyX K H v t ∧ PySem.W.kitOne K t (.ref (He.ga K "Ring")) = some false) ∧ (Dec K H v ∨ ∃ x D, v = .ref x ∧ DaysAt K H x D ∧ D.ok)
theorem OddR.mono {K : PySem.W.Frag} {H H' : Hp} {v : V} (e : Ex H H') (h : OddR K H v) : OddR K H' v := by
  obtain ⟨⟨t, ty, kt⟩, h⟩ := h
  refine ⟨⟨t, tyX_mono e ty, kt⟩, ?_⟩
  rcases h with h | ⟨x, D, h1, h2, h3⟩
  · exact .inl (dec_mono e h)
  · exact .inr ⟨x, D, h1, h2.mono e, h3⟩
/-- a thing that is no Days -/
def OddD (K : PySem.W.Frag) (H : Hp) (v : V) : Prop := (∃ t, TyX K H v t ∧ PySem.W.kitOne K t (.ref (He.ga K "Days")) = some false) ∧ (Dec K H v ∨ ∃ x l, v = .ref x ∧ RingAt K H x l ∧ sgn l = true)
theorem OddD.mono {K : PySem.W.Frag} {H H' : Hp} {v : V} (e : Ex H H') (h : OddD K H v) : OddD K H' v := by
  obtain ⟨⟨t, ty, kt⟩, h⟩ := h
  refine ⟨⟨t, tyX_mono e ty, kt⟩, ?_⟩
  rcases h with h | ⟨x, l, h1, ⟨dx, h2⟩, h3⟩
  · exact .inl (dec_mono e h)
  · exact .inr ⟨x, l, h1, ⟨dx, e _ _ h2⟩, h3⟩
theorem zeros_eqv (n : Nat) : PyData.eqvAll (List.replicate n (PyData.int 0)) (List.replicate n (PyData.int 0)) = true := by
  induction n with
  | zero => rfl
  | succ n ih =>
    rw [List.replicate_succ]
    show (decide ((0 : Int) = 0) && _) = true
    rw [ih]
    rfl

end
section
def sp__law_unlike (K : PySem.W.Frag) : Sp := fun vs H Q _ => ∃ (a t g m : Addr) (D : DaysD), vs = [.ref a, .ref t] ∧ DaysAt K H a D ∧ SomeAt H t g m D ∧ D.ok ∧ D.fit 150 ∧ ∀ H', Ex H H' → Q (.bl true) H'
theorem fb__law_unlike {P : Program} {w : World} {K : PySem.W.Frag} {mg : Str → Option Value} {base : Heap} (T : Env K mg) : ∃ fd, FunD K "_law_unlike" "_law_unlike" (defArgs s__law_unlike) (defBody s__law_unlike) (defScope s__law_unlike) [] [] (He.ga K "_law_unlike") fd ∧ Fb P w K mg base 9 (He.ga K "_law_unlike") fd ["_law_days", "_law_some_here"] (sp__law_unlike K) := by
  obtain ⟨fd, F⟩ := T.f__law_unlike
  refine ⟨fd, F, fb_of F sc__law_unlike (fun vs H Q E h => ?_) (fun cdv A outer s H vs Q E hr h => ?_)⟩
  · obtain ⟨a, t, g, m, D, rfl, _⟩ := h
    rfl
  · obtain ⟨a, t, g, m, D, rfl, hA, hS, hD, hF, q⟩ := h
    refine ⟨_, (pss_cons (ps_set (i := 2) sc__law_unlike.nd rfl (Or.inl rfl) (pe_lst (pa_cons (pe_callTy (call_strO T.m_Days_str (ok_Days_str T) (hr.mono (by decide))) (by rfl) T.n_str (by decide +kernel) (pa_cons (pv 0) pa_nil)) (pa_cons (c_make T.mk_Ring (ok_Ring_init T) (hr.mono (by decide)) T.g_Ring takes0 (pa_cons (pe_ix ix_tup (pv 1) pe_int (fun _ _ => rfl)) pa_nil)) (pa_cons (pe_lst (pa_cons (pv 0) pa_nil)) (pa_cons pe_non (pa_cons (pe_ix ix_tup (pv 1) pe_int (fun _ _ => rfl)) (pa_cons pe_bl (pa_cons (pe_tup (pa_cons (pe_ix ix_tup (pv 1) pe_int (fun _ _ => rfl)) pa_nil)) (pa_cons pe_dnewK pa_nil))))))))))
      (pss_one (ps_ret (pe_cmpR (op_eqD hr.rm.units) (pe_op op_cat (pe_lc (own := [("_law_thing", 3)]) (by rfl) sc__law_unlike.nd (pi_list (pv 2)) (blkOk_by (own := [("_law_thing", 3)]) (N := ["_law_days", "_law_some_here", "_law_things", "_law_thing"]) (sc := defScope s__law_unlike) (by decide +kernel)) (fun _ _ _ _ _ => (pg_name (i := 3) sc__law_unlike.nd rfl (Or.inl rfl))) (fun _ _ _ _ _ => pts_nil) (fun _ _ _ _ _ => (pe_callTy call_int1 (by rfl) T.n_int (by decide +kernel) (pa_cons (pe_cmpR (op_eqO (rco_or (rco_mono (k := 7) (rco_or (rco_LK K T.m_Days_eq (ok_Days_eq T)) (rco_RK K T.nb_Days T.m_Days_eq (ok_Days_eq T))) (by decide)) (rco_mono (k := 7) (rco_or (rco_LK K T.m_Ring_eq (ok_Ring_eq T)) (rco_RK K T.nb_Ring T.m_Ring_eq (ok_Ring_eq T))) (by decide))) (hr.mono (by decide))) (pv 0) (pv 3) (nomark _)) pa_nil)))) (pe_lc (own := [("_law_thing", 3)]) (by rfl) sc__law_unlike.nd (pi_list (pv 2)) (blkOk_by (own := [("_law_thing", 3)]) (N := ["_law_days", "_law_some_here", "_law_things", "_law_thing"]) (sc := defScope s__law_unlike) (by decide +kernel)) (fun _ _ _ _ _ => (pg_name (i := 3) sc__law_unlike.nd rfl (Or.inl rfl))) (fun _ _ _ _ _ => pts_nil) (fun _ _ _ _ _ => (pe_callTy call_int1 (by rfl) T.n_int (by decide +kernel) (pa_cons (pe_cmpR (op_eqO (rco_or (rco_mono (k := 7) (rco_or (rco_LK K T.m_Days_eq (ok_Days_eq T)) (rco_RK K T.nb_Days T.m_Days_eq (ok_Days_eq T))) (by decide)) (rco_mono (k := 7) (rco_or (rco_LK K T.m_Ring_eq (ok_Ring_eq T)) (rco_RK K T.nb_Ring T.m_Ring_eq (ok_Ring_eq T))) (by decide))) (hr.mono (by decide))) (pv 3) (pv 0) (nomark _)) pa_nil))))) (pe_op op_rep (pe_lst (pa_cons pe_int pa_nil)) pe_int) (nomark _))))), ?_⟩
    have hA0 := hA
    obtain ⟨hs, _⟩ := id hD
    obtain ⟨da, ra, poa, paa, ha, _⟩ := id hA
    refine ⟨_, rfl, a, da, _, rfl, ha, a, D, rfl, hA, hD, hF, fun H1 X1 => ⟨trivial, ?_⟩⟩
    have S1 := hS.mono X1
    refine ⟨_, rfl, t, _, 0, _, rfl, rfl, sq_tup S1.1, rfl, fun x dx nx nd ne => ring_new nx nd ne hs fun H2 X2 R2 => ⟨rfl, ?_⟩⟩
    have S2 := S1.mono X2
    refine ⟨_, rfl, by show 1 ≤ sizeLine; decide, fun u1 n1 => ?_⟩
    have X3 := ex_new (o := .lst [.ref a]) n1
    have S3 := S2.mono X3
    refine ⟨_, rfl, t, _, 1, _, rfl, rfl, sq_tup S3.1, rfl, _, rfl, t, _, 0, _, rfl, rfl, sq_tup S3.1, rfl, by show 1 ≤ sizeLine; decide, fun u3 n3 u4 n4 => ?_⟩
    have X4 := ex_new (o := .tup [.str (SX.S D.bits)]) n3
    have X5 := ex_new (o := .dK []) n4
    refine ⟨by show 8 ≤ sizeLine; decide, fun u5 n5 => ?_⟩
    have X6 := ex_new (o := .lst [.str (SX.S (dtxt D)), .ref x, .ref u1, .non, .int (D.since : Nat), .bl true, .ref u3, .ref u4]) n5
    have X36 := X3.trans (X4.trans (X5.trans X6))
    have XA := X1.trans (X2.trans X36)
    have g1 : upd (upd (upd (upd H2 u1 (HO.lst [V.ref a])) u3 (HO.tup [V.str (SX.S D.bits)])) u4 (HO.dK [])) u5 (HO.lst [V.str (SX.S (dtxt D)), V.ref x, V.ref u1, V.non, V.int ↑D.since, V.bl true, V.ref u3, V.ref u4]) u1 = some (.lst [.ref a]) := (X4.trans (X5.trans X6)) _ _ upd_same
    have g3 : upd (upd (upd (upd H2 u1 (HO.lst [V.ref a])) u3 (HO.tup [V.str (SX.S D.bits)])) u4 (HO.dK [])) u5 (HO.lst [V.str (SX.S (dtxt D)), V.ref x, V.ref u1, V.non, V.int ↑D.since, V.bl true, V.ref u3, V.ref u4]) u3 = some (.tup [.str (SX.S D.bits)]) := (X5.trans X6) _ _ upd_same
    have g4 : upd (upd (upd (upd H2 u1 (HO.lst [V.ref a])) u3 (HO.tup [V.str (SX.S D.bits)])) u4 (HO.dK [])) u5 (HO.lst [V.str (SX.S (dtxt D)), V.ref x, V.ref u1, V.non, V.int ↑D.since, V.bl true, V.ref u3, V.ref u4]) u4 = some (.dK []) := X6 _ _ upd_same
    have gx := R2.mono X36
    have g5 : upd (upd (upd (upd H2 u1 (HO.lst [V.ref a])) u3 (HO.tup [V.str (SX.S D.bits)])) u4 (HO.dK [])) u5 (HO.lst [V.str (SX.S (dtxt D)), V.ref x, V.ref u1, V.non, V.int ↑D.since, V.bl true, V.ref u3, V.ref u4]) u5 = some (.lst [V.str (SX.S (dtxt D)), V.ref x, V.ref u1, V.non, V.int ↑D.since, V.bl true, V.ref u3, V.ref u4]) := upd_same
    generalize upd (upd (upd (upd H2 u1 (HO.lst [V.ref a])) u3 (HO.tup [V.str (SX.S D.bits)])) u4 (HO.dK [])) u5 (HO.lst [V.str (SX.S (dtxt D)), V.ref x, V.ref u1, V.non, V.int ↑D.since, V.bl true, V.ref u3, V.ref u4]) = G at XA g1 g3 g4 gx g5 ⊢
    have odd : ∀ v ∈ [V.str (SX.S (dtxt D)), V.ref x, V.ref u1, V.non, V.int ↑D.since, V.bl true, V.ref u3, V.ref u4], OddD K G v := by
      intro v hv
      simp only [List.mem_cons, List.not_mem_nil, or_false] at hv
      rcases hv with rfl | rfl | rfl | rfl | rfl | rfl | rfl | rfl
      · exact ⟨⟨_, .base (.str _), T.kit_str_Days⟩, .inl (.str _)⟩
      · obtain ⟨dx', h1⟩ := id gx
        exact ⟨⟨_, ty_ins T.i_Ring T.c_Ring h1, T.kit_Ring_Days⟩, .inr ⟨x, _, rfl, gx, hs⟩⟩
      · exact ⟨⟨_, .base (.lst g1), T.kit_list_Days⟩, .inl (.lst (sq_lst g1))⟩
      · exact ⟨⟨_, .base .non, T.kit_NoneType_Days⟩, .inl .non⟩
      · exact ⟨⟨_, .base (.int _), T.kit_int_Days⟩, .inl (.int _)⟩
      · exact ⟨⟨_, .base (.bl _), T.kit_bool_Days⟩, .inl (.bl _)⟩
      · exact ⟨⟨_, .base (.tup g3), T.kit_tuple_Days⟩, .inl (.tup (sq_tup g3))⟩
      · exact ⟨⟨_, .base (.dK g4), T.kit_dict_Days⟩, .inl (.dK g4)⟩
    generalize hth : [V.str (SX.S (dtxt D)), V.ref x, V.ref u1, V.non, V.int ↑D.since, V.bl true, V.ref u3, V.ref u4] = th at g5 odd
    have lth : th.length = 8 := by rw [← hth]; rfl
    have g5' : G u5 = some (.lst (th.map fun v => v)) := by rw [List.map_id']; exact g5
    refine ⟨_, rfl, u5, rfl, ⟨_, sq_lst g5'⟩, fun A nA => lc_on th (fun v => v) L2.walk_list (fun _ => some (V.int 0)) (fun H' => Ex G H') (fun H' z e => ex_mut e nA) (.refl _) (by omega) (fun H' e => sq_lst (e _ _ g5')) (fun j v H6 acc N hx X6 hA la k => ?_) fun H6 X6 d6 => ?_⟩
    · have kk := k H6 X6 hA
      have ha6 := (XA.trans X6) _ _ ha
      obtain ⟨⟨t, ty, kt⟩, _⟩ := (odd v (List.mem_of_getElem? hx)).mono X6
      exact ⟨rfl, _, rfl, _, rfl, .inl (.inl ⟨a, da, _, t, rfl, ha6, ty, .inr kt, a, D, v, rfl, hA0.mono (XA.trans X6), hD, .inr ⟨t, ty, kt, .inr ⟨false, rfl, acc, hA, la, kk⟩⟩⟩)⟩
    have z8 : (th.filterMap fun _ => some (V.int 0)) = List.replicate 8 (V.int 0) := by
      rw [← lth]
      clear hth g5 odd g5' d6 lth
      induction th with
      | nil => rfl
      | cons v r ih =>
        rw [List.filterMap_cons, List.length_cons, List.replicate_succ]
        simp only
        rw [ih]
    rw [z8] at d6
    have X6' := XA.trans X6
    refine ⟨_, rfl, u5, rfl, ⟨_, sq_lst (X6 _ _ g5')⟩, fun B nB => lc_on th (fun v => v) L2.walk_list (fun _ => some (V.int 0)) (fun H' => Ex H6 H') (fun H' z e => ex_mut e nB) (.refl _) (by omega) (fun H' e => sq_lst (e _ _ (X6 _ _ g5'))) (fun j v H7 acc N hx X7 hB la k => ?_) fun H7 X7 d7 => ?_⟩
    · have kk := k H7 X7 hB
      have hA7 := hA.mono (X6'.trans X7)
      have ha7 := (X6'.trans X7) _ _ ha
      obtain ⟨⟨t, ty, kt⟩, h⟩ := (odd v (List.mem_of_getElem? hx)).mono (X6.trans X7)
      rcases h with h | ⟨y, l, rfl, hy, hl⟩
      · exact ⟨rfl, _, rfl, _, rfl, .inl (.inr ⟨a, da, _, rfl, ha7, h, a, D, v, rfl, hA7, hD, .inr ⟨t, ty, kt, .inr ⟨false, rfl, acc, hB, la, kk⟩⟩⟩)⟩
      · obtain ⟨dy, h1⟩ := id hy
        exact ⟨rfl, _, rfl, _, rfl, .inr (.inl ⟨y, dy, _, _, rfl, h1, ty_ins T.i_Days T.c_Days ha7, .inr T.kit_Days_Ring, y, l, _, rfl, hy, hl, .inr ⟨_, ty_ins T.i_Days T.c_Days ha7, T.kit_Days_Ring, .inr ⟨false, rfl, acc, hB, la, kk⟩⟩⟩)⟩
    rw [z8] at d7
    refine ⟨A, B, _, _, rfl, rfl, X7 _ _ d6, d7, by show 8 + 8 ≤ sizeLine; decide, fun C nC => ?_⟩
    refine ⟨by show 1 ≤ sizeLine; decide, fun M nM => ?_⟩
    refine ⟨M, 16, _, rfl, rfl, upd_same, by decide, by decide, by show 1 * 16 ≤ sizeLine; decide, fun N nN => ?_⟩
    have XC := ex_new (o := .lst (List.replicate 8 (V.int 0) ++ List.replicate 8 (V.int 0))) nC
    have XM := ex_new (o := .lst [V.int 0]) nM
    have XN := ex_new (o := .lst (List.replicate (16 : Int).toNat [V.int 0]).flatten) nN
    have z16 : ∀ (G : Hp) (n : Nat), DpAll K G (List.replicate n (V.int 0)) (List.replicate n (PyData.int 0)) := fun G n => by
      induction n with
      | zero => exact .nil
      | succ n ih => exact .cons (.int 0) ih
    refine ⟨.list (List.replicate 16 (.int 0)), .list (List.replicate 16 (.int 0)), .lst (sq_lst ((XM.trans XN) _ _ upd_same)) (z16 _ 16), .lst (sq_lst upd_same) (z16 _ 16), rfl, rfl, ?_⟩
    have e : PyData.eqv (.list (List.replicate 16 (.int 0))) (.list (List.replicate 16 (.int 0))) = true := zeros_eqv 16
    rw [e]
    exact q _ ((X6'.trans X7).trans ((XC.trans XM).trans XN))

theorem ok__law_unlike {P : Program} {w : World} {K : PySem.W.Frag} {mg : Str → Option Value} {base : Heap} (T : Env K mg) : Fc P w K mg base 9 (He.ga K "_law_unlike") [] (sp__law_unlike K) := by
  obtain ⟨fd, D, F⟩ := fb__law_unlike T
  exact F.all (D.bindsN fun _ _ _ _ _ _ us hl => match us, hl with | [_, _], _ => rfl)
end
section
theorem isFst_uniq {f : Nat → Bool} {b : Nat} {r s : Option Nat} (h : isFst f b r) (h' : isFst f b s) : r = s := by
  cases r with
  | none =>
    cases s with
    | none => rfl
    | some n =>
      obtain ⟨h1, h2, _⟩ := h'
      have e := h n h1
      rw [h2] at e
      cases e
  | some k =>
    obtain ⟨g1, g2, g3⟩ := h
    cases s with
    | none =>
      have e := h' k g1
      rw [g2] at e
      cases e
    | some n =>
      obtain ⟨h1, h2, h3⟩ := h'
      rcases Nat.lt_trichotomy k n with c | c | c
      · have e := h3 k g1 c
        rw [g2] at e
        cases e
      · rw [c]
      · have e := g3 n h1 c
        rw [h2] at e
        cases e

end
section
theorem edges_fit {D : DaysD} (hL : D.fit 53) : ∀ e ∈ edgesOf D, e ≤ 10 ^ 54 := fun e he => by
  obtain ⟨b1, b2, b3, b4⟩ := hL
  rcases mem_edges.mp he with h | ⟨t, ht, h⟩ | ⟨x, hx, h⟩
  · omega
  · have := b2 t ht
    omega
  · have : x < 10 ^ 53 := by
      rcases hx with hx | hx
      · exact b3 x hx
      · exact b4 x hx
    omega
theorem apart_bound {D E : DaysD} {n : Nat} (hD : D.ok) (hE : E.ok) (fD : D.fit 53) (fE : E.fit 53) (h : isFst (fun d => dHas D d != dHas E d) 0 (some n)) : n < 10 ^ 60 := by
  obtain ⟨h1, h2, h3⟩ := h
  refine Decidable.by_contra fun c => ?_
  have bD := bits_len hD.1
  have bE := bits_len hE.1
  have dl : D.bits.length * E.bits.length ≤ 49 := Nat.mul_le_mul bD.2 bE.2
  have dl1 : 0 < D.bits.length * E.bits.length := Nat.mul_pos (by omega) (by omega)
  have eD := dHas_per (D := D) (m := D.bits.length * E.bits.length) (es := edgesOf D) (Nat.mul_mod_right _ _) (fun e he => he) (n - D.bits.length * E.bits.length) fun x hx a b => by
    have := edges_fit fD x hx
    omega
  have eE := dHas_per (D := E) (m := D.bits.length * E.bits.length) (es := edgesOf E) (Nat.mul_mod_left _ _) (fun e he => he) (n - D.bits.length * E.bits.length) fun x hx a b => by
    have := edges_fit fE x hx
    omega
  rw [show n - D.bits.length * E.bits.length + D.bits.length * E.bits.length = n by omega] at eD eE
  have z := h3 (n - D.bits.length * E.bits.length) (by omega) (by omega)
  dsimp only at z h2
  rw [← eD, ← eE, h2] at z
  cases z
/-- repr([r, r]) -/
theorem rr_opt2 {K : PySem.W.Frag} {H : Hp} {q : Addr} {o : Option Nat} {Q : VK} (h : ∀ n, o = some n → n < 10 ^ 60) (e : H q = some (.lst [optV o, optV o])) (k : Q (.str (PyData.shown (.list [optD o, optD o]))) H) : rRepr K [.ref q] H Q := by
  refine rr_data (.lst (sq_lst e) (.cons (dp_opt o) (.cons (dp_opt o) .nil))) ?_ ?_ ?_ k
  · cases o with
    | none => rfl
    | some n =>
      show (okI ((n : Nat) : Int) && (okI ((n : Nat) : Int) && true)) = true
      rw [okI_nat (h n rfl) (by decide)]
      rfl
  · cases o <;> exact Nat.le_of_ble_eq_true rfl
  · cases o <;> exact Nat.le_of_ble_eq_true rfl
/-- repr([d, d, not d, d]) -/
theorem rr_bbnb {K : PySem.W.Frag} {H : Hp} {q : Addr} {bb : Bool} {Q : VK} (e : H q = some (.lst [.bl bb, .bl bb, .bl (!bb), .bl bb])) (k : Q (.str (PyData.shown (.list [.bool bb, .bool bb, .bool (!bb), .bool bb]))) H) : rRepr K [.ref q] H Q := by
  refine rr_data (.lst (sq_lst e) (.cons (.bl _) (.cons (.bl _) (.cons (.bl _) (.cons (.bl _) .nil))))) ?_ ?_ ?_ k
  · cases bb <;> decide +kernel
  · cases bb <;> decide +kernel
  · cases bb <;> decide +kernel
theorem inW_end {r : R2} {K : PySem.W.Frag} {a b : Addr} {ys : List V} {H : Hp} {z : Bool} {Q : Bool → Hp → Prop} (hS : SqL K H a ys) (q : Q z H) : ∃ z', V.bl z = V.bl z' ∧ (if z' = true then Q true H else inW r K a ys b [] H Q) := ⟨z, rfl, by cases z with | true => exact iteT q | false => exact iteF ⟨hS, q⟩⟩
theorem dtxt_strOk {D : DaysD} (hD : D.ok) : PyData.strOk (SX.S (dtxt D)) = true := by
  have h : (dtxt D).all (fun c => decide (c < 0x110000)) = true := joinL_all (by decide) (dwords_all (fun c h1 h2 => decide_eq_true (by omega)) (fun c h1 h2 => decide_eq_true (by omega)) hD)
  show (List.toArray (dtxt D)).all (fun c => decide (c < 0x110000)) = true
  rw [List.all_toArray]
  exact h
theorem shaped_ss {a b : Str} (ha : PyData.strOk a = true) (hb : PyData.strOk b = true) : SeqAt.shaped (.list [.str a, .str b]) = true := by
  show (PyData.canLay0 (.list [.str a, .str b]) && _) = true
  simp [PyData.canLay0, PyData.canLayAll0, PyData.depth, PyData.depthAll, ha, hb]
def sp_law (K : PySem.W.Frag) : Sp := fun vs H Q _ => ∃ (a : Addr) (ns : List Int), vs = [.ref a] ∧ SqL K H a (ns.map V.int) ∧ ns.length ≤ 63 ∧ ∀ H', Q (.bl true) H'
theorem ok_law {P : Program} {w : World} {K : PySem.W.Frag} {mg : Str → Option Value} {base : Heap} (T : Env K mg) {fd : FuncData} (F : FunD K "law" "law" (defArgs s_law) (defBody s_law) (defScope s_law) [] [] (He.ga K "law") fd) : Fb P w K mg base 10 (He.ga K "law") fd ["_law_script"] (sp_law K) := by
  refine fb_of F sc_law (fun vs H Q E h => ?_) (fun cdv A outer s H vs Q E hr h => ?_)
  · obtain ⟨a, ns, rfl, _⟩ := h
    rfl
  · obtain ⟨a, ns, rfl, hS, hl, q⟩ := h
    refine ⟨_, (pss_cons (ps_for (passes_of rfl) rfl (pi_range1 (by rfl) T.n_range (pa_cons (pe_callB (call_max2 rfl) (by rfl) T.n_max (by decide +kernel) (pa_cons pe_int (pa_cons (pe_callB (call_min2 rfl) (by rfl) T.n_min (by decide +kernel) (pa_cons (pe_callB call_len (by rfl) T.n_len (by decide +kernel) (pa_cons (pv 0) pa_nil)) (pa_cons pe_int pa_nil))) pa_nil))) pa_nil)) (pg_name (i := 1) sc_law.nd rfl (Or.inl rfl))
      (pss_cons (ps_set (i := 2) sc_law.nd rfl (Or.inl rfl) (c_call (ok__law_pair T) (hr.mono (by decide)) T.g__law_pair T.k__law_pair takes0 (pa_cons (c_call (ok__law_pot T) (hr.mono (by decide)) T.g__law_pot T.k__law_pot takes0 (pa_cons (pv 0) (pa_cons (pv 1) pa_nil))) pa_nil)))
      (pss_cons (ps_set (i := 3) sc_law.nd rfl (Or.inl rfl) (pe_lst (pa_cons (c_call (ok__law_made T) (hr.mono (by decide)) T.g__law_made T.k__law_made takes0 (pa_cons (pe_ix ix_tup (pv 2) pe_int (fun _ _ => rfl)) pa_nil)) (pa_cons (c_call (ok__law_made T) (hr.mono (by decide)) T.g__law_made T.k__law_made takes0 (pa_cons (pe_ix ix_tup (pv 2) pe_int (fun _ _ => rfl)) pa_nil)) pa_nil))))
      (pss_cons (ps_set (i := 4) sc_law.nd rfl (Or.inl rfl) (pe_lst (pa_cons (pe_callTy (call_strO T.m_Days_str (ok_Days_str T) (hr.mono (by decide))) (by rfl) T.n_str (by decide +kernel) (pa_cons (pe_ix ix_list (pv 3) pe_int (fun _ _ => rfl)) pa_nil)) (pa_cons (pe_callTy (call_strO T.m_Days_str (ok_Days_str T) (hr.mono (by decide))) (by rfl) T.n_str (by decide +kernel) (pa_cons (pe_ix ix_list (pv 3) pe_int (fun _ _ => rfl)) pa_nil)) pa_nil))))
      (pss_cons (ps_set (i := 5) sc_law.nd rfl (Or.inl rfl) (c_call (ok_first_apart T) (hr.mono (by decide)) T.g_first_apart T.k_first_apart takes0 (pa_cons (pe_ix ix_list (pv 3) pe_int (fun _ _ => rfl)) (pa_cons (pe_ix ix_list (pv 3) pe_int (fun _ _ => rfl)) pa_nil))))
      (pss_cons (ps_if (pt_not (pt_val (c_call (ok__law_right T) (hr.mono (by decide)) T.g__law_right T.k__law_right takes0 (pa_cons (pv 5) (pa_cons (pe_ix ix_tup (pv 2) pe_int (fun _ _ => rfl)) (pa_cons (pe_ix ix_tup (pv 2) pe_int (fun _ _ => rfl)) pa_nil))))))
      (pss_one (ps_ret pe_bl))
      pss_nil)
      (pss_cons (ps_if (pt_cmpR op_ne (pe_callB (call_repr hr) (by rfl) T.n_repr (by decide +kernel) (pa_cons (pe_lst (pa_cons (c_call (ok_first_apart T) (hr.mono (by decide)) T.g_first_apart T.k_first_apart takes0 (pa_cons (pe_ix ix_list (pv 3) pe_int (fun _ _ => rfl)) (pa_cons (pe_ix ix_list (pv 3) pe_int (fun _ _ => rfl)) pa_nil))) (pa_cons (c_callK0 (ok_first_apart_0_other_one T) (hr.mono (by decide)) T.g_first_apart T.k_first_apart takes0 (pk_cons (pe_ix ix_list (pv 3) pe_int (fun _ _ => rfl)) (pk_cons (pe_ix ix_list (pv 3) pe_int (fun _ _ => rfl)) pk_nil))) pa_nil))) pa_nil)) (pe_callB (call_repr hr) (by rfl) T.n_repr (by decide +kernel) (pa_cons (pe_lst (pa_cons (pv 5) (pa_cons (pv 5) pa_nil))) pa_nil)) (nomark _))
      (pss_one (ps_ret pe_bl))
      pss_nil)
      (pss_cons (ps_set (i := 6) sc_law.nd rfl (Or.inl rfl) (pe_cmpR op_isN (pv 5) pe_non (nomark _)))
      (pss_cons (ps_set (i := 7) sc_law.nd rfl (Or.inl rfl) (pe_lst (pa_cons (pe_cmpR (op_eqO (rco_mono (k := 7) (rco_or (rco_LK K T.m_Days_eq (ok_Days_eq T)) (rco_RK K T.nb_Days T.m_Days_eq (ok_Days_eq T))) (by decide)) (hr.mono (by decide))) (pe_ix ix_list (pv 3) pe_int (fun _ _ => rfl)) (pe_ix ix_list (pv 3) pe_int (fun _ _ => rfl)) (nomark _)) (pa_cons (pe_cmpR (op_eqO (rco_mono (k := 7) (rco_or (rco_LK K T.m_Days_eq (ok_Days_eq T)) (rco_RK K T.nb_Days T.m_Days_eq (ok_Days_eq T))) (by decide)) (hr.mono (by decide))) (pe_ix ix_list (pv 3) pe_int (fun _ _ => rfl)) (pe_ix ix_list (pv 3) pe_int (fun _ _ => rfl)) (nomark _)) (pa_cons (pe_cmpR (op_neOK K T.nb_Days T.m_Days_eq (ok_Days_eq T) (hr.mono (by decide))) (pe_ix ix_list (pv 3) pe_int (fun _ _ => rfl)) (pe_ix ix_list (pv 3) pe_int (fun _ _ => rfl)) (nomark _)) (pa_cons (pe_cmpR (op_inOK K (rco_mono (k := 7) (rco_or (rco_LK K T.m_Days_eq (ok_Days_eq T)) (rco_RK K T.nb_Days T.m_Days_eq (ok_Days_eq T))) (by decide)) (hr.mono (by decide))) (pe_ix ix_list (pv 3) pe_int (fun _ _ => rfl)) (pe_lst (pa_cons pe_non (pa_cons (pe_ix ix_list (pv 3) pe_int (fun _ _ => rfl)) pa_nil))) (by rfl)) pa_nil))))))
      (pss_cons (ps_if (PW.pt (pw_or (pt_cmpR op_ne (pe_callB (call_repr hr) (by rfl) T.n_repr (by decide +kernel) (pa_cons (pv 7) pa_nil)) (pe_callB (call_repr hr) (by rfl) T.n_repr (by decide +kernel) (pa_cons (pe_lst (pa_cons (pv 6) (pa_cons (pv 6) (pa_cons (pe_not (pv 6)) (pa_cons (pv 6) pa_nil))))) pa_nil)) (nomark _)) (pw_or1 (pt_not (pt_cmpR (op_eqO (rco_mono (k := 7) (rco_or (rco_LK K T.m_Days_eq (ok_Days_eq T)) (rco_RK K T.nb_Days T.m_Days_eq (ok_Days_eq T))) (by decide)) (hr.mono (by decide))) (pe_ix ix_list (pv 3) pe_int (fun _ _ => rfl)) (c_call (ok__law_made T) (hr.mono (by decide)) T.g__law_made T.k__law_made takes0 (pa_cons (pe_ix ix_tup (pv 2) pe_int (fun _ _ => rfl)) pa_nil)) (nomark _))))))
      (pss_one (ps_ret pe_bl))
      pss_nil)
      (pss_cons (ps_if (PW.pt (pw_or (pt_cmpR op_notN (c_call (ok_first_apart T) (hr.mono (by decide)) T.g_first_apart T.k_first_apart takes0 (pa_cons (pe_ix ix_list (pv 3) pe_int (fun _ _ => rfl)) (pa_cons (pe_ix ix_list (pv 3) pe_int (fun _ _ => rfl)) pa_nil))) pe_non (nomark _)) (pw_or1 (pt_not (pt_val (c_call (ok__law_unlike T) (hr.mono (by decide)) T.g__law_unlike T.k__law_unlike takes0 (pa_cons (pe_ix ix_list (pv 3) pe_int (fun _ _ => rfl)) (pa_cons (pe_ix ix_tup (pv 2) pe_int (fun _ _ => rfl)) pa_nil))))))))
      (pss_one (ps_ret pe_bl))
      pss_nil)
      (pss_one (ps_if (pt_cmpR (op_neD hr.rm.units) (pe_lst (pa_cons (pe_callTy (call_strO T.m_Days_str (ok_Days_str T) (hr.mono (by decide))) (by rfl) T.n_str (by decide +kernel) (pa_cons (pe_ix ix_list (pv 3) pe_int (fun _ _ => rfl)) pa_nil)) (pa_cons (pe_callTy (call_strO T.m_Days_str (ok_Days_str T) (hr.mono (by decide))) (by rfl) T.n_str (by decide +kernel) (pa_cons (pe_ix ix_list (pv 3) pe_int (fun _ _ => rfl)) pa_nil)) pa_nil))) (pv 4) (nomark _))
      (pss_one (ps_ret pe_bl))
      pss_nil)))))))))))))
      (pss_one (ps_ret pe_bl))), ?_⟩
    refine ⟨_, rfl, _, _, rfl, .inl ⟨_, hS, rfl⟩, _, _, rfl, _, _, rfl, _, rfl, (turns_lo 2 _ (by decide)), (turns_hi 2 _ (by decide)), for_range (fun i σ H' => Ex H H' ∧ ∃ v1 v2 v3 v4 v5 v6 v7, σ = [some (.ref a), v1, v2, v3, v4, v5, v6, v7]) ⟨.refl H, _, _, _, _, _, _, _, rfl⟩ ?_ ?_⟩
    · rintro i σ H1 hi ⟨X1, v1, v2, v3, v4, v5, v6, v7, rfl⟩
      have i1 : i < 1000 := turns_lt 2 _ (by decide) hi
      refine ⟨_, rfl, _, rfl, a, ns, _, rfl, ex_sql X1 hS, by omega, by omega, fun p H2 np P2 K2 => ?_⟩
      have X2 : Ex H H2 := fun b o e => by rw [K2 b (ne_of_none (X1 b o e) np)]; exact X1 b o e
      have hp0 : H p = none := ex_fresh X1 np
      refine ⟨p, rfl, P2, fun qq t1 g1 m1 t2 g2 m2 D E' H3 hq S1 S2 hD hE fD fE P3 => ?_⟩
      have X3 : Ex H H3 := PotOn.ex X2 hp0 P3
      refine ⟨_, rfl, qq, _, 0, _, rfl, rfl, hq, rfl, t1, g1, m1, D, rfl, S1, hD, fun x1 H4 X4 nx1 A1 => ?_⟩
      refine ⟨_, rfl, qq, _, 1, _, rfl, rfl, ex_sqt X4 hq, rfl, t2, g2, m2, E', rfl, S2.mono X4, hE, fun x2 H5 X5 nx2 A2 => ?_⟩
      have x12 : x2 ≠ x1 := fun z => by
        obtain ⟨dx, r, po, pa, h1, _⟩ := A1
        rw [z, h1] at nx2
        cases nx2
      refine ⟨by show 2 ≤ sizeLine; decide, fun L nL => ?_⟩
      have X6 := ex_new (o := .lst [.ref x1, .ref x2]) nL
      have hL : upd H5 L (.lst [.ref x1, .ref x2]) L = some (.lst [.ref x1, .ref x2]) := upd_same
      have X46 := X4.trans (X5.trans X6)
      have A1' := A1.mono (X5.trans X6)
      have A2' := A2.mono X6
      have S1' := S1.mono X46
      have S2' := S2.mono X46
      have hq' := ex_sqt X46 hq
      generalize upd H5 L (.lst [.ref x1, .ref x2]) = G at X46 hL A1' A2' S1' S2' hq' ⊢
      have XG := X3.trans X46
      clear X46 X6 nL
      obtain ⟨d1, r1, po1, pa1, hx1, _⟩ := id A1'
      obtain ⟨d2, r2, po2, pa2, hx2, _⟩ := id A2'
      refine ⟨_, rfl, L, _, 0, _, rfl, rfl, sq_lst hL, rfl, x1, d1, _, rfl, hx1, x1, D, rfl, A1', hD, fit_150 fD, fun H7 X7 => ⟨trivial, ?_⟩⟩
      refine ⟨_, rfl, L, _, 1, _, rfl, rfl, sq_lst (X7 _ _ hL), rfl, x2, d2, _, rfl, X7 _ _ hx2, x2, E', rfl, A2'.mono X7, hE, fit_150 fE, fun H8 X8 => ⟨trivial, ?_⟩⟩
      refine ⟨by show 2 ≤ sizeLine; decide, fun M nM => ?_⟩
      have Y1 := (X7.trans X8).trans (ex_new (o := .lst [.str (SX.S (dtxt D)), .str (SX.S (dtxt E'))]) nM)
      have hM : upd H8 M (.lst [.str (SX.S (dtxt D)), .str (SX.S (dtxt E'))]) M = some (.lst [.str (SX.S (dtxt D)), .str (SX.S (dtxt E'))]) := upd_same
      generalize upd H8 M (.lst [.str (SX.S (dtxt D)), .str (SX.S (dtxt E'))]) = H9 at Y1 hM ⊢
      replace A1' := A1'.mono Y1
      replace A2' := A2'.mono Y1
      replace S1' := S1'.mono Y1
      replace S2' := S2'.mono Y1
      replace hq' := ex_sqt Y1 hq'
      replace hL := Y1 _ _ hL
      replace hx1 := Y1 _ _ hx1
      replace hx2 := Y1 _ _ hx2
      replace XG := XG.trans Y1
      replace Y1 : Ex H9 H9 := .refl _
      refine ⟨_, rfl, L, _, 0, _, rfl, rfl, sq_lst (Y1 _ _ hL), rfl, _, rfl, L, _, 1, _, rfl, rfl, sq_lst (Y1 _ _ hL), rfl, x1, x2, D, E', rfl, A1'.mono Y1, hD, A2'.mono Y1, hE, fun r H10 hr1 X10 => ?_⟩
      have Y2 := Y1.trans X10
      refine ⟨_, rfl, _, rfl, qq, _, 0, _, rfl, rfl, ex_sqt Y2 hq', rfl, _, rfl, qq, _, 1, _, rfl, rfl, ex_sqt Y2 hq', rfl, t1, g1, m1, t2, g2, m2, D, E', r, rfl, S1'.mono Y2, S2'.mono Y2, hD, hE, hr1, fun H11 X11 => ⟨true, rfl, iteF ?_⟩⟩
      have Y3 := Y2.trans X11
      have bnd : ∀ n, r = some n → n < 10 ^ 60 := fun n e => by
        rw [e] at hr1
        exact apart_bound hD hE fD fE hr1
      refine ⟨_, rfl, L, _, 1, _, rfl, rfl, sq_lst (Y3 _ _ hL), rfl, _, rfl, L, _, 0, _, rfl, rfl, sq_lst (Y3 _ _ hL), rfl, x2, x1, E', D, rfl, A2'.mono Y3, hE, A1'.mono Y3, hD, fun ra H12 hra X12 => ?_⟩
      have Y4 := Y3.trans X12
      refine ⟨_, rfl, L, _, 1, _, rfl, rfl, sq_lst (Y4 _ _ hL), rfl, _, rfl, L, _, 0, _, rfl, rfl, sq_lst (Y4 _ _ hL), rfl, rfl, rfl, x1, x2, D, E', rfl, A1'.mono Y4, hD, A2'.mono Y4, hE, fun rb H13 hrb X13 => ?_⟩
      have Y5 := Y4.trans X13
      have e1 : (fun d => dHas E' d != dHas D d) = fun d => dHas D d != dHas E' d := funext fun d => by cases dHas D d <;> cases dHas E' d <;> rfl
      rw [e1] at hra
      have ea := isFst_uniq hr1 hra
      have eb := isFst_uniq hr1 hrb
      subst ea eb
      refine ⟨by show 2 ≤ sizeLine; decide, fun q1 nq1 => rr_opt2 bnd upd_same ?_⟩
      refine ⟨_, rfl, _, rfl, by show 2 ≤ sizeLine; decide, fun q2 nq2 => rr_opt2 bnd upd_same ⟨rfl, _, rfl, iteNS rfl ?_⟩⟩
      have Y7 := Y5.trans ((ex_new (o := .lst [optV r, optV r]) nq1).trans (ex_new (o := .lst [optV r, optV r]) nq2))
      generalize upd (upd H13 q1 (.lst [optV r, optV r])) q2 (.lst [optV r, optV r]) = H14 at Y7 ⊢
      refine ⟨_, rfl, rfl, ?_⟩
      obtain ⟨due, hd⟩ : ∃ due, decide (optV r = V.non) = due := ⟨_, rfl⟩
      have hdue : due = true ↔ ∀ d, dHas D d = dHas E' d := by
        rw [← hd]
        cases r with
        | none => exact ⟨fun _ d => eq_of_beq (by simpa using hr1 d (Nat.zero_le _)), fun _ => rfl⟩
        | some n =>
          refine ⟨fun z => absurd (of_decide_eq_true z) (fun z => nomatch z), fun z => ?_⟩
          have h2 : (dHas D n != dHas E' n) = true := hr1.2.1
          rw [show (dHas D n != dHas E' n) = false by rw [z n]; simp] at h2
          cases h2
      have hdue' : due = true ↔ ∀ d, dHas E' d = dHas D d := hdue.trans ⟨fun h d => (h d).symm, fun h d => (h d).symm⟩
      rw [hd]
      refine ⟨_, rfl, L, _, 0, _, rfl, rfl, sq_lst (Y7 _ _ hL), rfl, _, rfl, L, _, 1, _, rfl, rfl, sq_lst (Y7 _ _ hL), rfl, .inl ⟨x1, d1, _, _, rfl, Y7 _ _ hx1, ty_ins T.i_Days T.c_Days (Y7 _ _ hx2), .inl rfl, x1, D, _, rfl, A1'.mono Y7, hD, .inl ⟨x2, E', rfl, A2'.mono Y7, hE, fun z1 H15 hz1 X15 => ?_⟩⟩⟩
      obtain rfl : z1 = due := Bool.eq_iff_iff.mpr (hz1.trans hdue.symm)
      have Y8 := Y7.trans X15
      refine ⟨_, rfl, L, _, 1, _, rfl, rfl, sq_lst (Y8 _ _ hL), rfl, _, rfl, L, _, 0, _, rfl, rfl, sq_lst (Y8 _ _ hL), rfl, .inl ⟨x2, d2, _, _, rfl, Y8 _ _ hx2, ty_ins T.i_Days T.c_Days (Y8 _ _ hx1), .inl rfl, x2, E', _, rfl, A2'.mono Y8, hE, .inl ⟨x1, D, rfl, A1'.mono Y8, hD, fun z2 H16 hz2 X16 => ?_⟩⟩⟩
      obtain rfl : z2 = z1 := Bool.eq_iff_iff.mpr (hz2.trans hdue'.symm)
      have Y9 := Y8.trans X16
      refine ⟨_, rfl, L, _, 0, _, rfl, rfl, sq_lst (Y9 _ _ hL), rfl, _, rfl, L, _, 1, _, rfl, rfl, sq_lst (Y9 _ _ hL), rfl, x1, d1, _, _, rfl, Y9 _ _ hx1, ty_ins T.i_Days T.c_Days (Y9 _ _ hx2), .inl rfl, x1, D, _, rfl, A1'.mono Y9, hD, .inl ⟨x2, E', rfl, A2'.mono Y9, hE, fun z3 H17 hz3 X17 => ?_⟩⟩
      obtain rfl : z3 = z2 := Bool.eq_iff_iff.mpr (hz3.trans hdue.symm)
      have Y10 := Y9.trans X17
      refine ⟨_, rfl, ?_⟩
      refine ⟨_, rfl, L, _, 0, _, rfl, rfl, sq_lst (Y10 _ _ hL), rfl, _, rfl, L, _, 1, _, rfl, rfl, sq_lst (Y10 _ _ hL), rfl, by show 2 ≤ sizeLine; decide, fun L2 nL2 => ?_⟩
      have Y11 := Y10.trans (ex_new (o := .lst [.non, .ref x2]) nL2)
      refine ⟨x1, L2, [.non, .ref x2], rfl, rfl, sq_lst upd_same, .inr ⟨(fun z => nomatch z), .inr ⟨x1, d1, _, rfl, Y11 _ _ hx1, .non, x1, D, _, rfl, A1'.mono Y11, hD, .inr ⟨_, .base .non, T.kit_NoneType_Days, false, rfl, iteF ?_⟩⟩⟩⟩
      refine ⟨sq_lst upd_same, .inr ⟨fun z => x12 (by injection z), .inl ⟨x2, d2, _, _, rfl, Y11 _ _ hx2, ty_ins T.i_Days T.c_Days (Y11 _ _ hx1), .inl rfl, x2, E', _, rfl, A2'.mono Y11, hE, .inl ⟨x1, D, rfl, A1'.mono Y11, hD, fun z4 H18 hz4 X18 => ?_⟩⟩⟩⟩
      obtain rfl : z4 = z3 := Bool.eq_iff_iff.mpr (hz4.trans hdue'.symm)
      have Y12 := Y11.trans X18
      refine inW_end (sq_lst (X18 _ _ upd_same)) ?_
      refine ⟨by show 4 ≤ sizeLine; decide, fun q3 nq3 => ?_⟩
      have Y13 := Y12.trans (ex_new (o := .lst [.bl z4, .bl z4, .bl (!z4), .bl z4]) nq3)
      refine ⟨_, rfl, rr_bbnb upd_same ?_⟩
      refine ⟨_, rfl, _, rfl, _, rfl, z4, rfl, _, rfl, by show 4 ≤ sizeLine; decide, fun q4 nq4 => ?_⟩
      refine rr_bbnb upd_same ⟨rfl, _, rfl, iteNS rfl ?_⟩
      have Y14 := Y13.trans (ex_new (o := .lst [.bl z4, .bl z4, .bl (!z4), .bl z4]) nq4)
      generalize upd (upd H18 q3 (.lst [.bl z4, .bl z4, .bl (!z4), .bl z4])) q4 (.lst [.bl z4, .bl z4, .bl (!z4), .bl z4]) = H19 at Y14 ⊢
      refine ⟨_, rfl, L, _, 0, _, rfl, rfl, sq_lst (Y14 _ _ hL), rfl, _, rfl, qq, _, 0, _, rfl, rfl, ex_sqt Y14 hq', rfl, t1, g1, m1, D, rfl, S1'.mono Y14, hD, fun x3 H20 X20 nx3 A3 => ?_⟩
      have Y15 := Y14.trans X20
      obtain ⟨d3, r3, po3, pa3, hx3, _⟩ := id A3
      refine .inl ⟨x1, d1, _, _, rfl, Y15 _ _ hx1, ty_ins T.i_Days T.c_Days hx3, .inl rfl, x1, D, _, rfl, A1'.mono Y15, hD, .inl ⟨x3, D, rfl, A3, hD, fun z5 H21 hz5 X21 => ?_⟩⟩
      obtain rfl : z5 = true := hz5.mpr fun d => rfl
      refine ⟨true, rfl, iteF ?_⟩
      have Y16 := Y15.trans X21
      refine ⟨_, rfl, L, _, 0, _, rfl, rfl, sq_lst (Y16 _ _ hL), rfl, _, rfl, L, _, 0, _, rfl, rfl, sq_lst (Y16 _ _ hL), rfl, x1, x1, D, D, rfl, A1'.mono Y16, hD, A1'.mono Y16, hD, fun rc H22 hrc X22 => ?_⟩
      obtain rfl : rc = none := by
        cases rc with
        | none => rfl
        | some n =>
          have h2 : (dHas D n != dHas D n) = true := hrc.2.1
          simp at h2
      have Y17 := Y16.trans X22
      refine ⟨rfl, _, rfl, ?_⟩
      refine ⟨_, rfl, L, _, 1, _, rfl, rfl, sq_lst (Y17 _ _ hL), rfl, _, rfl, qq, _, 1, _, rfl, rfl, ex_sqt Y17 hq', rfl, x2, t2, g2, m2, E', rfl, A2'.mono Y17, S2'.mono Y17, hE, fit_150 fE, fun H23 X23 => ⟨true, rfl, iteF ?_⟩⟩
      have Y18 := Y17.trans X23
      refine ⟨_, rfl, L, _, 0, _, rfl, rfl, sq_lst (Y18 _ _ hL), rfl, x1, d1, _, rfl, Y18 _ _ hx1, x1, D, rfl, A1'.mono Y18, hD, fit_150 fD, fun H24 X24 => ⟨trivial, ?_⟩⟩
      have Y19 := Y18.trans X24
      refine ⟨_, rfl, L, _, 1, _, rfl, rfl, sq_lst (Y19 _ _ hL), rfl, x2, d2, _, rfl, Y19 _ _ hx2, x2, E', rfl, A2'.mono Y19, hE, fit_150 fE, fun H25 X25 => ⟨trivial, ?_⟩⟩
      have Y20 := Y19.trans X25
      refine ⟨by show 2 ≤ sizeLine; decide, fun q5 nq5 => ?_⟩
      have Y21 := Y20.trans (ex_new (o := .lst [.str (SX.S (dtxt D)), .str (SX.S (dtxt E'))]) nq5)
      refine ⟨_, rfl, .list [.str (SX.S (dtxt D)), .str (SX.S (dtxt E'))], .list [.str (SX.S (dtxt D)), .str (SX.S (dtxt E'))], .lst (sq_lst upd_same) (.cons (.str _) (.cons (.str _) .nil)), .lst (sq_lst (Y21 _ _ hM)) (.cons (.str _) (.cons (.str _) .nil)), shaped_ss (dtxt_strOk hD) (dtxt_strOk hE), shaped_ss (dtxt_strOk hD) (dtxt_strOk hE), ?_⟩
      have e : PyData.eqv (.list [.str (SX.S (dtxt D)), .str (SX.S (dtxt E'))]) (.list [.str (SX.S (dtxt D)), .str (SX.S (dtxt E'))]) = true := by
        simp [PyData.eqv, PyData.eqvAll]
      rw [e]
      exact ⟨_, rfl, XG.trans Y21, _, _, _, _, _, _, _, rfl⟩
    · rintro σ H1 ⟨_, _, _, _, _, _, _, _, rfl⟩
      exact q _

end
end Toy
namespace Toy
open PySem PySem.Spec PyProof.Rows L2 L3
def xf : List Fx := [fun K => (He.Fa.glo "_wall").ok K,
  fun K => (He.Fa.glo "is_whole").ok K,
  fun K => (He.Fa.glo "is_moment").ok K,
  fun K => (He.Fa.glo "want_day").ok K,
  fun K => (He.Fa.glo "are_signs").ok K,
  fun K => (He.Fa.glo "told_days").ok K,
  fun K => (He.Fa.glo "want_till").ok K,
  fun K => (He.Fa.glo "edges_of").ok K,
  fun K => (He.Fa.glo "stretches").ok K,
  fun K => (He.Fa.glo "first_days").ok K,
  fun K => (He.Fa.glo "common_round").ok K,
  fun K => (He.Fa.glo "first_apart").ok K,
  fun K => (He.Fa.glo "_law_pot").ok K,
  fun K => (He.Fa.glo "_law_take").ok K,
  fun K => (He.Fa.glo "_law_great").ok K,
  fun K => (He.Fa.glo "_law_bits").ok K,
  fun K => (He.Fa.glo "_law_near").ok K,
  fun K => (He.Fa.glo "_law_few").ok K,
  fun K => (He.Fa.glo "_law_some").ok K,
  fun K => (He.Fa.glo "_law_has").ok K,
  fun K => (He.Fa.glo "_law_made").ok K,
  fun K => (He.Fa.glo "_law_edges").ok K,
  fun K => (He.Fa.glo "_law_pair").ok K,
  fun K => (He.Fa.glo "_law_alike").ok K,
  fun K => (He.Fa.glo "_law_right").ok K,
  fun K => (He.Fa.glo "_law_unlike").ok K,
  fun K => (He.Fa.glo "law").ok K,
  fun K => (He.Fa.int "MOST_SIGNS" (7)).ok K,
  fun K => (He.Fa.str "NOUGHT" "0").ok K,
  fun K => (He.Fa.str "ONE" "1").ok K,
  fun K => (He.Fa.int "MOST_DAYS" (8)).ok K,
  fun K => (He.Fa.str "FROM" "from").ok K,
  fun K => (He.Fa.str "TO" "to").ok K,
  fun K => (He.Fa.str "NOT" "not").ok K,
  fun K => (He.Fa.str "ALSO" "also").ok K,
  fun K => (He.Fa.free "all").ok K,
  fun K => (He.Fa.free "any").ok K,
  fun K => (He.Fa.free "bool").ok K,
  fun K => (He.Fa.free "divmod").ok K,
  fun K => (He.Fa.free "int").ok K,
  fun K => (He.Fa.free "isinstance").ok K,
  fun K => (He.Fa.free "len").ok K,
  fun K => (He.Fa.free "list").ok K,
  fun K => (He.Fa.free "max").ok K,
  fun K => (He.Fa.free "min").ok K,
  fun K => (He.Fa.free "range").ok K,
  fun K => (He.Fa.free "repr").ok K,
  fun K => (He.Fa.free "set").ok K,
  fun K => (He.Fa.free "sorted").ok K,
  fun K => (He.Fa.free "str").ok K,
  fun K => (He.Fa.free "tuple").ok K,
  fun K => (He.Fa.free "zip").ok K,
  fun K => (He.Fa.glo "GoingError").ok K,
  exoB bmV "ValueError.__new__" "GoingError",
  fun K => (He.Fa.glo "NoDays").ok K,
  exoB bmV "ValueError.__new__" "NoDays",
  fun K => (He.Fa.glo "Ring").ok K,
  fun K => (He.Fa.glo "Days").ok K,
  sysB,
  fun K => (He.Fa.cls "Ring").ok K,
  insB "Ring",
  fun K => (He.Fa.noat "Ring" "bits").ok K,
  fun K => (He.Fa.meth "Ring" "__init__").ok K,
  fun K => (He.Fa.meth "Ring" "__eq__").ok K,
  fun K => (He.Fa.meth "Ring" "__len__").ok K,
  fun K => (He.Fa.meth "Ring" "__str__").ok K,
  fun K => (He.Fa.meth "Ring" "__repr__").ok K,
  fun K => (He.Fa.meth "Ring" "rings").ok K,
  fun K => (He.Fa.meth "Ring" "least").ok K,
  fun K => (He.Fa.mkr "Ring").ok K,
  noBaseF "Ring",
  kitF "Ring" "Ring" true,
  kitF "Ring" "Days" false,
  kitFT "Ring" "int" false,
  kitFT "Ring" "bool" false,
  kitFT "Ring" "str" false,
  kitFT "Ring" "list" false,
  kitFT "Ring" "tuple" false,
  fun K => (He.Fa.cls "Days").ok K,
  insB "Days",
  fun K => (He.Fa.noat "Days" "ring").ok K,
  fun K => (He.Fa.noat "Days" "since").ok K,
  fun K => (He.Fa.noat "Days" "till").ok K,
  fun K => (He.Fa.noat "Days" "out").ok K,
  fun K => (He.Fa.noat "Days" "also").ok K,
  fun K => (He.Fa.meth "Days" "__init__").ok K,
  fun K => (He.Fa.meth "Days" "__eq__").ok K,
  fun K => (He.Fa.meth "Days" "__str__").ok K,
  fun K => (He.Fa.meth "Days" "__repr__").ok K,
  fun K => (He.Fa.meth "Days" "has").ok K,
  fun K => (He.Fa.meth "Days" "first_from").ok K,
  fun K => (He.Fa.meth "Days" "how_many").ok K,
  fun K => (He.Fa.meth "Days" "among").ok K,
  fun K => (He.Fa.mkr "Days").ok K,
  noBaseF "Days",
  kitF "Days" "Ring" false,
  kitF "Days" "Days" true,
  kitFT "Days" "int" false,
  kitFT "Days" "bool" false,
  kitFT "Days" "str" false,
  kitFT "Days" "list" false,
  kitFT "Days" "tuple" false,
  kitBF "int" "Ring" false,
  kitBF "bool" "Ring" false,
  kitBF "str" "Ring" false,
  kitBF "NoneType" "Ring" false,
  kitBF "list" "Ring" false,
  kitBF "tuple" "Ring" false,
  kitBF "dict" "Ring" false,
  kitBF "int" "Days" false,
  kitBF "bool" "Days" false,
  kitBF "str" "Days" false,
  kitBF "NoneType" "Days" false,
  kitBF "list" "Days" false,
  kitBF "tuple" "Days" false,
  kitBF "dict" "Days" false]
def d__wall : He.DefD := ⟨("_wall", none), "_wall", "_wall", defArgs s__wall, defBody s__wall, defScope s__wall, [], []⟩
def d_is_whole : He.DefD := ⟨("is_whole", none), "is_whole", "is_whole", defArgs s_is_whole, defBody s_is_whole, defScope s_is_whole, [], []⟩
def d_is_moment : He.DefD := ⟨("is_moment", none), "is_moment", "is_moment", defArgs s_is_moment, defBody s_is_moment, defScope s_is_moment, [], []⟩
def d_want_day : He.DefD := ⟨("want_day", none), "want_day", "want_day", defArgs s_want_day, defBody s_want_day, defScope s_want_day, [], []⟩
def d_are_signs : He.DefD := ⟨("are_signs", none), "are_signs", "are_signs", defArgs s_are_signs, defBody s_are_signs, defScope s_are_signs, [], []⟩
def d_Ring_init : He.DefD := ⟨("Ring", some "__init__"), "__init__", "Ring.__init__", defArgs s_Ring_init, defBody s_Ring_init, defScope s_Ring_init, [], []⟩
def d_Ring_eq : He.DefD := ⟨("Ring", some "__eq__"), "__eq__", "Ring.__eq__", defArgs s_Ring_eq, defBody s_Ring_eq, defScope s_Ring_eq, [], []⟩
def d_Ring_len : He.DefD := ⟨("Ring", some "__len__"), "__len__", "Ring.__len__", defArgs s_Ring_len, defBody s_Ring_len, defScope s_Ring_len, [], []⟩
def d_Ring_str : He.DefD := ⟨("Ring", some "__str__"), "__str__", "Ring.__str__", defArgs s_Ring_str, defBody s_Ring_str, defScope s_Ring_str, [], []⟩
def d_Ring_repr : He.DefD := ⟨("Ring", some "__repr__"), "__repr__", "Ring.__repr__", defArgs s_Ring_repr, defBody s_Ring_repr, defScope s_Ring_repr, [], []⟩
def d_Ring_rings : He.DefD := ⟨("Ring", some "rings"), "rings", "Ring.rings", defArgs s_Ring_rings, defBody s_Ring_rings, defScope s_Ring_rings, [], []⟩
def d_Ring_least : He.DefD := ⟨("Ring", some "least"), "least", "Ring.least", defArgs s_Ring_least, defBody s_Ring_least, defScope s_Ring_least, [], []⟩
def d_told_days : He.DefD := ⟨("told_days", none), "told_days", "told_days", defArgs s_told_days, defBody s_told_days, defScope s_told_days, [], []⟩
def d_want_till : He.DefD := ⟨("want_till", none), "want_till", "want_till", defArgs s_want_till, defBody s_want_till, defScope s_want_till, [], []⟩
def d_Days_init : He.DefD := ⟨("Days", some "__init__"), "__init__", "Days.__init__", defArgs s_Days_init, defBody s_Days_init, defScope s_Days_init, [.int (0), .non, .non, .non], []⟩
def d_Days_eq : He.DefD := ⟨("Days", some "__eq__"), "__eq__", "Days.__eq__", defArgs s_Days_eq, defBody s_Days_eq, defScope s_Days_eq, [], []⟩
def d_Days_str : He.DefD := ⟨("Days", some "__str__"), "__str__", "Days.__str__", defArgs s_Days_str, defBody s_Days_str, defScope s_Days_str, [], []⟩
def d_Days_repr : He.DefD := ⟨("Days", some "__repr__"), "__repr__", "Days.__repr__", defArgs s_Days_repr, defBody s_Days_repr, defScope s_Days_repr, [], []⟩
def d_Days_has : He.DefD := ⟨("Days", some "has"), "has", "Days.has", defArgs s_Days_has, defBody s_Days_has, defScope s_Days_has, [], []⟩
def d_Days_first_from : He.DefD := ⟨("Days", some "first_from"), "first_from", "Days.first_from", defArgs s_Days_first_from, defBody s_Days_first_from, defScope s_Days_first_from, [], []⟩
def d_Days_how_many : He.DefD := ⟨("Days", some "how_many"), "how_many", "Days.how_many", defArgs s_Days_how_many, defBody s_Days_how_many, defScope s_Days_how_many, [], []⟩
def d_Days_among : He.DefD := ⟨("Days", some "among"), "among", "Days.among", defArgs s_Days_among, defBody s_Days_among, defScope s_Days_among, [], []⟩
def d_edges_of : He.DefD := ⟨("edges_of", none), "edges_of", "edges_of", defArgs s_edges_of, defBody s_edges_of, defScope s_edges_of, [], []⟩
def d_stretches : He.DefD := ⟨("stretches", none), "stretches", "stretches", defArgs s_stretches, defBody s_stretches, defScope s_stretches, [], []⟩
def d_first_days : He.DefD := ⟨("first_days", none), "first_days", "first_days", defArgs s_first_days, defBody s_first_days, defScope s_first_days, [], []⟩
def d_common_round : He.DefD := ⟨("common_round", none), "common_round", "common_round", defArgs s_common_round, defBody s_common_round, defScope s_common_round, [], []⟩
def d_first_apart : He.DefD := ⟨("first_apart", none), "first_apart", "first_apart", defArgs s_first_apart, defBody s_first_apart, defScope s_first_apart, [], []⟩
def d__law_pot : He.DefD := ⟨("_law_pot", none), "_law_pot", "_law_pot", defArgs s__law_pot, defBody s__law_pot, defScope s__law_pot, [], []⟩
def d__law_take : He.DefD := ⟨("_law_take", none), "_law_take", "_law_take", defArgs s__law_take, defBody s__law_take, defScope s__law_take, [], []⟩
def d__law_great : He.DefD := ⟨("_law_great", none), "_law_great", "_law_great", defArgs s__law_great, defBody s__law_great, defScope s__law_great, [], []⟩
def d__law_bits : He.DefD := ⟨("_law_bits", none), "_law_bits", "_law_bits", defArgs s__law_bits, defBody s__law_bits, defScope s__law_bits, [], []⟩
def d__law_near : He.DefD := ⟨("_law_near", none), "_law_near", "_law_near", defArgs s__law_near, defBody s__law_near, defScope s__law_near, [], []⟩
def d__law_few : He.DefD := ⟨("_law_few", none), "_law_few", "_law_few", defArgs s__law_few, defBody s__law_few, defScope s__law_few, [], []⟩
def d__law_some : He.DefD := ⟨("_law_some", none), "_law_some", "_law_some", defArgs s__law_some, defBody s__law_some, defScope s__law_some, [], []⟩
def d__law_has : He.DefD := ⟨("_law_has", none), "_law_has", "_law_has", defArgs s__law_has, defBody s__law_has, defScope s__law_has, [], []⟩
def d__law_made : He.DefD := ⟨("_law_made", none), "_law_made", "_law_made", defArgs s__law_made, defBody s__law_made, defScope s__law_made, [], []⟩
def d__law_edges : He.DefD := ⟨("_law_edges", none), "_law_edges", "_law_edges", defArgs s__law_edges, defBody s__law_edges, defScope s__law_edges, [], []⟩
def d__law_pair : He.DefD := ⟨("_law_pair", none), "_law_pair", "_law_pair", defArgs s__law_pair, defBody s__law_pair, defScope s__law_pair, [], []⟩
def d__law_alike : He.DefD := ⟨("_law_alike", none), "_law_alike", "_law_alike", defArgs s__law_alike, defBody s__law_alike, defScope s__law_alike, [], []⟩
def d__law_right : He.DefD := ⟨("_law_right", none), "_law_right", "_law_right", defArgs s__law_right, defBody s__law_right, defScope s__law_right, [], []⟩
def d__law_unlike : He.DefD := ⟨("_law_unlike", none), "_law_unlike", "_law_unlike", defArgs s__law_unlike, defBody s__law_unlike, defScope s__law_unlike, [], []⟩
def d_law : He.DefD := ⟨("law", none), "law", "law", defArgs s_law, defBody s_law, defScope s_law, [], []⟩
def fn : List He.DefD := [d__wall, d_is_whole, d_is_moment, d_want_day, d_are_signs, d_Ring_init, d_Ring_eq, d_Ring_len, d_Ring_str, d_Ring_repr, d_Ring_rings, d_Ring_least, d_told_days, d_want_till, d_Days_init, d_Days_eq, d_Days_str, d_Days_repr, d_Days_has, d_Days_first_from, d_Days_how_many, d_Days_among, d_edges_of, d_stretches, d_first_days, d_common_round, d_first_apart, d__law_pot, d__law_take, d__law_great, d__law_bits, d__law_near, d__law_few, d__law_some, d__law_has, d__law_made, d__law_edges, d__law_pair, d__law_alike, d__law_right, d__law_unlike, d_law]
abbrev R : PySem.W.OpenRow := PySem.W.OpenLaw.row PySem.Challenge.rw_shortgoings_k49_whole_first_apart
abbrev hk : PySem.W.Hook := hookX 6 xf fn
def ob (s : PySem.W.SharedT) : He.AlD := obsXG 6 xf fn (HandSHeadRun.getT s)
theorem ob_eq (s : PySem.W.SharedT) : ob s = hk.obs s.abs := obsXG_eq (HandSHeadRun.getT_eq s)
def ns0 : List PySem.Str := ["_wall", "GoingError", "NoDays", "is_whole", "is_moment", "MOST_SIGNS", "NOUGHT", "ONE", "want_day", "are_signs", "Ring", "MOST_DAYS", "FROM", "TO", "NOT", "ALSO", "told_days", "want_till", "Days", "edges_of", "stretches", "first_days", "common_round", "first_apart", "_law_pot", "_law_take", "_law_great", "_law_bits", "_law_near", "_law_few"]
def ns1 : List PySem.Str := ["_law_some", "_law_has", "_law_made", "_law_edges", "_law_pair", "_law_alike", "_law_right", "_law_unlike"]
def nss : List PySem.Str := ns0 ++ ns1
theorem run (w : World) : HandSHeadRun.RunEq R (PySem.W.view R.prog [43]) hk ob 8000 nss w := by
  intro os
  kernel_rfl
theorem env_of {K : PySem.W.Frag} {h : Heap} {mg : Str → Option Value} (X : K.In h) (G : h.Ns mainGlobals mg) (c : SaysX xf fn K) : Env K mg :=
  ⟨He.glo_ok X G (c.fact 0 (f := fun K => (He.Fa.glo "_wall").ok K) rfl),
  He.glo_ok X G (c.fact 1 (f := fun K => (He.Fa.glo "is_whole").ok K) rfl),
  He.glo_ok X G (c.fact 2 (f := fun K => (He.Fa.glo "is_moment").ok K) rfl),
  He.glo_ok X G (c.fact 3 (f := fun K => (He.Fa.glo "want_day").ok K) rfl),
  He.glo_ok X G (c.fact 4 (f := fun K => (He.Fa.glo "are_signs").ok K) rfl),
  He.glo_ok X G (c.fact 5 (f := fun K => (He.Fa.glo "told_days").ok K) rfl),
  He.glo_ok X G (c.fact 6 (f := fun K => (He.Fa.glo "want_till").ok K) rfl),
  He.glo_ok X G (c.fact 7 (f := fun K => (He.Fa.glo "edges_of").ok K) rfl),
  He.glo_ok X G (c.fact 8 (f := fun K => (He.Fa.glo "stretches").ok K) rfl),
  He.glo_ok X G (c.fact 9 (f := fun K => (He.Fa.glo "first_days").ok K) rfl),
  He.glo_ok X G (c.fact 10 (f := fun K => (He.Fa.glo "common_round").ok K) rfl),
  He.glo_ok X G (c.fact 11 (f := fun K => (He.Fa.glo "first_apart").ok K) rfl),
  He.glo_ok X G (c.fact 12 (f := fun K => (He.Fa.glo "_law_pot").ok K) rfl),
  He.glo_ok X G (c.fact 13 (f := fun K => (He.Fa.glo "_law_take").ok K) rfl),
  He.glo_ok X G (c.fact 14 (f := fun K => (He.Fa.glo "_law_great").ok K) rfl),
  He.glo_ok X G (c.fact 15 (f := fun K => (He.Fa.glo "_law_bits").ok K) rfl),
  He.glo_ok X G (c.fact 16 (f := fun K => (He.Fa.glo "_law_near").ok K) rfl),
  He.glo_ok X G (c.fact 17 (f := fun K => (He.Fa.glo "_law_few").ok K) rfl),
  He.glo_ok X G (c.fact 18 (f := fun K => (He.Fa.glo "_law_some").ok K) rfl),
  He.glo_ok X G (c.fact 19 (f := fun K => (He.Fa.glo "_law_has").ok K) rfl),
  He.glo_ok X G (c.fact 20 (f := fun K => (He.Fa.glo "_law_made").ok K) rfl),
  He.glo_ok X G (c.fact 21 (f := fun K => (He.Fa.glo "_law_edges").ok K) rfl),
  He.glo_ok X G (c.fact 22 (f := fun K => (He.Fa.glo "_law_pair").ok K) rfl),
  He.glo_ok X G (c.fact 23 (f := fun K => (He.Fa.glo "_law_alike").ok K) rfl),
  He.glo_ok X G (c.fact 24 (f := fun K => (He.Fa.glo "_law_right").ok K) rfl),
  He.glo_ok X G (c.fact 25 (f := fun K => (He.Fa.glo "_law_unlike").ok K) rfl),
  He.glo_ok X G (c.fact 26 (f := fun K => (He.Fa.glo "law").ok K) rfl),
  gint_of X G (c.fact 27 (f := fun K => (He.Fa.int "MOST_SIGNS" (7)).ok K) rfl),
  gstr_of X G (c.fact 28 (f := fun K => (He.Fa.str "NOUGHT" "0").ok K) rfl),
  gstr_of X G (c.fact 29 (f := fun K => (He.Fa.str "ONE" "1").ok K) rfl),
  gint_of X G (c.fact 30 (f := fun K => (He.Fa.int "MOST_DAYS" (8)).ok K) rfl),
  gstr_of X G (c.fact 31 (f := fun K => (He.Fa.str "FROM" "from").ok K) rfl),
  gstr_of X G (c.fact 32 (f := fun K => (He.Fa.str "TO" "to").ok K) rfl),
  gstr_of X G (c.fact 33 (f := fun K => (He.Fa.str "NOT" "not").ok K) rfl),
  gstr_of X G (c.fact 34 (f := fun K => (He.Fa.str "ALSO" "also").ok K) rfl),
  He.free_ok X G (c.fact 35 (f := fun K => (He.Fa.free "all").ok K) rfl),
  He.free_ok X G (c.fact 36 (f := fun K => (He.Fa.free "any").ok K) rfl),
  He.free_ok X G (c.fact 37 (f := fun K => (He.Fa.free "bool").ok K) rfl),
  He.free_ok X G (c.fact 38 (f := fun K => (He.Fa.free "divmod").ok K) rfl),
  He.free_ok X G (c.fact 39 (f := fun K => (He.Fa.free "int").ok K) rfl),
  He.free_ok X G (c.fact 40 (f := fun K => (He.Fa.free "isinstance").ok K) rfl),
  He.free_ok X G (c.fact 41 (f := fun K => (He.Fa.free "len").ok K) rfl),
  He.free_ok X G (c.fact 42 (f := fun K => (He.Fa.free "list").ok K) rfl),
  He.free_ok X G (c.fact 43 (f := fun K => (He.Fa.free "max").ok K) rfl),
  He.free_ok X G (c.fact 44 (f := fun K => (He.Fa.free "min").ok K) rfl),
  He.free_ok X G (c.fact 45 (f := fun K => (He.Fa.free "range").ok K) rfl),
  He.free_ok X G (c.fact 46 (f := fun K => (He.Fa.free "repr").ok K) rfl),
  He.free_ok X G (c.fact 47 (f := fun K => (He.Fa.free "set").ok K) rfl),
  He.free_ok X G (c.fact 48 (f := fun K => (He.Fa.free "sorted").ok K) rfl),
  He.free_ok X G (c.fact 49 (f := fun K => (He.Fa.free "str").ok K) rfl),
  He.free_ok X G (c.fact 50 (f := fun K => (He.Fa.free "tuple").ok K) rfl),
  He.free_ok X G (c.fact 51 (f := fun K => (He.Fa.free "zip").ok K) rfl),
  He.glo_ok X G (c.fact 52 (f := fun K => (He.Fa.glo "GoingError").ok K) rfl),
  exo_of (c.fact 53 (f := exoB bmV "ValueError.__new__" "GoingError") rfl),
  He.glo_ok X G (c.fact 54 (f := fun K => (He.Fa.glo "NoDays").ok K) rfl),
  exo_of (c.fact 55 (f := exoB bmV "ValueError.__new__" "NoDays") rfl),
  He.glo_ok X G (c.fact 56 (f := fun K => (He.Fa.glo "Ring").ok K) rfl),
  He.glo_ok X G (c.fact 57 (f := fun K => (He.Fa.glo "Days").ok K) rfl),
  sys_of (c.fact 58 (f := sysB) rfl),
  He.cls_ok (c.fact 59 (f := fun K => (He.Fa.cls "Ring").ok K) rfl),
  insC_of (c.fact 60 (f := insB "Ring") rfl),
  He.noat_ok (c.fact 61 (f := fun K => (He.Fa.noat "Ring" "bits").ok K) rfl),
  He.meth_ok (c.fact 62 (f := fun K => (He.Fa.meth "Ring" "__init__").ok K) rfl),
  He.meth_ok (c.fact 63 (f := fun K => (He.Fa.meth "Ring" "__eq__").ok K) rfl),
  He.meth_ok (c.fact 64 (f := fun K => (He.Fa.meth "Ring" "__len__").ok K) rfl),
  He.meth_ok (c.fact 65 (f := fun K => (He.Fa.meth "Ring" "__str__").ok K) rfl),
  He.meth_ok (c.fact 66 (f := fun K => (He.Fa.meth "Ring" "__repr__").ok K) rfl),
  He.meth_ok (c.fact 67 (f := fun K => (He.Fa.meth "Ring" "rings").ok K) rfl),
  He.meth_ok (c.fact 68 (f := fun K => (He.Fa.meth "Ring" "least").ok K) rfl),
  He.mkr_ok (c.fact 69 (f := fun K => (He.Fa.mkr "Ring").ok K) rfl),
  noBase_of (c.fact 70 (f := noBaseF "Ring") rfl),
  of_decide_eq_true (c.fact 71 (f := kitF "Ring" "Ring" true) rfl),
  of_decide_eq_true (c.fact 72 (f := kitF "Ring" "Days" false) rfl),
  of_decide_eq_true (c.fact 73 (f := kitFT "Ring" "int" false) rfl),
  of_decide_eq_true (c.fact 74 (f := kitFT "Ring" "bool" false) rfl),
  of_decide_eq_true (c.fact 75 (f := kitFT "Ring" "str" false) rfl),
  of_decide_eq_true (c.fact 76 (f := kitFT "Ring" "list" false) rfl),
  of_decide_eq_true (c.fact 77 (f := kitFT "Ring" "tuple" false) rfl),
  He.cls_ok (c.fact 78 (f := fun K => (He.Fa.cls "Days").ok K) rfl),
  insC_of (c.fact 79 (f := insB "Days") rfl),
  He.noat_ok (c.fact 80 (f := fun K => (He.Fa.noat "Days" "ring").ok K) rfl),
  He.noat_ok (c.fact 81 (f := fun K => (He.Fa.noat "Days" "since").ok K) rfl),
  He.noat_ok (c.fact 82 (f := fun K => (He.Fa.noat "Days" "till").ok K) rfl),
  He.noat_ok (c.fact 83 (f := fun K => (He.Fa.noat "Days" "out").ok K) rfl),
  He.noat_ok (c.fact 84 (f := fun K => (He.Fa.noat "Days" "also").ok K) rfl),
  He.meth_ok (c.fact 85 (f := fun K => (He.Fa.meth "Days" "__init__").ok K) rfl),
  He.meth_ok (c.fact 86 (f := fun K => (He.Fa.meth "Days" "__eq__").ok K) rfl),
  He.meth_ok (c.fact 87 (f := fun K => (He.Fa.meth "Days" "__str__").ok K) rfl),
  He.meth_ok (c.fact 88 (f := fun K => (He.Fa.meth "Days" "__repr__").ok K) rfl),
  He.meth_ok (c.fact 89 (f := fun K => (He.Fa.meth "Days" "has").ok K) rfl),
  He.meth_ok (c.fact 90 (f := fun K => (He.Fa.meth "Days" "first_from").ok K) rfl),
  He.meth_ok (c.fact 91 (f := fun K => (He.Fa.meth "Days" "how_many").ok K) rfl),
  He.meth_ok (c.fact 92 (f := fun K => (He.Fa.meth "Days" "among").ok K) rfl),
  He.mkr_ok (c.fact 93 (f := fun K => (He.Fa.mkr "Days").ok K) rfl),
  noBase_of (c.fact 94 (f := noBaseF "Days") rfl),
  of_decide_eq_true (c.fact 95 (f := kitF "Days" "Ring" false) rfl),
  of_decide_eq_true (c.fact 96 (f := kitF "Days" "Days" true) rfl),
  of_decide_eq_true (c.fact 97 (f := kitFT "Days" "int" false) rfl),
  of_decide_eq_true (c.fact 98 (f := kitFT "Days" "bool" false) rfl),
  of_decide_eq_true (c.fact 99 (f := kitFT "Days" "str" false) rfl),
  of_decide_eq_true (c.fact 100 (f := kitFT "Days" "list" false) rfl),
  of_decide_eq_true (c.fact 101 (f := kitFT "Days" "tuple" false) rfl),
  of_decide_eq_true (c.fact 102 (f := kitBF "int" "Ring" false) rfl),
  of_decide_eq_true (c.fact 103 (f := kitBF "bool" "Ring" false) rfl),
  of_decide_eq_true (c.fact 104 (f := kitBF "str" "Ring" false) rfl),
  of_decide_eq_true (c.fact 105 (f := kitBF "NoneType" "Ring" false) rfl),
  of_decide_eq_true (c.fact 106 (f := kitBF "list" "Ring" false) rfl),
  of_decide_eq_true (c.fact 107 (f := kitBF "tuple" "Ring" false) rfl),
  of_decide_eq_true (c.fact 108 (f := kitBF "dict" "Ring" false) rfl),
  of_decide_eq_true (c.fact 109 (f := kitBF "int" "Days" false) rfl),
  of_decide_eq_true (c.fact 110 (f := kitBF "bool" "Days" false) rfl),
  of_decide_eq_true (c.fact 111 (f := kitBF "str" "Days" false) rfl),
  of_decide_eq_true (c.fact 112 (f := kitBF "NoneType" "Days" false) rfl),
  of_decide_eq_true (c.fact 113 (f := kitBF "list" "Days" false) rfl),
  of_decide_eq_true (c.fact 114 (f := kitBF "tuple" "Days" false) rfl),
  of_decide_eq_true (c.fact 115 (f := kitBF "dict" "Days" false) rfl),
  c.def_ 0 (d := d__wall) rfl,
  c.def_ 1 (d := d_is_whole) rfl,
  c.def_ 2 (d := d_is_moment) rfl,
  c.def_ 3 (d := d_want_day) rfl,
  c.def_ 4 (d := d_are_signs) rfl,
  c.def_ 5 (d := d_Ring_init) rfl,
  c.def_ 6 (d := d_Ring_eq) rfl,
  c.def_ 7 (d := d_Ring_len) rfl,
  c.def_ 8 (d := d_Ring_str) rfl,
  c.def_ 9 (d := d_Ring_repr) rfl,
  c.def_ 10 (d := d_Ring_rings) rfl,
  c.def_ 11 (d := d_Ring_least) rfl,
  c.def_ 12 (d := d_told_days) rfl,
  c.def_ 13 (d := d_want_till) rfl,
  c.def_ 14 (d := d_Days_init) rfl,
  c.def_ 15 (d := d_Days_eq) rfl,
  c.def_ 16 (d := d_Days_str) rfl,
  c.def_ 17 (d := d_Days_repr) rfl,
  c.def_ 18 (d := d_Days_has) rfl,
  c.def_ 19 (d := d_Days_first_from) rfl,
  c.def_ 20 (d := d_Days_how_many) rfl,
  c.def_ 21 (d := d_Days_among) rfl,
  c.def_ 22 (d := d_edges_of) rfl,
  c.def_ 23 (d := d_stretches) rfl,
  c.def_ 24 (d := d_first_days) rfl,
  c.def_ 25 (d := d_common_round) rfl,
  c.def_ 26 (d := d_first_apart) rfl,
  c.def_ 27 (d := d__law_pot) rfl,
  c.def_ 28 (d := d__law_take) rfl,
  c.def_ 29 (d := d__law_great) rfl,
  c.def_ 30 (d := d__law_bits) rfl,
  c.def_ 31 (d := d__law_near) rfl,
  c.def_ 32 (d := d__law_few) rfl,
  c.def_ 33 (d := d__law_some) rfl,
  c.def_ 34 (d := d__law_has) rfl,
  c.def_ 35 (d := d__law_made) rfl,
  c.def_ 36 (d := d__law_edges) rfl,
  c.def_ 37 (d := d__law_pair) rfl,
  c.def_ 38 (d := d__law_alike) rfl,
  c.def_ 39 (d := d__law_right) rfl,
  c.def_ 40 (d := d__law_unlike) rfl,
  c.def_ 41 (d := d_law) rfl⟩
end Toy
open PySem PySem.W PySem.Calls PyProof.Rows
set_option maxRecDepth 100000 in
set_option maxHeartbeats 0 in
theorem PySem.Challenge.cw_shortgoings_k49_whole_first_apart_holds : PySem.Challenge.rw_shortgoings_k49_whole_first_apart.Holds := by
  w_on; o_law
  refine HandSHeadRun.head_any (r := OpenLaw.row PySem.Challenge.rw_shortgoings_k49_whole_first_apart) (q := view (OpenLaw.row PySem.Challenge.rw_shortgoings_k49_whole_first_apart).prog [43]) (H := Toy.hk) (ob := Toy.ob) (M := 8000) (loose := Toy.nss) (d := HandSHeadRun.topDef (OpenLaw.row PySem.Challenge.rw_shortgoings_k49_whole_first_apart).prog 43) (kwd := []) Toy.ob_eq
    (by kernel_rfl) (fun s => by kernel_rfl) Toy.run (by kernel_rfl) (by kernel_rfl) (by kernel_rfl) (by rfl) (by first | assumption | decide +kernel) (by decide +kernel) ⟨rfl, rfl, rfl, rfl, rfl, by decide +kernel⟩ ?hw ?hc
  case hw => w_witness2
  case hc =>
    refine L3.walk_end (l := PySem.Challenge.rw_shortgoings_k49_whole_first_apart) (n := 63) (k := 10) (x := "_law_script") rfl (by decide) (by kernel_rfl) (L3.rm_caller.mono (by decide)) ?F
    intro w mg fa h Y G hmg0
    obtain ⟨K, KX, c⟩ := Y
    have hmg : mg ("law" : PySem.Str) = some (.ref fa) := by
      have e : (HandSHeadRun.topDef (OpenLaw.row PySem.Challenge.rw_shortgoings_k49_whole_first_apart).prog 43).name = ("law" : PySem.Str) := by kernel_rfl
      rw [← e]
      exact hmg0
    have T := Toy.env_of KX G c
    have e := hmg.symm.trans T.g_law
    cases e
    obtain ⟨fd, F⟩ := T.f_law
    have b := L2.FunD.bindsA (ps := ["_law_script"]) F fun _ _ _ _ _ _ us hl => match us, hl with | [_], _ => rfl
    exact ⟨K, fd, Toy.sp_law K, KX, fun s v => b s [v] rfl, fun H a ns hl hS => ⟨a, ns, rfl, hS, hl, fun _ => rfl⟩, fun base _ _ => Toy.ok_law T F⟩
