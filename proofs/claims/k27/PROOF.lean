import PyProof.Rows.All
import Wide.All
import OpenK.AllK
import Wide.FinOn
import PyProof.EqAt
import PyProof.EqKinds
import PyProof.TupleCall
import HandS.ForMost
import HandS.ForExc
import HandS.Defaults
import HandS.MakeKwOnly
import HandS.WideBits
import HandS.IsInst
import HandS.Flow
import HandS.Style
import HandS.Evl
import HandS.StrMore
import HandS.TupAny
import HandS.SortInts
import HandS.RaiseMore
import HandS.Zip
import HandS.Head0
import HandS.Head1
import HandS.Head2
import HandS.HeadEnd
import HandS.HeadHook1
import HandS.HeadHook2
import HandS.Walk
import PyProof.Rows.StrJoinRep
import PyProof.StrLawsLast
import HandS.Codes
import HandS.ExcIs
import KE.KTryMore
import KE.KFmtOwn
import PyProof.InstSpecial
import HandS.TryOnly
import HandS.FStr
import HandS.Conv
import HandS.SetFor
import HandS.Strs
import HandS.OwnEq
import HandS.Deep
import HandS.RaiseFrom
import HandS.SuiteRaise
import HandS.Exc
import KE.GoesMore
import HandS.HotCalls
import HandS.ExcField
import HandS.More
import PySem.Challenge.RW_shortgoings_k27_equal_spreads
set_option Elab.async false
set_option linter.all false
set_option maxRecDepth 100000
set_option maxHeartbeats 4000000
namespace L3
open PySem PySem.Spec PyProof.Rows L2
structure Rm (k : Nat) (A : Around) : Prop where
  rm : Room k A
  gd : A.guards = some []
theorem Rm.mono {j k : Nat} {A : Around} (r : Rm k A) (h : j ≤ k) : Rm j A := ⟨r.rm.mono h, r.gd⟩
theorem Rm.deeper {k : Nat} {A : Around} (r : Rm (k + 1) A) (env : Env) : Rm k (A.deeper env) := ⟨r.rm.deeper env, r.gd⟩
theorem make_guards {A : Around} {C : Addr} {us : List Value} {kw : List (Str × Value)} : (A.under (.builtin "type.__call__" ⟨.ref C :: us, kw⟩)).guards = A.guards := by
  have e : Code.guards (.builtin "type.__call__" ⟨.ref C :: us, kw⟩) = [] := by
    first | rfl | simp [Code.guards, Code.isGuard, guardIds]
  show pushGuards (Code.guards (.builtin "type.__call__" ⟨.ref C :: us, kw⟩)) A.guards = A.guards
  rw [e]
  cases A.guards <;> rfl
theorem Rm.make {k : Nat} {A : Around} (r : Rm (k + 1) A) (C : Addr) (us : List Value) (kw : List (Str × Value)) : Rm k (A.under (.builtin "type.__call__" ⟨.ref C :: us, kw⟩)) :=
  ⟨r.rm.make C us kw, make_guards.trans r.gd⟩
structure Fb (P : Program) (w : World) (K : PySem.W.Frag) (mg : Str → Option Value) (base : Heap) (k : Nat) (f : Addr) (fd : FuncData) (ps : List Str) (sp : Sp) : Prop where
  len : ∀ vs H Q E, sp vs H Q E → vs.length = ps.length
  run : ∀ (A : Around) (outer : List Env) (s : Shared) (H : Hp) (args : Args) (us : List Value) (vs : List V) (Q : VK) (E : XK), Rm k A → Env0 P w K mg base A outer s H → BindsTo s fd args (ps.zip us) → Vals vs us → sp vs H Q E →
    codeAny (model P w) A (.call (.ref f) args) (CR (L2.CX P w) outer P w H s Q E) s
section
variable {P : Program} {w : World} {K : PySem.W.Frag} {mg : Str → Option Value} {base : Heap} {x qual : Str} {params : Arguments} {body : List Stmt} {scope : Scope} {dvs : List V} {kws : List (Str × V)} {f : Addr} {fd : FuncData} {k : Nat} {ps N : List Str} {sp : Sp}
theorem fb_of (F : FunD K x qual params body scope dvs kws f fd) (S : FnScope N ps scope) (len : ∀ vs H Q E, sp vs H Q E → vs.length = ps.length)
    (hbody : ∀ (cdv : Value) (A : Around) (outer : List Env) (s : Shared) (H : Hp) (vs : List V) (Q : VK) (E : XK), Rm k (A.deeper (envOfC qual scope s.heap.objs.size f cdv)) → sp vs H Q E →
      ∃ t, PSs (cxOf (L2.CX P w) P w K mg base N qual scope f cdv A outer s H E) body t ∧ t { nx := fun _ H' => Q .non H', rt := Q } (start N vs) H) : Fb P w K mg base (k + 1) f fd ps sp := by
  obtain ⟨oc, od, dV, kV, doc, pm, an, cdv, ct, osl, rfl, lk, hcd, _, _⟩ := F.ex
  refine ⟨len, fun A outer s H args us vs Q E hr e0 hb r hsp => ?_⟩
  have hl := len _ _ _ _ hsp
  have KX : K.In s.heap := e0.mod.kin.keeps fun b o e => (e0.bs b o e).1
  have lim : s.heap.NoLimit := e0.mod.nolimit.keeps fun b o e => (e0.bs b o e).1
  have hkind : ∀ y ∈ ps.zip us, scope.names.lookup y.1 = some .local ∨ (scope.names.lookup y.1 = some .cell ∧ ((cellsFrom (s.heap.objs.size + 1) scope.names []).lookup y.1).isSome = true) := fun ⟨n, v⟩ hy => by
    rcases S.par n (List.of_mem_zip hy).1 with q | q
    · exact .inl q
    · exact .inr ⟨q, PySem.W.cellsFrom_some _ _ _ (.inl q)⟩
  refine codeAny_call_function hr.rm.depth (KX _ _ lk) rfl S.co S.gen rfl (PySem.W.codeRec_of KX hcd) (hb _ _ _ _ ?_)
  refine wpAny_newFunctionEnv_cells S.kind hkind fun env he s1 x => ?_
  subst he
  refine ⟨lim.keeps x.toInCall.keep, codeAny_func ?_⟩
  obtain ⟨t, ht, hq⟩ := hbody cdv A outer s H vs Q E (hr.deeper _) hsp
  have I : Inv (cxOf (L2.CX P w) P w K mg base N qual scope f cdv A outer s H E) [] (start N vs) H s1 := inv_start S hr.rm.hd e0 hl r x
  refine wpAny_mono (ht.run [] s1 (start N vs) H _ I hq) (fun fl s' hs => ?_) fun e s' hs => hs
  have fin : ∀ {σ' : L2.St} {H' : Hp} {v : V} {u : Value}, Inv (cxOf (L2.CX P w) P w K mg base N qual scope f cdv A outer s H E) [] σ' H' s' → RelV v u → Q v H' → CE outer P w H s Q u s' :=
    fun {σ' H' v u} J rv q => ⟨v, H', J.os, J.bare, J.base, J.hok, rv, q⟩
  cases fl with
  | ret u =>
    obtain ⟨v, σ', H', J, rv, q⟩ := hs
    exact fin J rv q
  | next =>
    obtain ⟨σ', H', J, q⟩ := hs
    exact fin (v := V.non) (u := Value.none) J rfl q
  | brk =>
    obtain ⟨_, _, _, q⟩ := hs
    exact False.elim q
  | cont =>
    obtain ⟨_, _, _, q⟩ := hs
    exact False.elim q
theorem Fb.mono {j : Nat} (F : Fb P w K mg base j f fd ps sp) (h : j ≤ k) : Fb P w K mg base k f fd ps sp := ⟨F.len, fun A outer s H args us vs Q E hr => F.run A outer s H args us vs Q E (hr.mono h)⟩
theorem Fb.imp {sp' : Sp} (F : Fb P w K mg base k f fd ps sp) (h : ∀ vs H Q E, sp' vs H Q E → sp vs H Q E) : Fb P w K mg base k f fd ps sp' :=
  ⟨fun vs H Q E q => F.len vs H Q E (h _ _ _ _ q), fun A outer s H args us vs Q E hr he hb hv hs => F.run A outer s H args us vs Q E hr he hb hv (h _ _ _ _ hs)⟩
def Fc (P : Program) (w : World) (K : PySem.W.Frag) (mg : Str → Option Value) (base : Heap) (k : Nat) (f : Addr) (ks : List Str) (sp : Sp) : Prop :=
  ∀ (A : Around) (outer : List Env) (s : Shared) (H : Hp) (us ws : List Value) (vs : List V) (Q : VK) (E : XK), Rm k A → Env0 P w K mg base A outer s H → Vals vs (us ++ ws) → ws.length = ks.length → sp vs H Q E →
    codeAny (model P w) A (.call (.ref f) ⟨us, ks.zip ws⟩) (CR (L2.CX P w) outer P w H s Q E) s
theorem Fc.mono {j : Nat} {ks : List Str} (F : Fc P w K mg base j f ks sp) (h : j ≤ k) : Fc P w K mg base k f ks sp := fun A outer s H us ws vs Q E hr => F A outer s H us ws vs Q E (hr.mono h)
theorem Fc.imp {sp' : Sp} {ks : List Str} (F : Fc P w K mg base k f ks sp) (h : ∀ vs H Q E, sp' vs H Q E → sp vs H Q E) : Fc P w K mg base k f ks sp' :=
  fun A outer s H us ws vs Q E hr he hv hl hs => F A outer s H us ws vs Q E hr he hv hl (h _ _ _ _ hs)
/-- every parameter is given by place -/
theorem Fb.all (F : Fb P w K mg base k f fd ps sp) (hb : Binds K fd ps []) : Fc P w K mg base k f [] sp := fun A outer s H us ws vs Q E hr e0 r hl h => by
  cases ws with
  | cons w ws => cases hl
  | nil =>
    rw [List.append_nil] at r
    have KX : K.In s.heap := e0.mod.kin.keeps fun b o e => (e0.bs b o e).1
    have l2 : us.length = ps.length := by rw [← r.length]; exact F.len _ _ _ _ h
    have b := hb s us KX (by rw [List.append_nil]; exact l2)
    rw [List.append_nil] at b
    exact F.run A outer s H ⟨us, []⟩ us vs Q E hr e0 b r h
/-- some by place, some by name, some left out: g puts the given ones and the defaults into the parameters' order -/
theorem Fb.shape (D : FunD K x qual params body scope dvs kws f fd) (F : Fb P w K mg base k f fd ps sp) (n : Nat) (ks : List Str) (g : {α : Type} → List α → List α → List α) (hd : dvs ≠ [])
    (hrel : ∀ {vs ds : List V} {us its : List Value}, Vals vs us → Vals ds its → Vals (g vs ds) (g us its))
    (h : ∀ (T : Addr) (kV doc pm : Value) (an : Option Addr) (cdv ct : Value) (us ws its : List Value), us.length = n → ws.length = ks.length → its.length = dvs.length →
      ∃ k, bindArgs (PySem.W.fnOf x qual params body scope (.ref T) kV doc pm an cdv ct) ⟨us, ks.zip ws⟩ = seqItems? (.ref T) >>= k ∧ k (some its.toArray) = pure (ps.zip (g (us ++ ws) its))) :
    Fc P w K mg base k f ks (fun vs H Q E => vs.length = n + ks.length ∧ sp (g vs dvs) H Q E) := by
  obtain ⟨oc, od, dV, kV, doc, pm, an, cdv, ct, osl, rfl, lk, hcd, hD, hK⟩ := D.ex
  rcases hD with ⟨e, _⟩ | ⟨_, T, o, its, m, rfl, lT, oT, rT⟩
  · exact absurd e hd
  · intro A outer s H us ws vs Q E hr e0 r hl hsp
    have KX : K.In s.heap := e0.mod.kin.keeps fun b o e => (e0.bs b o e).1
    have l1 : its.length = dvs.length := rT.length.symm
    have l2 : us.length = n := by
      have e := r.length
      rw [hsp.1, List.length_append, hl] at e
      omega
    obtain ⟨k, e1, e2⟩ := h T kV doc pm an cdv ct us ws its l2 hl l1
    refine F.run A outer s H ⟨us, ks.zip ws⟩ (g (us ++ ws) its) (g vs dvs) Q E hr e0 (BindsTo.of_looks fun M => ?_) (hrel r rT) hsp.2
    rw [e1]
    exact looks_items KX lT oT (.of_pure e2)
/-- all parameters given, some by name, no defaults -/
theorem Fb.names (D : FunD K x qual params body scope [] kws f fd) (F : Fb P w K mg base k f fd ps sp) (n : Nat) (ks : List Str) (g : {α : Type} → List α → List α)
    (hrel : ∀ {vs : List V} {us : List Value}, Vals vs us → Vals (g vs) (g us))
    (h : ∀ (kV doc pm : Value) (an : Option Addr) (cdv ct : Value) (us ws : List Value), us.length = n → ws.length = ks.length →
      bindArgs (PySem.W.fnOf x qual params body scope .none kV doc pm an cdv ct) ⟨us, ks.zip ws⟩ = pure (ps.zip (g (us ++ ws)))) :
    Fc P w K mg base k f ks (fun vs H Q E => vs.length = n + ks.length ∧ sp (g vs) H Q E) := by
  obtain ⟨oc, od, dV, kV, doc, pm, an, cdv, ct, osl, rfl, lk, hcd, hD, hK⟩ := D.ex
  rcases hD with ⟨_, rfl⟩ | ⟨e, _⟩
  · intro A outer s H us ws vs Q E hr e0 r hl hsp
    have l2 : us.length = n := by
      have e := r.length
      rw [hsp.1, List.length_append, hl] at e
      omega
    exact F.run A outer s H ⟨us, ks.zip ws⟩ (g (us ++ ws)) (g vs) Q E hr e0 (.of_eq (h kV doc pm an cdv ct us ws l2 hl)) (hrel r) hsp.2
  · exact absurd rfl e
end
def tFc (sp : Sp) (W : WX) (t : TA) : TE := fun σ H Q => t σ H fun vs H1 => sp vs H1 Q (WE W σ)
section
variable {X : Cx} {k : Nat} {f C : Addr} {ks : List Str} {sp : Sp} {W : WX} {x m : Str} {p pos apos : Pos} {e o : Expr} {es : List Expr} {kws : List Keyword} {ta : TE} {t tk : TA}
theorem run_fc {pins : List (Addr × Obj)} {σ : L2.St} {H : Hp} {s : Shared} {Q : VK} {us ws : List Value} {vs : List V} (F : Fc X.prog X.w X.K X.mg X.base k f ks sp) (hr : Rm k X.A) (hx : Takes X W)
    (I : Inv X pins σ H s) (r : Vals vs (us ++ ws)) (hl : ws.length = ks.length) (h : sp vs H Q (WE W σ)) : wpAny (model X.prog X.w) X.A (call (.ref f) us (ks.zip ws)) (EP X pins σ Q) X.xe s := by
  refine wpAny_call (codeAny_mono (F X.A X.stack s H us ws vs Q (WE W σ) hr I.env0 r hl h) fun r s' hq => ?_)
  cases r with
  | error e => exact passAt hx σ pins H s e s' I hq
  | ok fl =>
    cases fl with
    | ret u => exact I.after hq
    | next => exact False.elim hq
    | brk => exact False.elim hq
    | cont => exact False.elim hq
/-- f(e, ..) -/
theorem c_call (F : Fc X.prog X.w X.K X.mg X.base k f [] sp) (hr : Rm k X.A) (hm : X.mg x = some (.ref f)) (hk : PySem.W.keepIn X.K (.ref f) = true) (hx : Takes X W)
    (ha : PA X (e :: es) t) (hg : Gl X x := by rfl) (hdb : (x == ("__debug__" : Str)) = false := by decide) (he : starEach (e :: es) X.env = (false, eval e X.env) :: starEach es X.env := by rfl) (hpl : (backTo pos (starEach es X.env)).any (·.1) = false := by rfl) :
    PE X (.Call (.Name x p) (e :: es) [] pos) (tFc sp W t) := by
  refine ⟨fun pins s σ H Q I h => ?_⟩
  refine wpAny_Call_Name_kw (ld_glob I hg hm ?_ hdb)
  refine PySem.W.callWith_K (h₀ := X.base) I.ok.mod.kin hk (thn (ha.run pos pins s σ H _ I h) fun us s1 ⟨vs, H1, I1, r, q⟩ => ⟨I1.kIn, ?_⟩) he hpl
  exact run_fc (ws := []) F hr hx I1 (by rw [List.append_nil]; exact r) rfl q
/-- f(k = v, ..) -/
theorem c_callK0 (F : Fc X.prog X.w X.K X.mg X.base k f ks sp) (hr : Rm k X.A) (hm : X.mg x = some (.ref f)) (hk : PySem.W.keepIn X.K (.ref f) = true) (hx : Takes X W)
    (hkw : PK X kws tk) (hg : Gl X x := by rfl) (hall : (backToKw pos (keywordEach kws X.env)).all (·.1.isSome) = true := by rfl) (hks : (backToKw pos (keywordEach kws X.env)).filterMap (·.1) = ks := by rfl)
    (hdb : (x == ("__debug__" : Str)) = false := by decide)
    (hpl : ((backTo pos (starEach [] X.env)).any (·.1) || (backToKw pos (keywordEach kws X.env)).any (·.1.isNone)) = false := by rfl) :
    PE X (.Call (.Name x p) [] kws pos) (fun σ H Q => tk σ H fun zs H2 => zs.length = ks.length ∧ sp zs H2 Q (WE W σ)) := by
  refine ⟨fun pins s σ H Q I h => ?_⟩
  refine wpAny_Call_Name_kw (ld_glob I hg hm ?_ hdb)
  refine PySem.W.callWith_KW0 (h₀ := X.base) I.ok.mod.kin hk hall ?_ hpl
  refine thn (hkw.run pos pins s σ H _ I h) fun ws s2 ⟨zs, H2, I2, rz, l2, q2⟩ => ⟨I2.kIn, ?_⟩
  rw [hks]
  exact run_fc (us := []) F hr hx I2 rz (rz.length.symm.trans l2) q2
end
theorem rm_caller : Rm 230 callerA := ⟨⟨rfl, by decide, by decide⟩, rfl⟩
section
variable {P : Program} {w : World} {K : PySem.W.Frag} {mg mb : Str → Option Value} {k : Nat} {fa a : Addr} {fd : FuncData} {x : Str} {sp : Sp} {s₁ : Shared} {vs : List Value} {ns : List Int}
/-- the law's call over one abstract heap, in which at most the script is tracked -/
theorem law_core (H : Hp) (KX : K.In s₁.heap) (hns : s₁.heap.Ns mainGlobals mg) (hb : s₁.heap.Ns builtinsNs mb) (hbb : ∀ x : Str, x ≠ "__name__" → mb x = bootBuiltins x) (hlim : s₁.heap.NoLimit) (hg : s₁.gens = #[])
    (ha : s₁.heap.get? a = some { cls := .type "list", data := .seq vs.toArray }) (hr : Rm k callerA)
    (F : ∀ base : Heap, K.In base → base.Ns mainGlobals mg → Fb P w K mg base k fa fd [x] sp) (hbind : ∀ (s : Shared) (u : Value), BindsTo s fd ⟨[u], []⟩ [(x, u)])
    (hO : Only H) (hsp : sp [.ref a] H (fun v _ => v = .bl true) fun _ _ _ => False) (hok : HOk P w H s₁.heap) (hA : ∀ b, H b ≠ none → b = a) (hK : H a ≠ none → K.lookup a = none) :
    codeAny (model P w) callerA (.call (.ref fa) ⟨[.ref a], []⟩) (fun r s' => r = .ok (.ret (.bool true)) ∧ OldK s₁.heap s'.heap ∧ s'.os = s₁.os ∧ AllBare s'.gens) s₁ := by
  have isA : ∀ {b : Addr} {u : HO}, H b = some u → b = a := fun {b u} q => hA b (fun z => nomatch (q.symm.trans z))
  have free : ∀ {b : Addr} {o : Obj} {es : Array DictEntry} {ep : Nat}, s₁.heap.get? b = some o → o.data = .dict es ep → H b = none := fun {b o es ep} e d => by
    cases q : H b with
    | none => rfl
    | some u =>
      have eb := isA q
      subst eb
      rw [ha] at e
      cases e
      cases (show Data.seq vs.toArray _ = Data.dict es ep from d)
  have nsK : ∀ {b : Addr} {m : Str → Option Value}, s₁.heap.Ns b m → (hidT s₁.heap H).Ns b m := fun {b m} ⟨o, es, ep, e, d, r⟩ => ⟨o, es, ep, hidT_get e (free e d), d, r⟩
  have inK : K.In (hidT s₁.heap H) := fun b o e => hidT_get (KX b o e) (by
    cases q : H b with
    | none => rfl
    | some u =>
      have eb := isA q
      subst eb
      rw [hK (fun z => nomatch (q.symm.trans z))] at e
      cases e)
  have hM : Mod K mg (hidT s₁.heap H) := ⟨inK, nsK hns, ⟨mb, nsK hb, hbb⟩, let ⟨mc, h1, h2⟩ := hlim; ⟨mc, nsK h1, h2⟩⟩
  have e0 : Env0 P w K mg (hidT s₁.heap H) callerA [] s₁ H := ⟨rfl, hM, fun b o e => of_hidT e, Nat.le_of_eq (hidT_size _ _), trivial, (fun b z => nomatch (show b ∈ ([] : List Addr) from z)), hok, .of_eq hg⟩
  refine codeAny_mono ((F _ inK (nsK hns)).run callerA [] s₁ H ⟨[.ref a], []⟩ [.ref a] [.ref a] _ _ hr e0 (hbind s₁ (.ref a)) (.cons rfl .nil) hsp) fun r s' h => ?_
  cases r with
  | error e =>
    obtain ⟨_, _, _, _, _, _, _, _, _, _, _, _, z⟩ := h
    exact z.elim
  | ok fl =>
    cases fl with
    | next => exact h.elim
    | brk => exact h.elim
    | cont => exact h.elim
    | ret u =>
      obtain ⟨v, H', os, bare, un, hok2, rv, rfl⟩ := h
      obtain rfl : u = Value.bool true := rv
      refine ⟨rfl, OldK.of_keep fun b o e => ?_, os, bare⟩
      cases q : H b with
      | none => exact un.keep b o e q (fun z => nomatch (show b ∈ ([] : List Addr) from z)) (fun z => nomatch z)
      | some u =>
        rcases hO b with z | ⟨ob, xs, z⟩
        · exact nomatch (q.symm.trans z)
        · have e1 := (hok b _ z).1
          have e2 := (hok2 b _ (un.frzs b ob _ z)).1
          rw [e] at e1
          cases e1
          exact e2
theorem law_end (KX : K.In s₁.heap) (hns : s₁.heap.Ns mainGlobals mg) (hb : s₁.heap.Ns builtinsNs mb) (hbb : ∀ x : Str, x ≠ "__name__" → mb x = bootBuiltins x) (hlim : s₁.heap.NoLimit) (hg : s₁.gens = #[])
    (ha : s₁.heap.get? a = some { cls := .type "list", data := .seq vs.toArray }) (hi : IntsAre vs ns) (hl : ns.length ≤ sizeLine) (hr : Rm k callerA)
    (F : ∀ base : Heap, K.In base → base.Ns mainGlobals mg → Fb P w K mg base k fa fd [x] sp) (hbind : ∀ (s : Shared) (u : Value), BindsTo s fd ⟨[u], []⟩ [(x, u)])
    (hsp : ∀ H : Hp, SqL K H a (ns.map V.int) → sp [.ref a] H (fun v _ => v = .bl true) fun _ _ _ => False) :
    codeAny (model P w) callerA (.call (.ref fa) ⟨[.ref a], []⟩) (fun r s' => r = .ok (.ret (.bool true)) ∧ OldK s₁.heap s'.heap ∧ s'.os = s₁.os ∧ AllBare s'.gens) s₁ := by
  have rv := vals_ints hi
  cases hk : K.lookup a with
  | some o =>
    have e := KX a o hk
    rw [ha] at e
    cases e
    have sq : SqL K (fun _ => none) a (ns.map V.int) := .inr ⟨_, vs.toArray, _, hk, rfl, rfl, rfl, by rw [List.size_toArray, hi.length]; exact hl, by simpa using rv⟩
    exact law_core (fun _ => none) KX hns hb hbb hlim hg ha hr F hbind (fun _ => .inl rfl) (hsp _ sq) (fun b u z => nomatch (show (none : Option HO) = some u from z)) (fun b z => absurd rfl z) fun z => absurd rfl z
  | none =>
    have h1 : ∀ b, b ≠ a → (upd (fun _ => none) a (.frz { cls := .type "list", data := .seq vs.toArray } (.lst (ns.map V.int)))) b = none := fun b n => upd_ne n
    refine law_core (upd (fun _ => none) a (.frz { cls := .type "list", data := .seq vs.toArray } (.lst (ns.map V.int)))) KX hns hb hbb hlim hg ha hr F hbind (fun b => ?_) (hsp _ (.inl (.inr ⟨_, upd_same⟩))) (fun b u z => ?_) (fun b z => ?_) fun _ => hk
    · by_cases n : b = a
      · subst n
        exact .inr ⟨_, _, upd_same⟩
      · exact .inl (h1 b n)
    · by_cases n : b = a
      · subst n
        rw [upd_same] at z
        cases z
        exact ⟨ha, by rw [List.length_map]; exact hl, vs, _, rv, ha⟩
      · rw [h1 b n] at z
        cases z
    · by_cases n : b = a
      · exact n
      · exact absurd (h1 b n) z
end
theorem walk_end {l : PySem.W.OpenLaw} {n k : Nat} {q : Program} {loose : List Str} {XP : (Str → Option Value) → Heap → Prop} {YP : World → Heap → Prop} {d : DefRec} {x : Str}
    (hn : l.most = some n) (hn2 : n ≤ sizeLine) (hdf : d.params.defaults = []) (hr : Rm k callerA)
    (F : ∀ (w : World) (mg : Str → Option Value) (fa : Addr) (h : Heap), YP w h → h.Ns mainGlobals mg → mg d.name = some (.ref fa) →
      ∃ (K : PySem.W.Frag) (fd : FuncData) (sp : Sp), K.In h ∧ (∀ (s : Shared) (u : Value), BindsTo s fd ⟨[u], []⟩ [(x, u)]) ∧
        (∀ (H : Hp) (a : Addr) (ns : List Int), ns.length ≤ n → SqL K H a (ns.map V.int) → sp [.ref a] H (fun v _ => v = .bl true) fun _ _ _ => False) ∧
        ∀ base : Heap, K.In base → base.Ns mainGlobals mg → Fb l.prog w K mg base k fa fd [x] sp) :
    PySem.W.WalkO q loose XP YP l.row.toRowW d [] (fun f vs => PySem.call f vs) := by
  refine Att.attach_call hn hdf fun w s₀ s₁ mg mb fa o pm cd doc a vs ns G Y ho hd hcd hmg hobj hints hlen hg => ?_
  obtain ⟨K, fd, sp, KX, hb, hsp, hF⟩ := F w mg fa _ Y G.T.g hmg
  exact law_end KX G.T.g G.T.b G.T.builtins G.T.nolimit hg hobj hints (Nat.le_trans hlen hn2) hr hF hb (fun H hS => hsp H a ns hlen hS)
end L3
set_option Elab.async false
set_option linter.all false
set_option maxRecDepth 100000
set_option maxHeartbeats 4000000
namespace L3
open PySem PySem.Spec PyProof.Rows L2
abbrev Fx := PySem.W.Frag → Bool
def obsX (xf : List Fx) (fn : List He.DefD) (K : PySem.W.Frag) : He.AlD := ((xf.all fun p => p K) && fn.all fun d => d.ok K, fn.map fun d => He.fnW K d.at_)
def SaysX (xf : List Fx) (fn : List He.DefD) (K : PySem.W.Frag) : Prop := obsX xf fn K = He.valD fn
section
variable {xf : List Fx} {fn : List He.DefD} {K : PySem.W.Frag}
theorem SaysX.fact (c : SaysX xf fn K) (i : Nat) {f : Fx} (h : xf[i]? = some f := by rfl) : f K = true := by
  have c1 := (He.ba (show ((xf.all fun f => f K) && fn.all fun d => d.ok K) = true from congrArg (fun z : He.AlD => z.1) c)).1
  exact List.all_eq_true.mp c1 f (List.mem_of_getElem? h)
theorem SaysX.def_ (c : SaysX xf fn K) (i : Nat) {d : He.DefD} (h : fn[i]? = some d := by rfl) : ∃ fd, FunD K d.name d.qual d.params d.body d.scope (d.dvs K) (d.kws K) (He.fAd K d.at_) fd := by
  have c2 := (He.ba (show ((xf.all fun f => f K) && fn.all fun d => d.ok K) = true from congrArg (fun z : He.AlD => z.1) c)).2
  have e : fn.map (fun d => He.fnW K d.at_) = fn.map He.DefD.val := congrArg (fun z : He.AlD => z.2) c
  have e2 : (fn.map fun d => He.fnW K d.at_)[i]? = (fn.map He.DefD.val)[i]? := by rw [e]
  rw [List.getElem?_map, List.getElem?_map, h] at e2
  exact He.DefD.funD (Option.some.inj e2) (List.all_eq_true.mp c2 d (List.mem_of_getElem? h))
end
structure Exo (K : PySem.W.Frag) (C : Addr) (bmB : List Value) (newId : String) : Prop where
  x : PySem.W.excIn K C bmB newId = true
  kp : PySem.W.keepIn K (.ref C) = true
  sub : PySem.W.subIn K (.ref C) (.type "BaseException") = some true
  ty : PySem.W.typeIn K (.ref C) = some (.type "type")
abbrev bmV : List Value := [.type "ValueError", .type "Exception", .type "BaseException", .type "object"]
def exoB (bmB : List Value) (newId : String) (x : Str) : Fx := fun K => PySem.W.excIn K (He.ga K x) bmB newId && (PySem.W.keepIn K (.ref (He.ga K x)) && (decide (PySem.W.subIn K (.ref (He.ga K x)) (.type "BaseException") = some true) && decide (PySem.W.typeIn K (.ref (He.ga K x)) = some (.type "type"))))
theorem exo_of {bmB : List Value} {newId : String} {x : Str} {K : PySem.W.Frag} (h : exoB bmB newId x K = true) : Exo K (He.ga K x) bmB newId := by
  obtain ⟨h1, h⟩ := He.ba h
  obtain ⟨h2, h⟩ := He.ba h
  obtain ⟨h3, h4⟩ := He.ba h
  exact ⟨h1, h2, of_decide_eq_true h3, of_decide_eq_true h4⟩
section
variable {K : PySem.W.Frag} {h : Heap} {mg : Str → Option Value}
theorem gint_of (X : K.In h) (G : h.Ns mainGlobals mg) {x : Str} {i : Int} (c : (He.Fa.int x i).ok K = true) : ∃ u, mg x = some u ∧ RelV (.int i) u := by
  obtain ⟨t, e⟩ := He.int_ok X G c
  exact ⟨_, e, ⟨t, rfl⟩⟩
theorem gstr_of (X : K.In h) (G : h.Ns mainGlobals mg) {x z : Str} (c : (He.Fa.str x z).ok K = true) : ∃ u, mg x = some u ∧ RelV (.str z) u := by
  obtain ⟨t, e⟩ := He.str_ok X G c
  exact ⟨_, e, ⟨t, rfl⟩⟩
end
/-- a module's constant -/
theorem pe_k {X : Cx} {x : Str} {v : V} {pos : Pos} (h : ∃ u, X.mg x = some u ∧ RelV v u) (hg : Gl X x := by rfl) (hdb : (x == ("__debug__" : Str)) = false := by decide) : PE X (.Name x pos) (tC v) := by
  obtain ⟨u, e, r⟩ := h
  exact pe_glob hg e r hdb
end L3
set_option Elab.async false
set_option linter.all false
set_option maxRecDepth 100000
set_option maxHeartbeats 4000000
namespace L3
open PySem PySem.Spec PyProof.Rows L2
abbrev Ex (H H' : Hp) : Prop := Same H H'
theorem ex_new {H : Hp} {p : Addr} {o : HO} (h : H p = none) : Ex H (upd H p o) := fun a u e => by
  rw [upd_ne (ne_of_none e h)]
  exact e
/-- an object that H does not know may change -/
theorem ex_mut {H H' : Hp} {p : Addr} {o : HO} (e : Ex H H') (h : H p = none) : Ex H (upd H' p o) := fun a u ha => by
  rw [upd_ne (ne_of_none ha h)]
  exact e a u ha
theorem ex_sql {K : PySem.W.Frag} {H H' : Hp} {a : Addr} {xs : List V} (e : Ex H H') (h : SqL K H a xs) : SqL K H' a xs := Same.seq e h
theorem ex_sqt {K : PySem.W.Frag} {H H' : Hp} {a : Addr} {xs : List V} (e : Ex H H') (h : SqT K H a xs) : SqT K H' a xs := by
  rcases h with (h | ⟨o, h⟩) | h
  · exact .inl (.inl (e _ _ h))
  · exact .inl (.inr ⟨o, e _ _ h⟩)
  · exact .inr h
theorem ex_fresh {H H' : Hp} {p : Addr} (e : Ex H H') (h : H' p = none) : H p = none := Same.free e h
theorem sq_lst {K : PySem.W.Frag} {H : Hp} {a : Addr} {xs : List V} (h : H a = some (.lst xs)) : SqL K H a xs := .inl (.inl h)
theorem sq_tup {K : PySem.W.Frag} {H : Hp} {a : Addr} {xs : List V} (h : H a = some (.tup xs)) : SqT K H a xs := .inl (.inl h)
/-- a value of a known type -/
def isW : V → Bool
  | .int _ => true
  | _ => false
def isM : V → Bool
  | .int i => decide (0 ≤ i)
  | _ => false
def isB (n : Int) : V → Bool
  | .int i => decide (0 ≤ i) && decide (i < n)
  | _ => false
def Cl (K : PySem.W.Frag) (H : Hp) (x : V) : Prop := ∃ t b c, TyX K H x t ∧ PySem.W.kitOne K t (.type "int") = some b ∧ PySem.W.kitOne K t (.type "bool") = some c ∧ isW x = (b && !c)
section
variable {K : PySem.W.Frag} {H : Hp}
theorem cl_int (i : Int) : Cl K H (.int i) := ⟨_, true, false, .base (.int i), kit_ty (by decide +kernel), kit_ty (by decide +kernel), rfl⟩
end
theorem isM_w {x : V} (h : isM x = true) : ∃ i, x = .int i ∧ 0 ≤ i := by
  cases x with
  | int i => exact ⟨i, rfl, of_decide_eq_true h⟩
  | _ => cases h
/-- given values and defaults in the parameters' order -/
def pick {α : Type} (ix : List (Sum Nat Nat)) (us its : List α) : List α := ix.filterMap fun j => match j with
  | .inl i => us[i]?
  | .inr i => its[i]?
theorem pick_vals {vs ds : List V} {us its : List Value} (ix : List (Sum Nat Nat)) (r1 : Vals vs us) (r2 : Vals ds its) : Vals (pick ix vs ds) (pick ix us its) := by
  have one : ∀ {vs : List V} {us : List Value} (i : Nat), Vals vs us → (∃ v u, vs[i]? = some v ∧ us[i]? = some u ∧ RelV v u) ∨ (vs[i]? = none ∧ us[i]? = none) := fun {vs us} i r => by
    cases e : vs[i]? with
    | none => exact .inr ⟨rfl, r.none_of e⟩
    | some v =>
      obtain ⟨u, h1, h2⟩ := r.get e
      exact .inl ⟨v, u, rfl, h1, h2⟩
  induction ix with
  | nil => exact .nil
  | cons j ix ih =>
    unfold pick at ih ⊢
    cases j with
    | inl i =>
      rcases one i r1 with ⟨v, u, h1, h2, h3⟩ | ⟨h1, h2⟩
      · simp only [List.filterMap_cons, h1, h2]
        exact .cons h3 ih
      · simp only [List.filterMap_cons, h1, h2]
        exact ih
    | inr i =>
      rcases one i r2 with ⟨v, u, h1, h2, h3⟩ | ⟨h1, h2⟩
      · simp only [List.filterMap_cons, h1, h2]
        exact .cons h3 ih
      · simp only [List.filterMap_cons, h1, h2]
        exact ih
end L3
namespace L3
open PySem PySem.Spec PyProof.Rows L2
/-- data that repr shows, without dicts: whole numbers of at most 500 figures, texts of any signs -/
def okI (i : Int) : Bool := decide (i.natAbs < 10 ^ 200)
def okT (x : Str) : Bool := x.cps.toList.all fun c => decide (c < 16 ^ 8)
mutual
def okD : PyData → Bool
  | .none => true
  | .bool _ => true
  | .int i => okI i
  | .str x => okT x
  | .list xs => okL xs
  | .tuple xs => okL xs
  | .dict _ => false
def okL : List PyData → Bool
  | [] => true
  | x :: xs => okD x && okL xs
end
end L3
namespace L3
open PySem PySem.Spec PyProof.Rows L2
section
variable {K : PySem.W.Frag} {a : Addr} {xs : List V} {g : TG} {tt : TT} {te : TE} {vs : List Nat} {σ : L2.St} {H1 : Hp} {D : Addr} {Qd : Hp → Prop}
theorem small_len {n : Nat} (h : n ≤ 100000) : n < sizeLine := Nat.lt_of_le_of_lt h (by rw [sizeLine_eq]; decide)
abbrev Turn (g : TG) (tt : TT) (te : TE) (vs : List Nat) (σ : L2.St) (D : Addr) (x : V) (H : Hp) (N : Hp → Prop) : Prop :=
  g x (wipe σ vs) H fun σ2 H2 => wipe σ2 vs = wipe σ vs ∧ tt σ2 H2 fun b H3 => if b = true then te σ2 H3 fun y H4 => ∃ acc, H4 D = some (.lst acc) ∧ acc.length < sizeLine ∧ N (upd H4 D (.lst (acc ++ [y]))) else N H3
end
end L3
namespace L3
open PySem PySem.Spec PyProof.Rows L2
abbrev turns (most : Int) (n : Nat) : Int := if (if most < (n : Int) then most else (n : Int)) > (1 : Int) then (if most < (n : Int) then most else (n : Int)) else (1 : Int)
theorem turns_lo (most : Int) (n : Nat) (h : 0 < most ∧ most ≤ 63) : -(2 ^ 62) ≤ turns most n := by
  unfold turns
  split <;> split <;> omega
theorem turns_hi (most : Int) (n : Nat) (h : 0 < most ∧ most ≤ 63) : turns most n < 2 ^ 62 := by
  unfold turns
  split <;> split <;> omega
theorem turns_lt {i : Nat} (most : Int) (n : Nat) (h : 0 < most ∧ most ≤ 63) (hi : i < (turns most n).toNat) : i < 1000 := by
  unfold turns at hi
  split at hi <;> split at hi <;> omega
end L3
set_option Elab.async false
set_option linter.all false
set_option maxRecDepth 100000
set_option maxHeartbeats 4000000
namespace L3
open PySem PySem.Spec PyProof.Rows L2 TL
section
variable {J : It} {n : Nat} {G : Hp → Prop} {Y : Nat → Hp → V → Hp → Prop} {g : TG} {tt : TT} {te : TE} {vs : List Nat} {σ : L2.St} {H1 : Hp} {D : Addr} {Qd : Hp → Prop}
theorem range_fm_succ (fm : Nat → Option V) (i : Nat) : (List.range (i + 1)).filterMap fm = match fm i with
    | some y => (List.range i).filterMap fm ++ [y]
    | none => (List.range i).filterMap fm := by
  rw [List.range_succ, List.filterMap_append]
  cases e : fm i with
  | none => simp [e]
  | some y => simp [e]
theorem fm_len (fm : Nat → Option V) (i : Nat) : ((List.range i).filterMap fm).length ≤ i := by
  have := List.length_filterMap_le fm (List.range i)
  rwa [List.length_range] at this
theorem lc_fm (w : L2.Walk J n G Y) (fm : Nat → Option V) (I : Hp → Prop) (hI : ∀ H l, I H → I (upd H D (.lst l))) (i0 : I H1) (hn : n ≤ 100000) (hG : ∀ H, I H → G H)
    (hs : ∀ (i : Nat) (x : V) (H H' : Hp) (acc : List V) (N : Hp → Prop), i < n → I H → H D = some (.lst acc) → acc.length < sizeLine → Y i H x H' →
      (∀ H4, I H4 → H4 D = some (.lst acc) → match fm i with | some y => N (upd H4 D (.lst (acc ++ [y]))) | none => N H4) → Turn g tt te vs σ D x H' N)
    (hd : ∀ H, I H → H D = some (.lst ((List.range n).filterMap fm)) → Qd H) :
    ∃ W : Nat → Nat → Hp → Prop, (∃ m, W 0 m (upd H1 D (.lst []))) ∧ ∀ i m H, W i m H →
      (J.stop i H ∧ Qd H) ∨ (J.go i H ∧ ∃ Nx : Hp → Prop, (∀ H', Nx H' → ∃ m', m' < m ∧ W (i + 1) m' H') ∧ ∀ x H', J.yld i H x H' → Turn g tt te vs σ D x H' Nx) := by
  refine L2.lc_it w (fun i H => I H ∧ i ≤ n ∧ H D = some (.lst ((List.range i).filterMap fm))) ⟨hI _ _ i0, Nat.zero_le _, upd_same⟩ (fun i H _ p => hG H p.1) ?_ (fun H p => hd H p.1 p.2.2)
  rintro i x H H' hi ⟨p1, p2, p3⟩ y
  refine hs i x H H' _ _ hi p1 p3 (small_len (Nat.le_trans (fm_len fm i) (by omega))) y fun H4 i4 d4 => ?_
  have e := range_fm_succ fm i
  cases q : fm i with
  | none =>
    rw [q] at e
    exact ⟨i4, hi, by rw [e]; exact d4⟩
  | some y =>
    rw [q] at e
    exact ⟨hI _ _ i4, hi, by rw [upd_same, e]⟩
end
theorem range_map_get {α β : Type} (l : List α) (d : α) (f : α → β) : (List.range l.length).filterMap (fun i => some (f (l.getD i d))) = l.map f := by
  apply List.ext_getElem?
  intro i
  rw [List.filterMap_eq_map' (f := fun i => f (l.getD i d))]
  rw [List.getElem?_map, List.getElem?_map]
  by_cases h : i < l.length
  · rw [List.getElem?_range h, List.getElem?_eq_getElem h]
    simp [List.getD_eq_getElem?_getD, h]
  · rw [List.getElem?_eq_none (by simpa using h), List.getElem?_eq_none (by simpa using h)]
    rfl
section
variable {X : Cx} {o e : Expr} {to te : TE}
theorem mt_rpartition : MtR X "str.rpartition" (fun x xs H Q => ∃ a b, x = .str a ∧ xs = [.str b] ∧ (b.length == 0) = false ∧ a.length ≤ sizeLine ∧
    ∀ p, H p = none → Q (.ref p) (upd H p (.tup [.str (Txt.rpartition a b).1, .str (Txt.rpartition a b).2.1, .str (Txt.rpartition a b).2.2]))) := by
  intro pins s σ H x xs v us Q I rx rs h
  obtain ⟨a, b, rfl, rfl, hb, hz, h⟩ := h
  obtain ⟨t, rfl⟩ := rx
  cases rs with
  | cons r1 rs =>
    cases rs
    obtain ⟨u, rfl⟩ := r1
    refine call_meets F.slot_str_rpartition (typeIs_str _ _ _) F.entry_str_rpartition (F.args_str_rpartition_2 _ _) (meets_str_rpartition a b t u hb hz) ?_
    unfold Txt.rpartition at h
    revert h
    cases Builtin.Str.lastOccurrence a b 0 a.length with
    | none => intro h; exact laid_parts I h
    | some i => intro h; exact laid_parts I h
theorem pe_rpartition {apos pos : Pos} (ho : PE X o to) (he : PE X e te) (hs : starEach [e] X.env = [(false, eval e X.env)] := by rfl) (hbase : attributeBase o "rpartition" X.env (eval o X.env) = eval o X.env := by rfl) (hline : (apos.endLine == pos.line) = true := by rfl) :
    PE X (.Call (.Attribute o "rpartition" apos) [e] [] pos) (tM1 (fun x xs H Q => ∃ a b, x = .str a ∧ xs = [.str b] ∧ (b.length == 0) = false ∧ a.length ≤ sizeLine ∧
      ∀ p, H p = none → Q (.ref p) (upd H p (.tup [.str (Txt.rpartition a b).1, .str (Txt.rpartition a b).2.1, .str (Txt.rpartition a b).2.2]))) to te) :=
  pe_m1 F.slot_str_rpartition F.type_str_rpartition mt_rpartition ho he hs hbase hline
end
end L3
set_option Elab.async false
set_option linter.all false
set_option maxRecDepth 100000
set_option maxHeartbeats 4000000
namespace Mo
open PySem TL
def isFig (c : Nat) : Bool := decide (48 ≤ c) && decide (c ≤ 57)
def figs (l : List Nat) : Bool := !l.isEmpty && l.all isFig
def val (l : List Nat) : Nat := NumText.digitsVal l
def num? (l : List Nat) : Option Nat := if figs l && !(decide (1 < l.length) && l.head? == some 48) then some (val l) else none
theorem isFig_iff {c : Nat} : isFig c = true ↔ 48 ≤ c ∧ c ≤ 57 := by
  unfold isFig
  rw [Bool.and_eq_true, decide_eq_true_eq, decide_eq_true_eq]
theorem all_digits {l : List Nat} (h : l.all isFig = true) : NumText.AllDigits l := fun c hc => isFig_iff.mp (List.all_eq_true.mp h c hc)
theorem all_fig {l : List Nat} (h : NumText.AllDigits l) : l.all isFig = true := List.all_eq_true.mpr fun c hc => isFig_iff.mpr (h c hc)
theorem figs_iff {l : List Nat} : figs l = true ↔ l ≠ [] ∧ NumText.AllDigits l := by
  unfold figs
  rw [Bool.and_eq_true]
  constructor
  · rintro ⟨h1, h2⟩
    exact ⟨(by rintro rfl; cases h1), all_digits h2⟩
  · rintro ⟨h1, h2⟩
    refine ⟨?_, all_fig h2⟩
    cases l with
    | nil => exact absurd rfl h1
    | cons a r => rfl
theorem figs_num (n : Nat) : figs (numL n) = true := figs_iff.mpr ⟨numL_ne n, numL_digits n⟩
theorem numL_head : ∀ n : Nat, 1 ≤ n → (numL n).head? ≠ some 48 := by
  intro n
  induction n using Nat.strongRecOn with
  | ind n ih =>
    intro h
    by_cases hn : n < 10
    · rw [numL_lt hn]
      simp
      omega
    · rw [numL_step (by omega)]
      have z := ih (n / 10) (by omega) (by omega)
      have y := numL_ne (n / 10)
      cases e : numL (n / 10) with
      | nil => exact absurd e y
      | cons a r =>
        rw [e] at z
        simpa using z
theorem numL_one {n : Nat} (h : 1 < (numL n).length) : 10 ≤ n := by
  by_cases hn : n < 10
  · rw [numL_lt hn] at h
    simp at h
  · omega
theorem val_num (n : Nat) : val (numL n) = n := numL_val n
theorem num_num (n : Nat) : num? (numL n) = some n := by
  unfold num?
  rw [figs_num, val_num]
  have e : (decide (1 < (numL n).length) && (numL n).head? == some 48) = false := by
    by_cases h : 1 < (numL n).length
    · have h2 := numL_head n (by have := numL_one h; omega)
      rw [decide_eq_true h]
      simpa using h2
    · rw [decide_eq_false h]
      rfl
  rw [e]
  rfl
theorem val_lt {l : List Nat} (h : NumText.AllDigits l) : NumText.digitsVal l < 10 ^ l.length := by
  have key : ∀ (l : List Nat) (a : Nat), NumText.AllDigits l → l.foldl (fun acc c => acc * 10 + (c - 48)) a < (a + 1) * 10 ^ l.length := by
    intro l
    induction l with
    | nil => intro a _; simp
    | cons c r ih =>
      intro a h
      have hc := h.head
      have z := ih (a * 10 + (c - 48)) h.tail
      rw [List.foldl_cons, List.length_cons, Nat.pow_succ]
      refine Nat.lt_of_lt_of_le z ?_
      have : (a * 10 + (c - 48) + 1) ≤ (a + 1) * 10 := by omega
      calc (a * 10 + (c - 48) + 1) * 10 ^ r.length ≤ (a + 1) * 10 * 10 ^ r.length := Nat.mul_le_mul_right _ this
        _ = (a + 1) * (10 ^ r.length * 10) := by rw [Nat.mul_assoc, Nat.mul_comm 10]
  have z := key l 0 h
  simpa [NumText.digitsVal] using z
def rcut (c : Nat) : List Nat → Option (List Nat × List Nat)
  | [] => none
  | x :: r => match rcut c r with
    | some (h, t) => some (x :: h, t)
    | none => if x = c then some ([], r) else none
theorem rcut_none {c : Nat} : ∀ {l : List Nat}, c ∉ l → rcut c l = none
  | [], _ => rfl
  | x :: r, h => by
    have h1 : c ∉ r := fun z => h (List.mem_cons_of_mem _ z)
    have h2 : x ≠ c := fun z => h (by rw [z]; exact List.mem_cons_self)
    unfold rcut
    rw [rcut_none h1]
    exact if_neg h2
theorem rcut_some {c : Nat} : ∀ (p : List Nat) {q : List Nat}, c ∉ q → rcut c (p ++ c :: q) = some (p, q)
  | [], q, h => by
    show rcut c (c :: q) = some ([], q)
    unfold rcut
    rw [rcut_none h]
    exact if_pos rfl
  | x :: p, q, h => by
    show rcut c (x :: (p ++ c :: q)) = some (x :: p, q)
    unfold rcut
    rw [rcut_some p h]
theorem rcut_is {c : Nat} : ∀ {l p q : List Nat}, rcut c l = some (p, q) → l = p ++ c :: q ∧ c ∉ q
  | [], _, _, h => by cases h
  | x :: r, p, q, h => by
    unfold rcut at h
    cases e : rcut c r with
    | some z =>
      obtain ⟨h1, h2⟩ := z
      rw [e] at h
      cases h
      obtain ⟨e1, e2⟩ := rcut_is e
      exact ⟨by rw [e1]; rfl, e2⟩
    | none =>
      rw [e] at h
      by_cases hx : x = c
      · have h' : some (([] : List Nat), r) = some (p, q) := by rw [← h]; simp [hx]
        cases h'
        refine ⟨by rw [hx]; rfl, fun z => ?_⟩
        obtain ⟨a, b, eab⟩ := List.append_of_mem z
        -- the last c of r
        have key : ∀ l : List Nat, c ∈ l → rcut c l ≠ none := by
          intro l
          induction l with
          | nil => intro z; cases z
          | cons y l ih =>
            intro z w
            unfold rcut at w
            cases e2 : rcut c l with
            | some k => rw [e2] at w; cases w
            | none =>
              rw [e2] at w
              rcases List.mem_cons.mp z with rfl | z
              · simp at w
              · exact ih z e2
        exact key r z e
      · simp [hx] at h
theorem rpartition_S (a : List Nat) (c : Nat) : Txt.rpartition (SX.S a) (SX.S [c]) = match rcut c a with
    | some (p, q) => (SX.S p, SX.S [c], SX.S q)
    | none => (SX.S [], SX.S [], SX.S a) := by
  have hy : tl (SX.S [c]) ≠ [] := by simp
  have pr : ∀ i, pre (tl (SX.S [c])) ((tl (SX.S a)).drop i) = true ↔ a[i]? = some c := fun i => by
    show ((a.drop i).take 1 == [c]) = true ↔ _
    rw [beq_iff_eq]
    by_cases hi : i < a.length
    · have e1 : a.drop i = a[i] :: a.drop (i + 1) := List.drop_eq_getElem_cons hi
      rw [e1, List.getElem?_eq_getElem hi, List.take_succ_cons, List.take_zero]
      constructor
      · intro z
        injection z with z1
        rw [z1]
      · intro z
        injection z with z1
        rw [z1]
    · rw [List.drop_eq_nil_of_le (by omega), List.getElem?_eq_none (by omega)]
      simp
  unfold Txt.rpartition
  rcases StrLaws.last_spec (SX.S a) (SX.S [c]) with ⟨e, h⟩ | ⟨i, e, h, k⟩
  · rw [e]
    have hn : c ∉ a := fun z => by
      obtain ⟨i, hi, hc⟩ := List.getElem_of_mem z
      exact h i ((at_iff hy i).mpr ((pr i).mpr (by rw [List.getElem?_eq_getElem hi, hc])))
    rw [rcut_none hn]
    rfl
  · rw [e]
    have hi := (pr i).mp ((at_iff hy i).mp h)
    obtain ⟨lt, hc⟩ := List.getElem?_eq_some_iff.mp hi
    have hq : c ∉ a.drop (i + 1) := fun z => by
      obtain ⟨j, hj, hcj⟩ := List.getElem_of_mem z
      rw [List.length_drop] at hj
      refine k (i + 1 + j) (by omega) ((at_iff hy _).mpr ((pr _).mpr ?_))
      rw [List.getElem_drop] at hcj
      rw [List.getElem?_eq_getElem (by omega), hcj]
    have ea : a = a.take i ++ c :: a.drop (i + 1) := by
      rw [← hc, List.getElem_cons_drop, List.take_append_drop]
    have er : rcut c a = some (a.take i, a.drop (i + 1)) := by
      conv => lhs; rw [ea]
      exact rcut_some _ hq
    rw [er]
    show (Builtin.Str.strSub (SX.S a) 0 i, SX.S [c], Builtin.Str.strSub (SX.S a) (i + (SX.S [c]).length) (SX.S a).length) = (SX.S (a.take i), SX.S [c], SX.S (a.drop (i + 1)))
    have e1 : Builtin.Str.strSub (SX.S a) 0 i = SX.S (a.take i) := ext_tl (by rw [tl_strSub]; simp)
    have e2 : Builtin.Str.strSub (SX.S a) (i + (SX.S [c]).length) (SX.S a).length = SX.S (a.drop (i + 1)) := ext_tl (by rw [tl_strSub_end]; simp [SX.S_len])
    rw [e1, e2]
theorem pre1 (c x : Nat) (r : List Nat) : pre [c] (x :: r) = decide (x = c) := by
  show ([x] == [c]) = decide (x = c)
  by_cases h : x = c
  · rw [h, decide_eq_true rfl]
    simp
  · rw [decide_eq_false h]
    simpa using h
theorem par_is {c : Nat} : ∀ {l acc p q : List Nat}, par [c] acc l = some (p, q) → ∃ p', p = acc ++ p' ∧ l = p' ++ c :: q ∧ c ∉ p'
  | [], _, _, _, h => by cases h
  | x :: r, acc, p, q, h => by
    by_cases hx : x = c
    · have e : pre [c] (x :: r) = true := by rw [pre1, decide_eq_true hx]
      rw [par_hit e] at h
      cases h
      exact ⟨[], by simp, by rw [hx]; rfl, by simp⟩
    · have e : pre [c] (x :: r) = false := by rw [pre1, decide_eq_false hx]
      rw [par_miss e] at h
      obtain ⟨p', e1, e2, e3⟩ := par_is h
      refine ⟨x :: p', by rw [e1]; simp, by rw [e2]; rfl, fun z => ?_⟩
      rcases List.mem_cons.mp z with z | z
      · exact hx z.symm
      · exact e3 z
def two (m : Nat) : List Nat := [48 + m / 10, 48 + m % 10]
def clk (m : Nat) : List Nat := numL (m % 1440 / 60) ++ 58 :: two (m % 60)
def shw (m : Nat) : List Nat := if m / 1440 = 0 then clk m else numL (m / 1440) ++ 32 :: clk m
def dayOf (l : List Nat) : Option Nat := match num? l with
  | some 0 => none
  | o => o
def clkOf (l : List Nat) : Option Nat := match par [58] [] l with
  | none => none
  | some (h, m) => if decide (m.length = 2) && figs m then (match num? h with
    | some k => if k < 24 ∧ val m < 60 then some (k * 60 + val m) else none
    | none => none) else none
def momOf (l : List Nat) : Option Nat := match rcut 32 l with
  | none => clkOf l
  | some (h, t) => match dayOf h with
    | none => none
    | some d => (clkOf t).map fun m => d * 1440 + m
theorem two_val {m : Nat} (h : m < 60) : figs (two m) = true ∧ val (two m) = m := by
  have all : ∀ m, m < 60 → (figs (two m) && decide (val (two m) = m)) = true := by decide +kernel
  have z := all m h
  rw [Bool.and_eq_true, decide_eq_true_eq] at z
  exact z
theorem clkOf_clk (m : Nat) : clkOf (clk m) = some (m % 1440) := by
  unfold clkOf clk
  have e := SX.par_head (c := 58) (sep := []) (two (m % 60)) (p := numL (m % 1440 / 60)) (numL_free (.inr (by decide)))
  rw [show numL (m % 1440 / 60) ++ 58 :: two (m % 60) = numL (m % 1440 / 60) ++ ([58] ++ two (m % 60)) from rfl]
  rw [show par [58] [] (numL (m % 1440 / 60) ++ ([58] ++ two (m % 60))) = some (numL (m % 1440 / 60), two (m % 60)) from e]
  obtain ⟨h1, h2⟩ := two_val (show m % 60 < 60 by omega)
  show (if decide ((two (m % 60)).length = 2) && figs (two (m % 60)) then _ else none) = _
  rw [h1, num_num, h2]
  have : m % 1440 / 60 < 24 ∧ m % 60 < 60 := by omega
  simp only [this, and_self, if_true, two]
  simp
  omega
theorem clk_free (m : Nat) : 32 ∉ clk m := by
  unfold clk
  intro z
  rcases List.mem_append.mp z with z | z
  · exact numL_free (.inl (by decide)) z
  · simp only [two, List.mem_cons, List.not_mem_nil, or_false] at z
    omega
theorem momOf_shw (m : Nat) : momOf (shw m) = some m := by
  unfold momOf shw
  by_cases h : m / 1440 = 0
  · rw [if_pos h, rcut_none (clk_free m), clkOf_clk]
    simp
    omega
  · rw [if_neg h, rcut_some _ (clk_free m)]
    have e : dayOf (numL (m / 1440)) = some (m / 1440) := by
      unfold dayOf
      rw [num_num]
      cases k : m / 1440 with
      | zero => exact absurd k h
      | succ j => rfl
    simp only [e, clkOf_clk]
    simp
    omega
theorem shw_len {m k : Nat} (hk : 0 < k) (h : m < 10 ^ k) : (shw m).length ≤ k + 8 := by
  have h1 : (numL (m % 1440 / 60)).length ≤ 2 := numL_len (by decide) (by omega)
  have h2 : (numL (m / 1440)).length ≤ k := numL_len hk (Nat.lt_of_le_of_lt (Nat.div_le_self _ _) h)
  unfold shw clk two
  split <;> simp <;> omega
end Mo
namespace Mo
open PySem TL L2
theorem cut_to (l : List Nat) (k : Nat) : cutS (SX.S l) none (some (k : Int)) = SX.S (l.take k) := by
  unfold cutS
  rw [HT.sIx_nat, HT.sIx_none]
  refine ext_tl ?_
  show (l.drop 0).take (min k (SX.S l).length - 0) = l.take k
  rw [SX.S_len, List.drop_zero, Nat.sub_zero, List.take_eq_take_iff]
  omega
theorem cut_from (l : List Nat) (k : Nat) : cutS (SX.S l) (some (k : Int)) none = SX.S (l.drop k) := by
  unfold cutS
  rw [HT.sIx_nat, HT.sIx_none]
  refine ext_tl ?_
  show (l.drop (min k (SX.S l).length)).take ((SX.S l).length - min k (SX.S l).length) = l.drop k
  rw [SX.S_len]
  by_cases h : k ≤ l.length
  · rw [Nat.min_eq_left h]
    exact List.take_of_length_le (by rw [List.length_drop]; omega)
  · rw [Nat.min_eq_right (by omega), List.drop_eq_nil_of_le (Nat.le_refl _), List.drop_eq_nil_of_le (by omega)]
    simp
theorem cut_mid (l : List Nat) (i j : Nat) : cutS (SX.S l) (some (i : Int)) (some (j : Int)) = SX.S ((l.drop i).take (j - i)) := by
  unfold cutS
  rw [HT.sIx_nat, HT.sIx_nat]
  refine ext_tl ?_
  show (l.drop (min i (SX.S l).length)).take (min j (SX.S l).length - min i (SX.S l).length) = (l.drop i).take (j - i)
  rw [SX.S_len]
  by_cases h : i ≤ l.length
  · rw [Nat.min_eq_left h, List.take_eq_take_iff, List.length_drop]
    omega
  · rw [Nat.min_eq_right (by omega : l.length ≤ i), List.drop_eq_nil_of_le (Nat.le_refl _), List.drop_eq_nil_of_le (by omega : l.length ≤ i)]
    simp
end Mo
namespace Mo
open PySem TL L2
theorem first_of {c : Nat} : ∀ {l : List Nat}, c ∈ l → ∃ p q, l = p ++ c :: q ∧ c ∉ p
  | x :: r, h => by
    by_cases hx : x = c
    · exact ⟨[], r, by rw [hx]; rfl, by simp⟩
    · rcases List.mem_cons.mp h with h | h
      · exact absurd h.symm hx
      · obtain ⟨p, q, e, n⟩ := first_of h
        refine ⟨x :: p, q, by rw [e]; rfl, fun z => ?_⟩
        rcases List.mem_cons.mp z with z | z
        · exact hx z.symm
        · exact n z
theorem spl_cut {c : Nat} {p : List Nat} (q : List Nat) (h : c ∉ p) : spl [c] 0 [] (p ++ c :: q) = p :: spl [c] 0 [] q := by
  have e := spl_part1 (s := c) (S := []) (rest := q) (acc := []) h
  simpa using e
theorem spl_one {c : Nat} {p : List Nat} (h : c ∉ p) : spl [c] 0 [] p = [p] := by
  have e := spl_last1 (s := c) (S := []) (acc := []) h
  simpa using e
theorem spl_le (c : Nat) : ∀ (n : Nat) (l : List Nat), l.length ≤ n → (∀ p ∈ spl [c] 0 [] l, p.length ≤ l.length) ∧ (spl [c] 0 [] l).length ≤ l.length + 1
  | n, l, hn => by
    by_cases h : c ∈ l
    · obtain ⟨p, q, rfl, np⟩ := first_of h
      cases n with
      | zero => simp at hn
      | succ m =>
        have ih := spl_le c m q (by simp at hn; omega)
        rw [spl_cut q np]
        refine ⟨fun x hx => ?_, ?_⟩
        · rcases List.mem_cons.mp hx with rfl | hx
          · simp
          · have := ih.1 x hx
            simp
            omega
        · have := ih.2
          simp
          omega
    · rw [spl_one h]
      simp
end Mo
set_option Elab.async false
set_option linter.all false
set_option maxRecDepth 100000
set_option maxHeartbeats 4000000
namespace L3
open PySem PySem.Spec PyProof.Rows L2
def excCB (x : Str) : Fx := fun K => He.eqO (PySem.W.findIn K (.ref (He.ga K x)) "__getattribute__") (some (some (.builtin "BaseException.__getattribute__"))) && (He.eqO (PySem.W.findIn K (.ref (He.ga K x)) "__getattr__") (some none) && (decide (PySem.W.subIn K (.ref (He.ga K x)) (.type "BaseException") = some true) && (PySem.W.hasDictIn K (He.ga K x) &&
  (He.eqO (PySem.W.findIn K (.ref (He.ga K x)) "__class__") (some (some (.builtin "object.__class__"))) && (He.eqO (PySem.W.specialIn K (.builtin "object.__class__") "__get__") (some (some (.builtin "getset_descriptor.__get__"))) && (decide (PySem.W.takesIn K (.builtin "object.__class__") = some true) && decide (PySem.W.mroIn K (He.ga K x) (.type "object") = some true)))))))
theorem excC_of {x : Str} {K : PySem.W.Frag} (h : excCB x K = true) : ExcC K (He.ga K x) := by
  obtain ⟨h1, h⟩ := He.ba h
  obtain ⟨h2, h⟩ := He.ba h
  obtain ⟨h3, h⟩ := He.ba h
  obtain ⟨h4, h⟩ := He.ba h
  obtain ⟨h5, h⟩ := He.ba h
  obtain ⟨h6, h⟩ := He.ba h
  obtain ⟨h7, h8⟩ := He.ba h
  exact ⟨He.eqO_ok h1, He.eqO_ok h2, of_decide_eq_true h3, h4, He.eqO_ok h5, He.eqO_ok h6, of_decide_eq_true h7, of_decide_eq_true h8⟩
def kitF (x y : Str) (b : Bool) : Fx := fun K => decide (PySem.W.kitOne K (.ref (He.ga K x)) (.ref (He.ga K y)) = some b)
def kitFT (x : Str) (y : String) (b : Bool) : Fx := fun K => decide (PySem.W.kitOne K (.ref (He.ga K x)) (.type y) = some b)
end L3
set_option Elab.async false
set_option linter.all false
set_option maxRecDepth 100000
set_option maxHeartbeats 4000000
namespace L3
open PySem PySem.Spec PyProof.Rows L2
def keyD : Key → PyData
  | .inl i => .int i
  | .inr x => .str x
def zipK : List (Key × V) → List PyData → List (PyData × PyData)
  | (k, _) :: r, d :: ds => (keyD k, d) :: zipK r ds
  | _, _ => []
inductive Dq (K : PySem.W.Frag) (H : Hp) : V → PyData → Prop
  | non : Dq K H .non .none
  | bl (b : Bool) : Dq K H (.bl b) (.bool b)
  | int (i : Int) : Dq K H (.int i) (.int i)
  | str (x : Str) : Dq K H (.str x) (.str x)
  | lst {a : Addr} {xs : List V} {ds : List PyData} : SqL K H a xs → xs.length = ds.length → (∀ (i : Nat) (x : V) (d : PyData), xs[i]? = some x → ds[i]? = some d → Dq K H x d) → Dq K H (.ref a) (.list ds)
  | tup {a : Addr} {xs : List V} {ds : List PyData} : SqT K H a xs → xs.length = ds.length → (∀ (i : Nat) (x : V) (d : PyData), xs[i]? = some x → ds[i]? = some d → Dq K H x d) → Dq K H (.ref a) (.tuple ds)
  | dct {a : Addr} {kvs : List (Key × V)} {ds : List PyData} : H a = some (.dK kvs) → kvs.length = ds.length → (∀ (i : Nat) (k : Key) (x : V) (d : PyData), kvs[i]? = some (k, x) → ds[i]? = some d → Dq K H x d) → Dq K H (.ref a) (.dict (zipK kvs ds))
theorem Dq.mono {K : PySem.W.Frag} {H H' : Hp} {x : V} {d : PyData} (e : Ex H H') (h : Dq K H x d) : Dq K H' x d := by
  induction h with
  | non => exact .non
  | bl b => exact .bl b
  | int i => exact .int i
  | str x => exact .str x
  | lst s l _ ih => exact .lst (ex_sql e s) l ih
  | tup s l _ ih => exact .tup (ex_sqt e s) l ih
  | dct s l _ ih => exact .dct (e _ _ s) l ih
/-- the part that is written holds sys.modules: a dict -/
def SysK (K : PySem.W.Frag) : Prop := ∃ o, K.lookup sysModules = some o ∧ o.cls = .type "dict"
def sysB : Fx := fun K => match K.lookup sysModules with
  | some o => match o.cls with
    | .type n => n == "dict"
    | _ => false
  | none => false
theorem sys_of {K : PySem.W.Frag} (h : sysB K = true) : SysK K := by
  unfold sysB at h
  split at h
  · rename_i o e
    split at h
    · rename_i n c
      have : n = "dict" := by simpa using h
      exact ⟨o, e, by rw [c, this]⟩
    · cases h
  · cases h
end L3
set_option Elab.async false
set_option linter.all false
set_option maxRecDepth 100000
set_option maxHeartbeats 4000000
namespace L3
open PySem PySem.Spec PyProof.Rows L2
theorem Rm.in1 {k : Nat} {A : Around} (r : Rm (k + 1) A) : Rm k A.in1 := ⟨r.rm.in1, r.gd⟩
section
variable {X : Cx} {k : Nat} {f C : Addr} {ks : List Str} {sp : Sp} {W : WX} {x m : Str} {p pos apos : Pos} {e o : Expr} {es : List Expr} {kws : List Keyword} {ta : TE} {t tk : TA}
/-- a def that runs somewhere below the body -/
theorem run_fcA {A : Around} {pins : List (Addr × Obj)} {σ : L2.St} {H : Hp} {s : Shared} {Q : VK} {us ws : List Value} {vs : List V} (F : Fc X.prog X.w X.K X.mg X.base k f ks sp) (hr : Rm k A) (hf : A.frames = X.A.frames) (hx : Takes X W)
    (I : Inv X pins σ H s) (r : Vals vs (us ++ ws)) (hl : ws.length = ks.length) (h : sp vs H Q (WE W σ)) : wpAny (model X.prog X.w) A (call (.ref f) us (ks.zip ws)) (EP X pins σ Q) X.xe s := by
  have e0 : Env0 X.prog X.w X.K X.mg X.base A X.stack s H := by
    have e := I.env0
    exact ⟨by rw [hf]; exact e.frames, e.mod, e.bs, e.bsz, e.funs, e.frf, e.hok, e.bare⟩
  refine wpAny_call (codeAny_mono (F A X.stack s H us ws vs Q (WE W σ) hr e0 r hl h) fun r s' hq => ?_)
  cases r with
  | error e => exact passAt hx σ pins H s e s' I hq
  | ok fl =>
    cases fl with
    | ret u => exact I.after hq
    | next => exact False.elim hq
    | brk => exact False.elim hq
    | cont => exact False.elim hq
/-- o.m(e, ..) of an instance of the class at C -/
def tMt (C : Addr) (m : Str) (sp : Sp) (W : WX) (ta : TE) (t : TA) : TE := fun σ H Q => ta σ H fun x H1 => ∃ a dx fs, x = .ref a ∧ H1 a = some (.ins C dx fs) ∧ fs.lookup m = none ∧ t σ H1 fun vs H2 => sp (x :: vs) H2 Q (WE W σ)
theorem c_meth0 {pl : Sem Bool} (he : PE X o ta) (c : Cls X.K C) (hm : Meth X.K C m f) (F : Fc X.prog X.w X.K X.mg X.base k f [] sp) (hr : Rm k X.A) (hx : Takes X W)
    (ht : eval (.Call (.Attribute o m apos) [] [] pos) X.env = (do
      let ov ← eval o X.env
      standAt apos.atName
      let (f, first) ← holding [ov] (getMethod ov m pl)
      callWith pos f first (backTo pos (starEach [] X.env)) (backToKw pos (keywordEach [] X.env))) := by rfl) :
    PE X (.Call (.Attribute o m apos) [] [] pos) (tMt C m sp W ta tNil) := by
  refine ⟨fun pins s σ H Q I h => ?_⟩
  refine PySem.W.methodCall_KW (pl := pl) (thn (he.run pins s σ H _ I h) fun u s1 ⟨x, H1, I1, rx, a, dx, fs, ex, ea, l, q⟩ => ?_) ht
  subst ex
  obtain rfl : u = Value.ref a := rx
  refine getmeth_ok I1 ea c hm l ?_
  exact PySem.W.callWith_K0 (first := [.ref a]) I1.kIn hm.kp (run_fc (us := [.ref a]) (ws := []) (vs := [.ref a]) F hr hx I1 (.cons rfl .nil) rfl q)
theorem run_mk {pins : List (Addr × Obj)} {σ : L2.St} {H : Hp} {s : Shared} {Q : VK} {us ws : List Value} {vs : List V} (M : Mk X.K C f) (F : Fc X.prog X.w X.K X.mg X.base k f ks sp) (hr : Rm (k + 1) X.A) (hx : Takes X W)
    (I : Inv X pins σ H s) (r : Vals vs (us ++ ws)) (hl : ws.length = ks.length)
    (h : ∀ x dx, H x = none → H dx = none → dx ≠ x → sp (.ref x :: vs) (upd (upd H dx (.own x)) x (.ins C dx [])) (fun v H2 => v = .non ∧ Q (.ref x) H2) (WE W σ)) :
    wpAny (model X.prog X.w) X.A (call (.ref C) us (ks.zip ws)) (EP X pins σ Q) X.xe s := by
  have hq := h (s.heap.objs.size + 1) s.heap.objs.size (I.hok.fresh (Nat.le_succ _)) (I.hok.fresh (Nat.le_refl _)) (Nat.ne_of_lt (Nat.lt_succ_self _))
  have I2 := Inv.made (C := C) I
  refine wpAny_call (make_map (f := f) I.kIn M.makes M.init (beq_iff_eq.mp M.fn) (codeAny_mono (F _ X.stack _ _ (Value.ref (s.heap.objs.size + 1) :: us) ws (V.ref (s.heap.objs.size + 1) :: vs) _ (WE W σ) (hr.make C us (ks.zip ws))
    (I2.env0.make C us (ks.zip ws)) (.cons rfl r) hl hq) fun r s' hq' => ?_))
  cases r with
  | error e => exact passAt hx σ pins _ _ e s' I2 hq'
  | ok fl =>
    cases fl with
    | ret u =>
      obtain ⟨v, H', I3, rv, ev, q3⟩ := I2.after hq'
      subst ev
      exact ⟨rv, ⟨V.ref (s.heap.objs.size + 1), H', I3, rfl, q3⟩⟩
    | next => exact False.elim hq'
    | brk => exact False.elim hq'
    | cont => exact False.elim hq'
def tMk (C : Addr) (sp : Sp) (W : WX) (t : TA) : TE := fun σ H Q => t σ H fun vs H1 => ∀ x dx, H1 x = none → H1 dx = none → dx ≠ x →
  sp (.ref x :: vs) (upd (upd H1 dx (.own x)) x (.ins C dx [])) (fun v H2 => v = .non ∧ Q (.ref x) H2) (WE W σ)
theorem c_make (M : Mk X.K C f) (F : Fc X.prog X.w X.K X.mg X.base k f [] sp) (hr : Rm (k + 1) X.A) (hm : X.mg x = some (.ref C)) (hx : Takes X W)
    (ha : PA X (e :: es) t) (hg : Gl X x := by rfl) (hdb : (x == ("__debug__" : Str)) = false := by decide) (he : starEach (e :: es) X.env = (false, eval e X.env) :: starEach es X.env := by rfl) (hpl : (backTo pos (starEach es X.env)).any (·.1) = false := by rfl) :
    PE X (.Call (.Name x p) (e :: es) [] pos) (tMk C sp W t) := by
  refine ⟨fun pins s σ H Q I h => ?_⟩
  refine wpAny_Call_Name_kw (ld_glob I hg hm ?_ hdb)
  refine PySem.W.callWith_K (h₀ := X.base) I.ok.mod.kin M.kp (thn (ha.run pos pins s σ H _ I h) fun us s1 ⟨vs, H1, I1, r, q⟩ => ⟨I1.kIn, ?_⟩) he hpl
  exact run_mk (ws := []) M F hr hx I1 (by rw [List.append_nil]; exact r) rfl q
def tMkK0 (C : Addr) (ks : List Str) (sp : Sp) (W : WX) (tk : TA) : TE := fun σ H Q => tk σ H fun zs H2 => zs.length = ks.length ∧ ∀ x dx, H2 x = none → H2 dx = none → dx ≠ x →
  sp (.ref x :: zs) (upd (upd H2 dx (.own x)) x (.ins C dx [])) (fun v H3 => v = .non ∧ Q (.ref x) H3) (WE W σ)
theorem c_makeK0 (M : Mk X.K C f) (F : Fc X.prog X.w X.K X.mg X.base k f ks sp) (hr : Rm (k + 1) X.A) (hm : X.mg x = some (.ref C)) (hx : Takes X W)
    (hkw : PK X kws tk) (hg : Gl X x := by rfl) (hall : (backToKw pos (keywordEach kws X.env)).all (·.1.isSome) = true := by rfl) (hks : (backToKw pos (keywordEach kws X.env)).filterMap (·.1) = ks := by rfl)
    (hdb : (x == ("__debug__" : Str)) = false := by decide)
    (hpl : ((backTo pos (starEach [] X.env)).any (·.1) || (backToKw pos (keywordEach kws X.env)).any (·.1.isNone)) = false := by rfl) :
    PE X (.Call (.Name x p) [] kws pos) (tMkK0 C ks sp W tk) := by
  refine ⟨fun pins s σ H Q I h => ?_⟩
  refine wpAny_Call_Name_kw (ld_glob I hg hm ?_ hdb)
  refine PySem.W.callWith_KW0 (h₀ := X.base) I.ok.mod.kin M.kp hall ?_ hpl
  refine thn (hkw.run pos pins s σ H _ I h) fun ws s2 ⟨zs, H2, I2, rz, l2, q2⟩ => ⟨I2.kIn, ?_⟩
  rw [hks]
  exact run_mk (us := []) M F hr hx I2 rz (rz.length.symm.trans l2) q2
/-- xs is one instance of C; the promise of its method, at it -/
def rOwn (C : Addr) (sp : Sp) (G : V → Prop) : List V → Hp → VK → Prop := fun xs H Q => ∃ a dx fs, xs = [.ref a] ∧ H a = some (.ins C dx fs) ∧ sp [.ref a] H (fun v H' => G v ∧ Q v H') (fun _ _ _ => False)
def isLen : V → Prop
  | .int n => 0 ≤ n ∧ n < 2 ^ 63
  | _ => False
def isTxt : V → Prop
  | .str _ => True
  | _ => False
end
section
variable {X : Cx} {k : Nat} {f C : Addr} {sp : Sp}
theorem call_lenO (hm : Meth X.K C "__len__" f) (F : Fc X.prog X.w X.K X.mg X.base k f [] sp) (hr : Rm (k + 1) X.A) :
    CallR X (.builtin "len") (rOwn C sp isLen) := by
  intro pins s σ H xs us Q I r h
  obtain ⟨a, dx, fs, rfl, ha, hsp⟩ := h
  obtain ⟨u, rfl, ru⟩ := vals1 r
  obtain rfl : u = Value.ref a := ru
  obtain ⟨mA, J, _⟩ := ins_get I.hok ha
  obtain ⟨od, J, _⟩ := J.look
  refine Calls.call_function_entry kind_len plain_len entry_len (args_len1 _) ?_
  unfold Builtin.«len»
  refine wpAny_bind (m := oneArg "len" _) (wpAny_pure ?_)
  have run := run_fcA (A := X.A.in1) (W := fun _ _ _ _ => False) (us := [.ref a]) (ws := []) (vs := [.ref a]) (σ := σ) F hr.in1 rfl takes0 I (.cons rfl .nil) rfl hsp
  refine wpAny_bind (m := callSpecial? (.ref a) (Str.ofString "__len__")) (PySem.W.special_fn I.kIn J hm.at_ (beq_iff_eq.mp hm.fn) (wpAny_mono run (fun v s' hv => ?_) fun _ _ y => y))
  obtain ⟨z, H', I', rz, gz, q⟩ := hv
  cases z with
  | int n =>
    obtain ⟨t, rfl⟩ := rz
    obtain ⟨h0, h1⟩ : 0 ≤ n ∧ n < 2 ^ 63 := gz
    refine wpAny_bind (wpAny_holding (wpAny_pure ?_))
    refine wpAny_bind (wpAny_letGo ?_)
    show wpAny _ _ (if n < 0 then _ else _) _ _ _
    rw [if_neg (by omega)]
    show wpAny _ _ (if n ≥ 2 ^ 63 then _ else _) _ _ _
    rw [if_neg (by omega)]
    exact wpAny_bind (wpAny_mkInt (wpAny_pure ⟨_, rfl, ⟨.int n, H', I'.tok _, ⟨_, rfl⟩, q⟩⟩))
  | _ => exact gz.elim
theorem call_strO (hm : Meth X.K C "__str__" f) (F : Fc X.prog X.w X.K X.mg X.base k f [] sp) (hr : Rm (k + 2) X.A) :
    CallR X (.type "str") (rOwn C sp isTxt) := by
  intro pins s σ H xs us Q I r h
  obtain ⟨a, dx, fs, rfl, ha, hsp⟩ := h
  obtain ⟨u, rfl, ru⟩ := vals1 r
  obtain rfl : u = Value.ref a := ru
  obtain ⟨mA, J, _⟩ := ins_get I.hok ha
  obtain ⟨od, J, _⟩ := J.look
  have run := run_fcA (A := X.A.in1.in1) (W := fun _ _ _ _ => False) (us := [.ref a]) (ws := []) (vs := [.ref a]) (σ := σ) F hr.in1.in1 rfl takes0 I (.cons rfl .nil) rfl hsp
  refine PySem.W.kso_call (by have := hr.in1.in1.rm.un; omega) I.kIn J hm.at_ hm.fn (wpAny_mono run (fun v s' hv => ?_) fun _ _ y => y)
  obtain ⟨z, H', I', rz, gz, q⟩ := hv
  cases z with
  | str y =>
    obtain ⟨t, rfl⟩ := rz
    exact ⟨.str y, H', I', ⟨t, rfl⟩, q⟩
  | _ => exact gz.elim
end
structure InsC (K : PySem.W.Frag) (C : Addr) : Prop where
  ha : PySem.W.findIn K (.ref C) "__class__" = some (some (.builtin "object.__class__"))
  hn : PySem.W.specialIn K (.builtin "object.__class__") "__get__" = some (some (.builtin "getset_descriptor.__get__"))
  ht : PySem.W.takesIn K (.builtin "object.__class__") = some true
  hm : PySem.W.mroIn K C (.type "object") = some true
def insB (x : Str) : Fx := fun K => He.eqO (PySem.W.findIn K (.ref (He.ga K x)) "__class__") (some (some (.builtin "object.__class__"))) && (He.eqO (PySem.W.specialIn K (.builtin "object.__class__") "__get__") (some (some (.builtin "getset_descriptor.__get__"))) &&
  (decide (PySem.W.takesIn K (.builtin "object.__class__") = some true) && decide (PySem.W.mroIn K (He.ga K x) (.type "object") = some true)))
theorem insC_of {x : Str} {K : PySem.W.Frag} (h : insB x K = true) : InsC K (He.ga K x) := by
  obtain ⟨h1, h⟩ := He.ba h
  obtain ⟨h2, h⟩ := He.ba h
  obtain ⟨h3, h4⟩ := He.ba h
  exact ⟨He.eqO_ok h1, He.eqO_ok h2, of_decide_eq_true h3, of_decide_eq_true h4⟩
theorem ty_ins {K : PySem.W.Frag} {H : Hp} {a C dx : Addr} {fs : List (Str × V)} (i : InsC K C) (c : Cls K C) (e : H a = some (.ins C dx fs)) : TyX K H (.ref a) (.ref C) := .base (.ins e c i.ha i.hn i.ht i.hm)
def kitBF (y : String) (x : Str) (b : Bool) : Fx := fun K => decide (PySem.W.kitOne K (.type y) (.ref (He.ga K x)) = some b)
def exm1F (x y : Str) (b : Bool) : Fx := fun K => decide (PySem.W.exmOne K (.ref (He.ga K x)) (.ref (He.ga K y)) = some b)
section
variable {X : Cx} {K : PySem.W.Frag}
theorem ix_tupK (K : PySem.W.Frag) (h : X.K = K := by rfl) : IxR X (rIxT K) := h ▸ ix_tup
theorem pe_fldK (K : PySem.W.Frag) {e : Expr} {f : Str} {pos : Pos} {ta : TE} (he : PE X e ta) (hb : attributeBase e f X.env (eval e X.env) = eval e X.env) (h : X.K = K := by rfl) : PE X (.Attribute e f pos) (tFld K ta f) := h ▸ pe_fld he hb
end
end L3
set_option Elab.async false
set_option linter.all false
set_option maxRecDepth 100000
set_option maxHeartbeats 4000000
namespace L3
open PySem PySem.Spec PyProof.Rows L2
def okC (c : Nat) : Bool := decide (32 ≤ c) && (decide (c ≤ 126) && (decide (c ≠ 39) && decide (c ≠ 92)))
section
variable {J : It} {n : Nat} {G : Hp → Prop} {Y : Nat → Hp → V → Hp → Prop} {g : TG} {tt : TT} {te : TE} {vs : List Nat} {σ : L2.St} {H1 : Hp} {D : Addr} {Qd : Hp → Prop}
theorem lc_any (w : L2.Walk J n G Y) (I : Nat → List V → Hp → Prop) (hI : ∀ i acc H l, I i acc H → I i acc (upd H D (.lst l))) (i0 : I 0 [] H1) (hn : n ≤ 100000) (hl : ∀ i acc H, I i acc H → acc.length ≤ i) (hG : ∀ i acc H, I i acc H → G H)
    (hs : ∀ (i : Nat) (x : V) (H H' : Hp) (acc : List V) (N : Hp → Prop), i < n → I i acc H → H D = some (.lst acc) → acc.length < sizeLine → Y i H x H' →
      (∀ y H4, H4 D = some (.lst acc) → I (i + 1) (acc ++ [y]) H4 → N (upd H4 D (.lst (acc ++ [y])))) → (∀ H4, H4 D = some (.lst acc) → I (i + 1) acc H4 → N H4) → Turn g tt te vs σ D x H' N)
    (hd : ∀ acc H, I n acc H → H D = some (.lst acc) → Qd H) :
    ∃ W : Nat → Nat → Hp → Prop, (∃ m, W 0 m (upd H1 D (.lst []))) ∧ ∀ i m H, W i m H →
      (J.stop i H ∧ Qd H) ∨ (J.go i H ∧ ∃ Nx : Hp → Prop, (∀ H', Nx H' → ∃ m', m' < m ∧ W (i + 1) m' H') ∧ ∀ x H', J.yld i H x H' → Turn g tt te vs σ D x H' Nx) := by
  refine L2.lc_it w (fun i H => i ≤ n ∧ ∃ acc, I i acc H ∧ H D = some (.lst acc)) ⟨Nat.zero_le _, [], hI _ _ _ _ i0, upd_same⟩ (fun i H _ p => ?_) ?_ (fun H p => ?_)
  · obtain ⟨_, acc, p, _⟩ := p
    exact hG i acc H p
  · rintro i x H H' hi ⟨p1, acc, p2, p3⟩ y
    have := hl _ _ _ p2
    refine hs i x H H' acc _ hi p2 p3 (small_len (by omega)) y (fun y H4 d4 i4 => ⟨hi, _, hI _ _ _ _ i4, upd_same⟩) fun H4 d4 i4 => ⟨hi, _, i4, d4⟩
  · obtain ⟨_, acc, p, d⟩ := p
    exact hd acc H p d
end
end L3
set_option Elab.async false
set_option linter.all false
set_option maxRecDepth 100000
set_option maxHeartbeats 4000000
namespace L3
open PySem PySem.Spec PyProof.Rows L2
/-- the numbers in order -/
def srt (ns : List Int) : List Int := ns.mergeSort (fun a b => decide (a ≤ b))
section
variable {X : Cx} {K : PySem.W.Frag}
theorem pg_tupK (K : PySem.W.Frag) {es : List Expr} {k : Nat} {t : TGs} {n : Nat} {pos : Pos} (hc : X.calm = true) (h : PGs X es t)
    (hn : (assignEach es X.env).length = n := by rfl) (hst : (assignEach es X.env).findIdx? (·.1) = none := by rfl) (hK : X.K = K := by rfl) : PG X (.Tuple es k pos) (gTup K n t) := hK ▸ pg_tup hc h hn hst
theorem walk_zipT {a b : Addr} {xs ys : List V} {n : Nat} (hn : n = min xs.length ys.length) : L2.Walk (RZ.ItzT K a b) n (fun H => SqT K H a xs ∧ SqT K H b ys) (L2.YPair (fun i => xs[i]?) (fun i => ys[i]?)) := by
  subst hn
  refine ⟨fun i _ hi q => ?_, fun _ q => ⟨xs, ys, q.1, q.2, by omega⟩, fun i H v H' _ q y => ?_⟩
  · have h1 : i < xs.length := by omega
    have h2 : i < ys.length := by omega
    exact ⟨xs, ys, xs[i], ys[i], q.1, q.2, by simp [h1], by simp [h2]⟩
  · obtain ⟨T, x, z, h1, h2, h3, h4, h5⟩ := y
    exact ⟨T, x, z, h1, h2, h3, h4 xs q.1, h5 ys q.2⟩
end
end L3
set_option Elab.async false
set_option linter.all false
set_option maxRecDepth 100000
set_option maxHeartbeats 4000000
namespace L3
open PySem PySem.Spec PyProof.Rows L2
end L3
set_option Elab.async false
set_option linter.all false
set_option maxRecDepth 100000
set_option maxHeartbeats 4000000
namespace L3
open PySem PySem.Spec PyProof.Rows L2
end L3
set_option Elab.async false
set_option linter.all false
set_option maxRecDepth 100000
set_option maxHeartbeats 4000000
namespace L3
open PySem PySem.Spec PyProof.Rows L2
theorem range_fm {α β : Type} (g : α → Option β) : ∀ l : List α, (List.range l.length).filterMap (fun i => l[i]?.bind g) = l.filterMap g
  | [] => rfl
  | x :: l => by
    rw [List.length_cons, List.range_succ_eq_map, List.filterMap_cons, List.filterMap_map, List.filterMap_cons]
    have ih := range_fm g l
    have e : ((fun i => (x :: l)[i]?.bind g) ∘ Nat.succ) = fun i => l[i]?.bind g := funext fun i => by simp
    rw [e, ih]
    simp
section
variable {J : It} {G : Hp → Prop} {g : TG} {tt : TT} {te : TE} {vs : List Nat} {σ : L2.St} {H1 : Hp} {D : Addr} {Qd : Hp → Prop}
/-- a comprehension over xs (told as values by v), each of which gives gm x, or nothing -/
theorem lc_on {α : Type} (xs : List α) (v : α → V) (w : L2.Walk J (xs.map v).length G (L2.YAt (xs.map v))) (gm : α → Option V) (I : Hp → Prop) (hI : ∀ H l, I H → I (upd H D (.lst l))) (i0 : I H1) (hn : xs.length ≤ 100000) (hG : ∀ H, I H → G H)
    (hs : ∀ (i : Nat) (x : α) (H : Hp) (acc : List V) (N : Hp → Prop), xs[i]? = some x → I H → H D = some (.lst acc) → acc.length < sizeLine →
      (∀ H4, I H4 → H4 D = some (.lst acc) → match gm x with | some y => N (upd H4 D (.lst (acc ++ [y]))) | none => N H4) → Turn g tt te vs σ D (v x) H N)
    (hd : ∀ H, I H → H D = some (.lst (xs.filterMap gm)) → Qd H) :
    ∃ W : Nat → Nat → Hp → Prop, (∃ m, W 0 m (upd H1 D (.lst []))) ∧ ∀ i m H, W i m H →
      (J.stop i H ∧ Qd H) ∨ (J.go i H ∧ ∃ Nx : Hp → Prop, (∀ H', Nx H' → ∃ m', m' < m ∧ W (i + 1) m' H') ∧ ∀ x H', J.yld i H x H' → Turn g tt te vs σ D x H' Nx) := by
  refine lc_fm w (fun i => xs[i]?.bind gm) I hI i0 (by rw [List.length_map]; exact hn) hG (fun i x H H' acc N hi p hD la y k => ?_) fun H p hD => hd H p ?_
  · obtain ⟨rfl, hx⟩ := y
    rw [List.getElem?_map] at hx
    obtain ⟨z, hz, rfl⟩ := Option.map_eq_some_iff.mp hx
    refine hs i z _ acc N hz p hD la fun H4 p4 d4 => ?_
    have := k H4 p4 d4
    simp only [hz, Option.bind_some] at this
    exact this
  · rw [hD, List.length_map, range_fm]
end
section
variable {J : It} {G : Hp → Prop} {g : TG} {tb : TS} {D : Ends} {σ : L2.St} {H : Hp}
/-- a for over xs (told as values by v) -/
theorem for_on {α : Type} (xs : List α) (v : α → V) (w : L2.Walk J (xs.map v).length G (L2.YAt (xs.map v))) (Pv : Nat → L2.St → Hp → Prop) (h0 : Pv 0 σ H) (hG : ∀ i σ H, Pv i σ H → G H)
    (hs : ∀ (i : Nat) (x : α) (σ : L2.St) (H : Hp), xs[i]? = some x → Pv i σ H → g (v x) σ H fun σ2 H2 => tb { D with nx := Pv (i + 1), ct := Pv (i + 1), bk := D.nx } σ2 H2) (hd : ∀ σ H, Pv xs.length σ H → D.nx σ H) :
    ∃ W : Nat → Nat → L2.St → Hp → Prop, (∃ m, W 0 m σ H) ∧ ∀ i m σ H, W i m σ H →
      (J.stop i H ∧ D.nx σ H) ∨ (J.go i H ∧ ∃ N : L2.St → Hp → Prop, (∀ σ' H', N σ' H' → ∃ m', m' < m ∧ W (i + 1) m' σ' H') ∧ ∀ x H', J.yld i H x H' → g x σ H' fun σ2 H2 => tb { D with nx := N, ct := N, bk := D.nx } σ2 H2) := by
  refine L2.for_it w Pv h0 (fun i σ H _ p => hG i σ H p) (fun i x σ H H' hi p y => ?_) (fun σ H p => hd σ H (by rw [List.length_map] at p; exact p))
  obtain ⟨rfl, hx⟩ := y
  rw [List.getElem?_map] at hx
  obtain ⟨z, hz, rfl⟩ := Option.map_eq_some_iff.mp hx
  exact hs i z σ _ hz p
end
theorem take_snoc {α : Type} {l : List α} {i : Nat} {x : α} (h : l[i]? = some x) : l.take (i + 1) = l.take i ++ [x] := by
  rw [List.take_add_one, h]
  rfl
/-- what stands elsewhere than at f stays -/
def Oth (f : Addr) (H H' : Hp) : Prop := ∀ b o, b ≠ f → H b = some o → H' b = some o
theorem Oth.refl (f : Addr) (H : Hp) : Oth f H H := fun _ _ _ e => e
theorem Oth.trans {f : Addr} {H H1 H2 : Hp} (a : Oth f H H1) (b : Oth f H1 H2) : Oth f H H2 := fun c o h e => b c o h (a c o h e)
theorem ex_oth {f : Addr} {H H1 : Hp} (a : Ex H H1) : Oth f H H1 := fun c o _ e => a c o e
theorem Oth.upd {f : Addr} {H H1 : Hp} {o : HO} (a : Oth f H H1) : Oth f H (L2.upd H1 f o) := fun b u nb e => by rw [upd_ne nb]; exact a b u nb e
theorem Oth.ex {f : Addr} {H0 H H1 : Hp} (x : Ex H0 H) (n : H0 f = none) (a : Oth f H H1) : Ex H0 H1 := fun b o e => a b o (ne_of_none e n) (x b o e)
theorem sz_le {n : Nat} (h : n ≤ 100000) : n ≤ sizeLine := Nat.le_of_lt (small_len h)
end L3
set_option Elab.async false
set_option linter.all false
set_option maxRecDepth 100000
set_option maxHeartbeats 4000000
namespace L3
open PySem PySem.Spec PyProof.Rows L2
theorem slA_of {K : PySem.W.Frag} {H : Hp} {a : Addr} {xs : List V} {lo hi : Option Int} {Q : VK} (ha : SqT K H a xs) (q : ∀ p H', Ex H H' → SqT K H' p (cutV xs lo hi) → Q (.ref p) H') : rSlA K (.ref a) lo hi H Q := by
  refine ⟨a, xs, rfl, ha, fun hw => q a H (.refl _) ?_, fun _ p np => q p _ (ex_new np) (sq_tup upd_same)⟩
  have e : cutV xs lo hi = xs := by
    unfold cutV
    rw [hw.1, hw.2]
    simp
  rw [e]
  exact ha
theorem tyOf_mono {K : PySem.W.Frag} {H H' : Hp} {x : V} {t : Value} (e : Ex H H') (h : TyOf K H x t) : TyOf K H' x t := by
  cases h with
  | non => exact .non
  | bl x => exact .bl x
  | int i => exact .int i
  | str x => exact .str x
  | flt x => exact .flt x
  | lst h => exact .lst (e _ _ h)
  | frz h => exact .frz (e _ _ h)
  | tup h => exact .tup (e _ _ h)
  | dK h => exact .dK (e _ _ h)
  | dT h => exact .dT (e _ _ h)
  | ins h cl ha hn htk hm => exact .ins (e _ _ h) cl ha hn htk hm
theorem tyX_mono {K : PySem.W.Frag} {H H' : Hp} {x : V} {t : Value} (e : Ex H H') (h : TyX K H x t) : TyX K H' x t := by
  cases h with
  | base h => exact .base (tyOf_mono e h)
  | byt b => exact .byt b
  | set h => exact .set (e _ _ h)
  | kList h c => exact .kList h c
  | kTuple h c => exact .kTuple h c
  | kDict h c => exact .kDict h c
  | fTuple h => exact .fTuple (e _ _ h)
  | fDict h => exact .fDict (e _ _ h)
theorem Cl.mono {K : PySem.W.Frag} {H H' : Hp} {x : V} (c : Cl K H x) (e : Ex H H') : Cl K H' x := let ⟨t, b, d, h1, h2⟩ := c; ⟨t, b, d, tyX_mono e h1, h2⟩
section
variable {J : It} {n : Nat} {G : Hp → Prop} {g : TG} {tt : TT} {te : TE} {vs : List Nat} {σ : L2.St} {H1 : Hp} {D : Addr} {Qd : Hp → Prop}
/-- a comprehension over pairs of xs and ys -/
theorem lc_zip {α β : Type} (xs : List α) (ys : List β) (v : α → V) (w : β → V) (wk : L2.Walk J n G (L2.YPair (fun i => (xs.map v)[i]?) (fun i => (ys.map w)[i]?))) (hn : n = min xs.length ys.length) (gm : α → β → Option V) (I : Hp → Prop) (hI : ∀ H l, I H → I (upd H D (.lst l))) (i0 : I H1) (hz : xs.length ≤ 100000) (hG : ∀ H, I H → G H)
    (hs : ∀ (i : Nat) (a : α) (b : β) (u : Addr) (H : Hp) (acc : List V) (N : Hp → Prop), xs[i]? = some a → ys[i]? = some b → I H → H u = none → H D = some (.lst acc) → acc.length < sizeLine →
      (∀ H4, I H4 → H4 D = some (.lst acc) → match gm a b with | some y => N (upd H4 D (.lst (acc ++ [y]))) | none => N H4) → Turn g tt te vs σ D (.ref u) (upd H u (.tup [v a, w b])) N)
    (hd : ∀ H, I H → H D = some (.lst ((xs.zip ys).filterMap fun p => gm p.1 p.2)) → Qd H) :
    ∃ W : Nat → Nat → Hp → Prop, (∃ m, W 0 m (upd H1 D (.lst []))) ∧ ∀ i m H, W i m H →
      (J.stop i H ∧ Qd H) ∨ (J.go i H ∧ ∃ Nx : Hp → Prop, (∀ H', Nx H' → ∃ m', m' < m ∧ W (i + 1) m' H') ∧ ∀ x H', J.yld i H x H' → Turn g tt te vs σ D x H' Nx) := by
  refine lc_fm wk (fun i => (xs.zip ys)[i]?.bind fun p => gm p.1 p.2) I hI i0 (by omega) hG (fun i x H H' acc N hi p hD la y k => ?_) fun H p hD => hd H p ?_
  · obtain ⟨u, x1, x2, rfl, nu, rfl, g1, g2⟩ := y
    dsimp only at g1 g2
    rw [List.getElem?_map] at g1 g2
    obtain ⟨a, ha, rfl⟩ := Option.map_eq_some_iff.mp g1
    obtain ⟨b, hb, rfl⟩ := Option.map_eq_some_iff.mp g2
    refine hs i a b u H acc N ha hb p nu hD la fun H4 p4 d4 => ?_
    have := k H4 p4 d4
    have ez : (xs.zip ys)[i]? = some (a, b) := by
      rw [List.getElem?_zip_eq_some]
      exact ⟨ha, hb⟩
    simp only [ez, Option.bind_some] at this
    exact this
  · rw [hD, hn, ← List.length_zip, range_fm]
end
end L3
set_option Elab.async false
set_option linter.all false
set_option maxRecDepth 100000
set_option maxHeartbeats 4000000
namespace L3
open PySem PySem.Spec PyProof.Rows L2 PySem.SeqAt PySem.Calls
/-- a type, of which the class at C is no base, or which is that class -/
def NoSub (K : PySem.W.Frag) (C : Addr) (t : Value) : Prop := t = .ref C ∨ PySem.W.kitOne K t (.ref C) = some false
/-- the class at C is none of the types that decline -/
structure NoBase (K : PySem.W.Frag) (C : Addr) : Prop where
  non : PySem.W.mroIn K C (.type "NoneType") = some false
  bl : PySem.W.mroIn K C (.type "bool") = some false
  int : PySem.W.mroIn K C (.type "int") = some false
  str : PySem.W.mroIn K C (.type "str") = some false
  lst : PySem.W.mroIn K C (.type "list") = some false
  tup : PySem.W.mroIn K C (.type "tuple") = some false
  dct : PySem.W.mroIn K C (.type "dict") = some false
  ne : PySem.W.findIn K (.ref C) "__ne__" = some (some (.builtin "object.__ne__"))
  ob : PySem.W.mroIn K C (.type "object") = some true
def noBaseF (x : Str) : Fx := fun K => (["NoneType", "bool", "int", "str", "list", "tuple", "dict"].all fun T => decide (PySem.W.mroIn K (He.ga K x) (.type T) = some false)) &&
  (He.eqO (PySem.W.findIn K (.ref (He.ga K x)) "__ne__") (some (some (.builtin "object.__ne__"))) && decide (PySem.W.mroIn K (He.ga K x) (.type "object") = some true))
theorem noBase_of {x : Str} {K : PySem.W.Frag} (h : noBaseF x K = true) : NoBase K (He.ga K x) := by
  obtain ⟨h1, h⟩ := He.ba h
  obtain ⟨h2, h3⟩ := He.ba h
  have g : ∀ T ∈ ["NoneType", "bool", "int", "str", "list", "tuple", "dict"], PySem.W.mroIn K (He.ga K x) (.type T) = some false := fun T hT => of_decide_eq_true (List.all_eq_true.mp h1 T hT)
  exact ⟨g _ (by decide), g _ (by decide), g _ (by decide), g _ (by decide), g _ (by decide), g _ (by decide), g _ (by decide), He.eqO_ok h2, of_decide_eq_true h3⟩
theorem noSub_look {K : PySem.W.Frag} {C : Addr} {t : Value} (h : NoSub K C t) {M : Model} {hp : Heap} (X : K.In hp) (q : (Value.ref C != t) = true) : PySem.W.Looks M hp (isSubtype t (.ref C)) false := by
  rcases h with rfl | h
  · simp at q
  · unfold PySem.W.kitOne at h
    split at h
    · cases h
    · exact (PySem.W.kit_cls X h).2.2
section
variable {prog : Program} {w : World} {A : Around} {E : Value → Shared → Prop} {s : Shared} {K : PySem.W.Frag} {x C f : Addr} {ox : Obj} {od : Option Obj} {b tb : Value}
theorem try_own {Q : Value → Shared → Prop} {n : Str} (X : K.In s.heap) (I : PySem.W.InstAt s.heap x ox C od) (hm : Meth K C n f)
    (h : wpAny (model prog w) A (call (.ref f) [.ref x, b]) (PySem.W.CmpBack Q) E s) : wpAny (model prog w) A (tryCompare (.ref x) n b) (fun r s' => ∃ v, r = some v ∧ Q v s') E s := by
  unfold tryCompare
  refine wpAny_bind (PySem.W.ifBound_K X I hm.at_ hm.fn (wpAny_mono h (fun v s' hv => ?_) fun _ _ e => e))
  cases v <;> first | exact hv.elim | exact wpAny_pure ⟨_, rfl, hv⟩
theorem rc_ownL {Q : Value → Shared → Prop} (hu : A.units < cLine) (X : K.In s.heap) (I : PySem.W.InstAt s.heap x ox C od) (hb : PySem.W.Looks (model prog w) s.heap (typeOf b) tb) (hn : NoSub K C tb) (hm : Meth K C "__eq__" f)
    (h : wpAny (model prog w) A (call (.ref f) [.ref x, b]) (PySem.W.CmpBack Q) E s) : wpAny (model prog w) A (richCompare .Eq (.ref x) b) Q E s := by
  have one := try_own (b := b) X I hm h
  simp only [richCompare, cmpInfo_Eq, oneThing_ref]
  refine wpAny_holding (wpAny_bind (wpAny_cRoomFor hu ?_))
  refine wpAny_bind (I.type.here (wpAny_bind (hb.here ?_)))
  split
  · rename_i q
    refine wpAny_bind ((noSub_look hn X q).here ?_)
    simp only [Bool.false_eq_true, if_false]
    refine wpAny_bind (wpAny_mono one (fun r s' z => ?_) fun _ _ e => e)
    obtain ⟨v, rfl, hq⟩ := z
    exact wpAny_pure hq
  · refine wpAny_bind (wpAny_pure ?_)
    simp only [Bool.false_eq_true, if_false]
    refine wpAny_bind (wpAny_mono one (fun r s' z => ?_) fun _ _ e => e)
    obtain ⟨v, rfl, hq⟩ := z
    exact wpAny_pure hq
/-- a value that declines: then the right one's own == -/
theorem rc_ownR {Q : Value → Shared → Prop} {T : String} (hu : A.units < cLine) (X : K.In s.heap) (I : PySem.W.InstAt s.heap x ox C od) (hb : s.TypeIs b T) (ho : oneThing? .Eq b (.ref x) = none) (hn : PySem.W.mroIn K C (.type T) = some false) (hm : Meth K C "__eq__" f)
    (hd : ∀ Q' : Option Value → Shared → Prop, Q' none s → wpAny (model prog w) A (tryCompare b "__eq__" (.ref x)) Q' E s)
    (h : wpAny (model prog w) A (call (.ref f) [.ref x, b]) (PySem.W.CmpBack Q) E s) : wpAny (model prog w) A (richCompare .Eq b (.ref x)) Q E s := by
  have one := try_own (b := b) X I hm h
  simp only [richCompare, cmpInfo_Eq, ho]
  refine wpAny_holding (wpAny_bind (wpAny_cRoomFor hu ?_))
  refine wpAny_bind (wpAny_typeOf hb (wpAny_bind (I.type.here ?_)))
  split
  · refine wpAny_bind ((PySem.W.looks_mroIn X hn).here ?_)
    simp only [Bool.false_eq_true, if_false, Bool.not_false, if_true]
    refine wpAny_bind (m := tryCompare b _ (.ref x)) (hd _ ?_)
    refine wpAny_bind (m := tryCompare (.ref x) _ b) (wpAny_mono one (fun r s' z => ?_) fun _ _ e => e)
    obtain ⟨v, rfl, hq⟩ := z
    exact wpAny_pure hq
  · rename_i q
    exact absurd (by simp) q
end
section
variable {prog : Program} {w : World} {A : Around} {E : Value → Shared → Prop} {s : Shared} {K : PySem.W.Frag} {x C dx : Addr} {od : Option Obj}
theorem int_dec_ins (b : Int) (u : Tok) (l C dx : Addr) :
    Meets (Builtin.«int.__eq__» ⟨[.int b u, .ref l], []⟩) (fun _ R s => s.heap.get? l = some { cls := .ref C, dict := some dx, data := .plain } ∧ R (.ok (.ret .notImplemented)) s) :=
  .of_wp fun prog w A R s h => by obtain ⟨hp, g, d, tk, os⟩ := s; obtain ⟨hl, h⟩ := h; wp_walk using wpAny_loadPart' hl, wpAny_load hl; exact ⟨_, rfl, h⟩
theorem bool_dec_ins (b : Bool) (l C dx : Addr) :
    Meets (Builtin.«int.__eq__» ⟨[.bool b, .ref l], []⟩) (fun _ R s => s.heap.get? l = some { cls := .ref C, dict := some dx, data := .plain } ∧ R (.ok (.ret .notImplemented)) s) :=
  .of_wp fun prog w A R s h => by obtain ⟨hp, g, d, tk, os⟩ := s; obtain ⟨hl, h⟩ := h; wp_walk using wpAny_loadPart' hl, wpAny_load hl; exact ⟨_, rfl, h⟩
theorem str_dec_ins (b : Str) (u : Tok) (l C dx : Addr) :
    Meets (Builtin.«str.__eq__» ⟨[.str b u, .ref l], []⟩) (fun _ R s => s.heap.get? l = some { cls := .ref C, dict := some dx, data := .plain } ∧ R (.ok (.ret .notImplemented)) s) :=
  .of_wp fun prog w A R s h => by obtain ⟨hp, g, d, tk, os⟩ := s; obtain ⟨hl, h⟩ := h; wp_walk using wpAny_loadPart' hl, wpAny_load hl; exact ⟨_, rfl, h⟩
theorem wpAny_noInst {M : Model} {T : String} {Q : Bool → Shared → Prop} (X : K.In s.heap) (I : PySem.W.InstAt s.heap x (PySem.W.instObj C dx) C od) (hn : PySem.W.mroIn K C (.type T) = some false) (h : Q false s) : wpAny M A (isInstance (.ref x) (.type T)) Q E s := by
  unfold isInstance
  exact wpAny_bind (I.type.here ((PySem.W.looks_mroIn X hn).here h))
theorem list_dec_ins (l : Addr) (X : K.In s.heap) (I : PySem.W.InstAt s.heap x (PySem.W.instObj C dx) C od) (hn : PySem.W.mroIn K C (.type "list") = some false) {Q : Fin → Shared → Prop} (h : Q (.done (.ret .notImplemented)) s) :
    wpAny (model prog w) A (Builtin.«list.__eq__» ⟨[.ref l, .ref x], []⟩) Q E s := by
  unfold Builtin.«list.__eq__»
  wp_walk using wpAny_noInst X I hn
  exact h
theorem tuple_dec_ins (l : Addr) (X : K.In s.heap) (I : PySem.W.InstAt s.heap x (PySem.W.instObj C dx) C od) (hn : PySem.W.mroIn K C (.type "tuple") = some false) {Q : Fin → Shared → Prop} (h : Q (.done (.ret .notImplemented)) s) :
    wpAny (model prog w) A (Builtin.«tuple.__eq__» ⟨[.ref l, .ref x], []⟩) Q E s := by
  unfold Builtin.«tuple.__eq__»
  wp_walk using wpAny_noInst X I hn
  exact h
theorem dict_dec_ins (l : Addr) (hT : s.TypeIs (.ref l) "dict") (X : K.In s.heap) (I : PySem.W.InstAt s.heap x (PySem.W.instObj C dx) C od) (hn : PySem.W.mroIn K C (.type "dict") = some false) {Q : Fin → Shared → Prop} (h : Q (.done (.ret .notImplemented)) s) :
    wpAny (model prog w) A (Builtin.«dict.__eq__» ⟨[.ref l, .ref x], []⟩) Q E s := by
  show wpAny _ _ (Builtin.Dict.dictSlotArgs "__eq__" ⟨[.ref l, .ref x], []⟩ >>= _) _ _ s
  refine wpAny_bind ?_
  unfold Builtin.Dict.dictSlotArgs
  refine wpAny_bind (wpAny_notOrdered_dict hT ?_)
  show wpAny _ _ (pure (Value.ref l, Value.ref x)) _ _ s
  refine wpAny_pure ?_
  refine wpAny_bind (wpAny_noInst X I hn ?_)
  simp only [Bool.not_false, if_true]
  refine wpAny_bind (wpAny_rule ?_)
  exact wpAny_pure h
end
theorem cmpback_ {P : Value → Shared → Prop} {z : V} {v : Value} {s' : Shared} (r : RelV z v) (h : P v s') : PySem.W.CmpBack P v s' := by
  cases v with
  | notImplemented =>
    cases z with
    | int i => exact nomatch (show ∃ t, Value.notImplemented = Value.int i t from r)
    | str i => exact nomatch (show ∃ t, Value.notImplemented = Value.str i t from r)
    | byt i => exact nomatch (show ∃ t, Value.notImplemented = Value.bytes i t from r)
    | flt i => exact nomatch (show ∃ t, Value.notImplemented = Value.float i t from r)
    | non => exact nomatch (show Value.notImplemented = Value.none from r)
    | bl b => exact nomatch (show Value.notImplemented = Value.bool b from r)
    | ref a => exact nomatch (show Value.notImplemented = Value.ref a from r)
    | ty n => exact nomatch (show Value.notImplemented = Value.type n from r)
  | _ => exact h
/-- values whose == declines an instance -/
inductive Dec (K : PySem.W.Frag) (H : Hp) : V → Prop where
  | non : Dec K H .non
  | bl (b : Bool) : Dec K H (.bl b)
  | int (i : Int) : Dec K H (.int i)
  | str (z : Str) : Dec K H (.str z)
  | lst {a : Addr} {xs : List V} (e : SqL K H a xs) : Dec K H (.ref a)
  | tup {a : Addr} {xs : List V} (e : SqT K H a xs) : Dec K H (.ref a)
  | dK {a : Addr} {kvs : List (Key × V)} (e : H a = some (.dK kvs)) : Dec K H (.ref a)
/-- a rich comparison below the running body -/
def RcO (X : Cx) (k : Nat) (r : R2) : Prop := ∀ (A : Around) (pins : List (Addr × Obj)) (s : Shared) (σ : L2.St) (H : Hp) (x y : V) (u v : Value) (Q : VK), Rm k A → A.frames = X.A.frames → Inv X pins σ H s → RelV x u → RelV y v → r x y H Q →
  wpAny (model X.prog X.w) A (richCompare .Eq u v) (EP X pins σ Q) X.xe s
section
variable {X : Cx} {k : Nat} {f C : Addr} {sp : Sp} {pins : List (Addr × Obj)} {σ : L2.St} {H : Hp} {s : Shared}
theorem dec_try {x : Addr} {dx : Addr} {od : Option Obj} {z : V} {u : Value} (I : Inv X pins σ H s) (r : RelV z u) (d : Dec X.K H z) (J : PySem.W.InstAt s.heap x (PySem.W.instObj C dx) C od) (nb : NoBase X.K C) :
    ∃ T, s.TypeIs u T ∧ oneThing? .Eq u (.ref x) = none ∧ PySem.W.mroIn X.K C (.type T) = some false ∧ ∀ (A : Around) (E : Value → Shared → Prop) (Q' : Option Value → Shared → Prop), Q' none s → wpAny (model X.prog X.w) A (tryCompare u "__eq__" (.ref x)) Q' E s := by
  cases d with
  | non =>
    cases (show u = Value.none from r)
    exact ⟨"NoneType", rfl, rfl, nb.non, fun A E Q' h => wpAny_tryCompare_declines (show s.TypeIs .none "NoneType" from rfl) F.slot_NoneType_eq (call_gives F.slot_NoneType_eq rfl F.entry_NoneType_eq (F.args_NoneType_eq_2 _ _) (NoneType___eq___none_ref_0 x) ⟨rfl, h⟩)⟩
  | bl b =>
    cases (show u = Value.bool b from r)
    exact ⟨"bool", rfl, rfl, nb.bl, fun A E Q' h => wpAny_tryCompare_declines (show s.TypeIs (.bool b) "bool" from rfl) F.slot_bool_eq (call_meets F.slot_bool_eq rfl F.entry_int_eq (F.args_int_eq_2 _ _) (bool_dec_ins b x C dx) ⟨J.at_, rfl, h⟩)⟩
  | int i =>
    obtain ⟨t, e⟩ := (show ∃ t, u = Value.int i t from r)
    cases e
    exact ⟨"int", typeIs_int s i t, rfl, nb.int, fun A E Q' h => wpAny_tryCompare_declines (typeIs_int s i t) F.slot_int_eq (call_meets F.slot_int_eq (typeIs_int s i t) F.entry_int_eq (F.args_int_eq_2 _ _) (int_dec_ins i t x C dx) ⟨J.at_, rfl, h⟩)⟩
  | str z =>
    obtain ⟨t, e⟩ := (show ∃ t, u = Value.str z t from r)
    cases e
    exact ⟨"str", typeIs_str s z t, rfl, nb.str, fun A E Q' h => wpAny_tryCompare_declines (typeIs_str s z t) F.slot_str_eq (call_meets F.slot_str_eq (typeIs_str s z t) F.entry_str_eq (F.args_str_eq_2 _ _) (str_dec_ins z t x C dx) ⟨J.at_, rfl, h⟩)⟩
  | @lst a xs e =>
    cases (show u = Value.ref a from r)
    obtain ⟨its, rl, pl, hz⟩ := I.list e
    obtain ⟨o, n, ho, hc, _⟩ := pl
    have hT : s.TypeIs (.ref a) "list" := ⟨_, ho, hc⟩
    exact ⟨"list", hT, oneThing_ref _ _ _, nb.lst, fun A E Q' h => wpAny_tryCompare_declines hT F.slot_list_eq (wpAny_call_entry F.slot_list_eq hT F.entry_list_eq (list_dec_ins a I.kIn J nb.lst ⟨_, rfl, rfl, h⟩) (F.args_list_eq_2 _ _))⟩
  | @tup a xs e =>
    cases (show u = Value.ref a from r)
    obtain ⟨its, rl, ⟨o, ho, hc, n, d⟩, hz⟩ := I.tuple e
    have hT : s.TypeIs (.ref a) "tuple" := ⟨_, ho, hc⟩
    exact ⟨"tuple", hT, oneThing_ref _ _ _, nb.tup, fun A E Q' h => wpAny_tryCompare_declines hT F.slot_tuple_eq (wpAny_call_entry F.slot_tuple_eq hT F.entry_tuple_eq (tuple_dec_ins a I.kIn J nb.tup ⟨_, rfl, rfl, h⟩) (F.args_tuple_eq_2 _ _))⟩
  | @dK a kvs e =>
    cases (show u = Value.ref a from r)
    have hT : s.TypeIs (.ref a) "dict" := by
      obtain ⟨_, _, vs, _, hD⟩ := (show ObjOk _ _ H s.heap a (.dK kvs) from I.hok a _ e)
      exact hD.typeIs
    exact ⟨"dict", hT, oneThing_ref _ _ _, nb.dct, fun A E Q' h => wpAny_tryCompare_declines hT F.slot_dict_eq (wpAny_call_entry F.slot_dict_eq hT F.entry_dict_eq (dict_dec_ins a hT I.kIn J nb.dct ⟨_, rfl, rfl, h⟩) (F.args_dict_eq_2 _ _))⟩
/-- x == y: x an instance of C -/
def rEqL (K : PySem.W.Frag) (C : Addr) (sp : Sp) : R2 := fun x y H Q => ∃ a dx fs t, x = .ref a ∧ H a = some (.ins C dx fs) ∧ TyX K H y t ∧ NoSub K C t ∧ sp [x, y] H Q (fun _ _ _ => False)
/-- x == y: y an instance of C, x declines -/
def rEqR (K : PySem.W.Frag) (C : Addr) (sp : Sp) : R2 := fun x y H Q => ∃ a dx fs, y = .ref a ∧ H a = some (.ins C dx fs) ∧ Dec K H x ∧ sp [y, x] H Q (fun _ _ _ => False)
theorem rco_L (hm : Meth X.K C "__eq__" f) (F : Fc X.prog X.w X.K X.mg X.base k f [] sp) : RcO X k (rEqL X.K C sp) := by
  intro A pins s σ H x y u v Q hr hf I rx ry h
  obtain ⟨a, dx, fs, t, rfl, ha, ty, ns, hsp⟩ := h
  cases (show u = Value.ref a from rx)
  obtain ⟨mA, J, _⟩ := ins_get I.hok ha
  obtain ⟨od, J, _⟩ := J.look
  obtain ⟨P, kx, hP, _⟩ := kit_of I ry ty
  have run := run_fcA (A := A) (W := fun _ _ _ _ => False) (us := [.ref a, v]) (ws := []) (vs := [.ref a, y]) (σ := σ) F hr hf takes0 I (.cons rfl (.cons ry .nil)) rfl hsp
  refine rc_ownL (by have := hr.rm.un; omega) I.kIn J (kx.ty _ _ I.kIn hP) ns hm (wpAny_mono run (fun w s' z => ?_) fun _ _ x => x)
  obtain ⟨z', H', I', rz, qz⟩ := z
  exact cmpback_ rz ⟨z', H', I', rz, qz⟩
theorem rco_R (nb : NoBase X.K C) (hm : Meth X.K C "__eq__" f) (F : Fc X.prog X.w X.K X.mg X.base k f [] sp) : RcO X k (rEqR X.K C sp) := by
  intro A pins s σ H x y u v Q hr hf I rx ry h
  obtain ⟨a, dx, fs, rfl, ha, d, hsp⟩ := h
  cases (show v = Value.ref a from ry)
  obtain ⟨mA, J, _⟩ := ins_get I.hok ha
  obtain ⟨od, J, _⟩ := J.look
  obtain ⟨T, hT, h1, hn, hd⟩ := dec_try I rx d J nb
  have run := run_fcA (A := A) (W := fun _ _ _ _ => False) (us := [.ref a, u]) (ws := []) (vs := [.ref a, x]) (σ := σ) F hr hf takes0 I (.cons rfl (.cons rx .nil)) rfl hsp
  refine rc_ownR (by have := hr.rm.un; omega) I.kIn J hT h1 hn hm (hd _ _) (wpAny_mono run (fun w s' z => ?_) fun _ _ x => x)
  obtain ⟨z', H', I', rz, qz⟩ := z
  exact cmpback_ rz ⟨z', H', I', rz, qz⟩
def rOr (r r' : R2) : R2 := fun x y H Q => r x y H Q ∨ r' x y H Q
theorem rco_or {r r' : R2} (h : RcO X k r) (h' : RcO X k r') : RcO X k (rOr r r') := fun A pins s σ H x y u v Q hr hf I rx ry q =>
  q.elim (fun q => h A pins s σ H x y u v Q hr hf I rx ry q) fun q => h' A pins s σ H x y u v Q hr hf I rx ry q
theorem rco_mono {r : R2} {j : Nat} (h : RcO X j r) (hj : j ≤ k) : RcO X k r := fun A pins s σ H x y u v Q hr hf I rx ry q => h A pins s σ H x y u v Q (hr.mono hj) hf I rx ry q
theorem op_eqO {r : R2} (h : RcO X k r) (hr : Rm k X.A) : OpR X (compareOp .Eq) r := fun pins s σ H x y u v Q I rx ry q => h X.A pins s σ H x y u v Q hr rfl I rx ry q
theorem ifBound_objNe {M : Model} {A : Around} {E : Value → Shared → Prop} {K : PySem.W.Frag} {x : Addr} {ox : Obj} {od : Option Obj} {args : List Value} {Q : Option Value → Shared → Prop} (X : K.In s.heap) (I : PySem.W.InstAt s.heap x ox C od) (hs : PySem.W.findIn K (.ref C) "__ne__" = some (some (.builtin "object.__ne__")))
    (h : wpAny M A (call (.builtin "object.__ne__") (.ref x :: args)) (fun v => Q (some v)) E s) : wpAny M A (callSpecialIfBound? (.ref x) "__ne__" args) Q E s := by
  simp only [callSpecialIfBound?, bindSpecialIfBound?]
  refine wpAny_holding (wpAny_bind (wpAny_bind (wpAny_bind (I.type.here ((PySem.W.looks_findIn X hs).here ?_)))))
  refine wpAny_bind (wpAny_askSetting (wpAny_ite ?_))
  have fin : wpAny M A (call (.builtin "object.__ne__") ([.ref x] ++ args) >>= fun v => pure (some v)) Q E s := wpAny_bind (wpAny_mono h (fun v s' h' => wpAny_pure h') fun _ _ h' => h')
  split
  · exact wpAny_bind (wpAny_of_eq (F.cmp_object.ne.bind _) (wpAny_pure (by exact fin)))
  · exact wpAny_tryCatch (wpAny_bind (wpAny_of_eq (F.cmp_object.ne.bind _) (wpAny_pure (by exact fin))))
/-- x != y by the own ==: x an instance of C -/
def rNeL (K : PySem.W.Frag) (C : Addr) (sp : Sp) : R2 := fun x y H Q => ∃ a dx fs t, x = .ref a ∧ H a = some (.ins C dx fs) ∧ TyX K H y t ∧ NoSub K C t ∧ sp [x, y] H (fun v H' => ∃ b, v = .bl b ∧ Q (.bl (!b)) H') (fun _ _ _ => False)
theorem op_neO (nb : NoBase X.K C) (hm : Meth X.K C "__eq__" f) (F : Fc X.prog X.w X.K X.mg X.base k f [] sp) (hr : Rm (k + 1) X.A) : OpR X (compareOp .NotEq) (rNeL X.K C sp) := by
  intro pins s σ H x y u v Q I rx ry h
  obtain ⟨a, dx, fs, t, rfl, ha, ty, ns, hsp⟩ := h
  cases (show u = Value.ref a from rx)
  obtain ⟨mA, J, _⟩ := ins_get I.hok ha
  obtain ⟨od, J, _⟩ := J.look
  obtain ⟨P, kx, hP, _⟩ := kit_of I ry ty
  have hb := kx.ty (model X.prog X.w) _ I.kIn hP
  have run := run_fcA (A := X.A.in1) (W := fun _ _ _ _ => False) (us := [.ref a, v]) (ws := []) (vs := [.ref a, y]) (σ := σ) F hr.in1 rfl takes0 I (.cons rfl (.cons ry .nil)) rfl hsp
  have one : wpAny (model X.prog X.w) X.A (tryCompare (.ref a) "__ne__" v) (fun r s' => ∃ z, r = some z ∧ EP X pins σ Q z s') X.xe s := by
    unfold tryCompare
    refine wpAny_bind (ifBound_objNe I.kIn J nb.ne (wpAny_call (codeAny_call_builtin PySem.F.cmp_object.ne.plain PySem.F.cmpEntry_ne (PySem.W.check_slot PySem.F.cmpKind_ne PySem.F.cmpSplit_ne (J.type.andThen (PySem.W.looks_mroIn I.kIn nb.ob)) (PySem.F.cmpArgs_ne _ _) ?_))))
    show wpAny _ X.A.in1 _ _ _ _
    have two : wpAny (model X.prog X.w) X.A.in1 (callSpecialIfBound? (.ref a) "__eq__" [v]) (fun r s' => ∃ b, r = some (.bool b) ∧ ∃ H', Inv X pins σ H' s' ∧ Q (.bl (!b)) H') X.xe s := by
      refine PySem.W.ifBound_K I.kIn J hm.at_ hm.fn (wpAny_mono run (fun w s' z => ?_) fun _ _ x => x)
      obtain ⟨z', H', I', rz, b, rfl, qz⟩ := z
      cases (show w = Value.bool b from rz)
      exact ⟨b, rfl, H', I', qz⟩
    unfold Builtin.«object.__ne__»
    refine wpAny_bind (wpAny_pure ?_)
    refine wpAny_bind (wpAny_cRoomFor (by have := hr.in1.rm.un; omega) ?_)
    refine wpAny_bind (wpAny_mono two (fun r s' z => ?_) fun _ _ x => x)
    obtain ⟨b, rfl, H', I', qz⟩ := z
    refine wpAny_bind (wpAny_truthy_bool ?_)
    exact wpAny_pure (wpAny_pure ⟨_, rfl, ⟨.bl (!b), H', I', rfl, qz⟩⟩)
  show wpAny _ _ (richCompare .NotEq (.ref a) v) _ _ _
  simp only [richCompare, cmpInfo_NotEq, oneThing_ref]
  refine wpAny_holding (wpAny_bind (wpAny_cRoomFor (by have := hr.rm.un; omega) ?_))
  refine wpAny_bind (J.type.here (wpAny_bind (hb.here ?_)))
  split
  · rename_i q
    refine wpAny_bind ((noSub_look ns I.kIn q).here ?_)
    simp only [Bool.false_eq_true, if_false]
    refine wpAny_bind (wpAny_mono one (fun r s' z => ?_) fun _ _ e => e)
    obtain ⟨v, rfl, hq⟩ := z
    exact wpAny_pure hq
  · refine wpAny_bind (wpAny_pure ?_)
    simp only [Bool.false_eq_true, if_false]
    refine wpAny_bind (wpAny_mono one (fun r s' z => ?_) fun _ _ e => e)
    obtain ⟨v, rfl, hq⟩ := z
    exact wpAny_pure hq
/-- x in a list, each item compared by r, the same object found ahead -/
def inW (r : R2) (K : PySem.W.Frag) (a : Addr) (ys : List V) (b : Addr) : List V → Hp → (Bool → Hp → Prop) → Prop
  | [], H, Q => SqL K H a ys ∧ Q false H
  | y :: l, H, Q => SqL K H a ys ∧ ((y = .ref b ∧ Q true H) ∨ (y ≠ .ref b ∧ r y (.ref b) H fun v H' => ∃ z, v = .bl z ∧ if z = true then Q true H' else inW r K a ys b l H' Q))
def rInO (r : R2) (K : PySem.W.Frag) : R2 := fun x y H Q => ∃ b a ys, x = .ref b ∧ y = .ref a ∧ inW r K a ys b ys H fun b H' => Q (.bl b) H'
theorem eqBool_itm {A : Around} {r : R2} {b : Addr} {y : V} {u : Value} (h : RcO X k r) (hr : Rm k A) (hf : A.frames = X.A.frames) (I : Inv X pins σ H s) (ry : RelV y u) {Q : Bool → Hp → Prop}
    (q : (y = .ref b ∧ Q true H) ∨ (y ≠ .ref b ∧ r y (.ref b) H fun v H' => ∃ z, v = .bl z ∧ Q z H')) : wpAny (model X.prog X.w) A (eqBool u (.ref b)) (fun z s' => ∃ H', Inv X pins σ H' s' ∧ Q z H') X.xe s := by
  rcases q with ⟨rfl, q⟩ | ⟨ne, q⟩
  · cases (show u = Value.ref b from ry)
    exact SeqAt.EqAt.same (A := A) (s := s) (.ref b) X.prog X.w X.xe _ ⟨H, I, q⟩
  · have hu : (u == Value.ref b) = false := by
      rw [beq_eq_false_iff_ne]
      rintro rfl
      apply ne
      cases y with
      | ref a => injection (show Value.ref b = Value.ref a from ry) with e; rw [e]
      | int i => exact nomatch (show ∃ t, Value.ref b = Value.int i t from ry)
      | str i => exact nomatch (show ∃ t, Value.ref b = Value.str i t from ry)
      | byt i => exact nomatch (show ∃ t, Value.ref b = Value.bytes i t from ry)
      | flt i => exact nomatch (show ∃ t, Value.ref b = Value.float i t from ry)
      | non => exact nomatch (show Value.ref b = Value.none from ry)
      | bl c => exact nomatch (show Value.ref b = Value.bool c from ry)
      | ty n => exact nomatch (show Value.ref b = Value.type n from ry)
    have run := h A pins s σ H y (.ref b) u (.ref b) _ hr hf I ry rfl q
    unfold eqBool
    refine wpAny_holding ?_
    refine wpAny_ite_split (fun hab => absurd hab (by rw [hu]; decide)) (fun _ => ?_)
    have fin : wpAny (model X.prog X.w) A (richCompare .Eq u (.ref b) >>= fun v => truthOfDropped v) (fun z s' => ∃ H', Inv X pins σ H' s' ∧ Q z H') X.xe s := by
      refine wpAny_bind (wpAny_mono run (fun v s' hv => ?_) fun _ _ x => x)
      obtain ⟨z', H', I', rz, z, rfl, q⟩ := hv
      cases (show v = Value.bool z from rz)
      exact wpAny_truthy_bool ⟨H', I', q⟩
    cases u <;> exact fin
theorem in_loop {r : R2} {a b : Addr} {ys : List V} (h : RcO X k r) {R : Result → Shared → Prop} (hE : ∀ e s', X.xe e s' → R (.error e) s') (hr : Rm (k + 1) X.A) (Q : Bool → Hp → Prop) (hR : ∀ z H' s', Inv X pins σ H' s' → Q z H' → R (.ok (.ret (.bool z))) s') :
    ∀ (l : List V) (i : Nat) (H : Hp) (s : Shared), l = ys.drop i → Inv X pins σ H s → inW r X.K a ys b l H Q → wpAny (model X.prog X.w) X.A.in1 (Builtin.«list.__contains__.loop» ⟨[.ref a, .ref b, rawInt i], []⟩) (GQ.FinOf X.prog X.w X.A R) (fun e s' => R (.error e) s') s
  | [], i, H, s, el, I, hq => by
    obtain ⟨hS, q⟩ := hq
    obtain ⟨its, rl, pl, hz⟩ := I.list hS
    obtain ⟨⟨cls, dd, data, sl⟩, n, ho, hc, hd, hs⟩ := pl
    simp only at hc hd hs
    subst hc hd hs
    have hlen : ys.length ≤ i := List.drop_eq_nil_iff.mp el.symm
    have hR' := hR false H s I q
    have hl2 : its.length = ys.length := rl.length.symm
    obtain ⟨hp, g, d, tk, os⟩ := s
    wp_walk using AutoSeq1.wpAny_loadPart' ho
    have hi : its.toArray[((i : Nat) : Int).toNat]? = none := by simp; omega
    rw [hi]
    wp_walk
    exact hR'
  | y :: l, i, H, s, el, I, hq => by
    obtain ⟨hS, q⟩ := hq
    obtain ⟨its, rl, pl, hz⟩ := I.list hS
    obtain ⟨⟨cls, dd, data, sl⟩, n, ho, hc, hd, hs⟩ := pl
    simp only at hc hd hs
    subst hc hd hs
    have hy : ys[i]? = some y := by
      have : (ys.drop i)[0]? = some y := by rw [← el]; rfl
      rwa [List.getElem?_drop] at this
    obtain ⟨u, hu, ry⟩ : ∃ u, its[i]? = some u ∧ RelV y u := rl.get hy
    have step := eqBool_itm (A := X.A.in1) (Q := fun z H' => if z = true then Q true H' else inW r X.K a ys b l H' Q) h hr.in1 rfl I ry (q.imp (fun q => ⟨q.1, by simpa using q.2⟩) id)
    have rec_ := fun H' s' I' => in_loop (a := a) (b := b) h hE hr Q hR l (i + 1) H' s' (by rw [← List.tail_drop, ← el]; rfl) I'
    obtain ⟨hp, g, d, tk, os⟩ := s
    wp_walk using AutoSeq1.wpAny_loadPart' ho
    have hi : its.toArray[((i : Nat) : Int).toNat]? = some u := by simpa using hu
    rw [hi]
    refine wpAny_bind (wpAny_mono step (fun z s' hz => ?_) hE)
    obtain ⟨H', I', qz⟩ := hz
    cases z with
    | true =>
      have hR' := hR true H' s' I' (by simpa using qz)
      obtain ⟨hp2, g2, d2, tk2, os2⟩ := s'
      wp_walk
      exact hR'
    | false =>
      have hrec := rec_ H' s' I' (by simpa using qz)
      have hc : ((i : Int) + 1) = ((i + 1 : Nat) : Int) := by omega
      obtain ⟨hp2, g2, d2, tk2, os2⟩ := s'
      wp_walk
      rw [hc]
      exact ⟨plainId_quiet MeetsSeq.plain_contains_loop _, codeAny_builtin MeetsSeq.entry_contains_loop (by
        rw [Around.under_plainId MeetsSeq.plain_contains_loop _]
        exact hrec)⟩
theorem op_inO {r : R2} (h : RcO X k r) (hr : Rm (k + 1) X.A) : OpR X (compareOp .In) (rInO r X.K) := by
  intro pins s σ H x y u v Q I rx ry hq
  obtain ⟨b, a, ys, rfl, rfl, hq⟩ := hq
  cases (show u = Value.ref b from rx)
  cases (show v = Value.ref a from ry)
  have hS : SqL X.K H a ys := by cases ys with | nil => exact hq.1 | cons _ _ => exact hq.1
  obtain ⟨its, rl, pl, hz⟩ := I.list hS
  obtain ⟨o, n, ho, hc, _⟩ := pl
  have hT : s.TypeIs (.ref a) "list" := ⟨_, ho, hc⟩
  show wpAny _ X.A (contains (.ref a) (.ref b) >>= fun z => pure (Value.bool z)) _ _ s
  refine wpAny_bind (wpAny_contains_slot hT PySem.F.slot_list_contains (wpAny_mono (Q := fun (v : Value) s' => ∃ z, v = Value.bool z ∧ EP X pins σ Q (Value.bool z) s') (GQ.call_here PySem.F.slot_list_contains hT PySem.F.entry_list_contains (PySem.F.args_list_contains_2 _ _) ?_) (fun v s' hv => ?_) fun _ _ e => e))
  · have hrec := in_loop h (R := wants (fun v s' => ∃ z, v = .bool z ∧ EP X pins σ Q (.bool z) s') X.xe) (fun e s' x => x) hr (fun b H' => Q (.bl b) H') (fun z H' s' I' q => ⟨z, rfl, .bl z, H', I', rfl, q⟩) ys 0 H s rfl I hq
    obtain ⟨hp, g, d, tk, os⟩ := s
    wp_walk
    exact ⟨plainId_quiet MeetsSeq.plain_contains_loop _, codeAny_builtin MeetsSeq.entry_contains_loop (by
      rw [Around.under_plainId MeetsSeq.plain_contains_loop _]
      exact hrec)⟩
  · obtain ⟨z, rfl, hq⟩ := hv
    exact wpAny_truthy_bool (wpAny_pure hq)
theorem rco_LK (K : PySem.W.Frag) (hm : Meth K C "__eq__" f) (F : Fc X.prog X.w K X.mg X.base k f [] sp) (h : X.K = K := by rfl) : RcO X k (rEqL K C sp) := by
  subst h
  exact rco_L hm F
theorem rco_RK (K : PySem.W.Frag) (nb : NoBase K C) (hm : Meth K C "__eq__" f) (F : Fc X.prog X.w K X.mg X.base k f [] sp) (h : X.K = K := by rfl) : RcO X k (rEqR K C sp) := by
  subst h
  exact rco_R nb hm F
theorem op_neOK (K : PySem.W.Frag) (nb : NoBase K C) (hm : Meth K C "__eq__" f) (F : Fc X.prog X.w K X.mg X.base k f [] sp) (hr : Rm (k + 1) X.A) (h : X.K = K := by rfl) : OpR X (compareOp .NotEq) (rNeL K C sp) := by
  subst h
  exact op_neO nb hm F hr
theorem op_inOK (K : PySem.W.Frag) {r : R2} (h : RcO X k r) (hr : Rm (k + 1) X.A) (e : X.K = K := by rfl) : OpR X (compareOp .In) (rInO r K) := by
  subst e
  exact op_inO h hr
end
end L3
set_option Elab.async false
set_option linter.all false
set_option maxRecDepth 100000
set_option maxHeartbeats 4000000
namespace L3
open PySem PySem.Spec PyProof.Rows L2 PySem.SeqAt PySem.Calls
theorem room65 {k : Nat} {A : Around} (r : Room k A) : A.units + 65 < cLine := by have := r.un; omega
theorem call_isiK {X : Cx} (K : PySem.W.Frag) (h : X.K = K := by rfl) : CallR X (.builtin "isinstance") (rIsi K) := by
  subst h
  exact call_isi
end L3
set_option Elab.async false
set_option linter.all false
set_option maxRecDepth 100000
set_option maxHeartbeats 4000000
namespace L3
open PySem PySem.Spec PyProof.Rows L2 PySem.SeqAt PySem.Calls
section
variable {X : Cx} {e : Expr} {t1 t2 : TE}
def tOrE (t1 t2 : TE) : TE := fun σ H Q => t1 σ H Q ∨ t2 σ H Q
/-- one reading or the other -/
theorem pe_orE (h1 : PE X e t1) (h2 : PE X e t2) : PE X e (tOrE t1 t2) := ⟨fun pins s σ H Q I h => h.elim (h1.run pins s σ H Q I) (h2.run pins s σ H Q I)⟩
end
/-- a promise that is asked for nothing -/
theorem fc_no {P : Program} {w : World} {K : PySem.W.Frag} {mg : Str → Option Value} {base : Heap} {k : Nat} {f : Addr} {ks : List Str} {sp : Sp} (h : ∀ vs H Q E, ¬ sp vs H Q E) : Fc P w K mg base k f ks sp := fun _ _ _ _ _ _ _ _ _ _ _ _ _ z => absurd z (h _ _ _ _)
end L3
set_option Elab.async false
set_option linter.all false
set_option maxRecDepth 100000
set_option maxHeartbeats 4000000
namespace L3
open PySem PySem.Spec PyProof.Rows L2 PySem.SeqAt PySem.Calls
end L3
set_option Elab.async false
set_option linter.all false
set_option maxRecDepth 100000
set_option maxHeartbeats 4000000
namespace L3
open PySem PySem.Spec PyProof.Rows L2
section
variable {p A B : Prop} [Decidable p]
theorem ifP (h : p) (q : A) : if decide p = true then A else B := by
  rw [decide_eq_true h]
  exact iteT q
theorem ifN (h : ¬ p) (q : B) : if decide p = true then A else B := by
  rw [decide_eq_false h]
  exact iteF q
theorem ifnP (h : p) (q : B) : if (!decide p) = true then A else B := by
  rw [decide_eq_true h]
  exact iteF q
theorem ifnN (h : ¬ p) (q : A) : if (!decide p) = true then A else B := by
  rw [decide_eq_false h]
  exact iteT q
end
theorem vint_ne {a b : Int} (h : a ≠ b) : ¬ V.int a = V.int b := fun z => by
  injection z with z
  exact h z
theorem vint_eq {a b : Int} (h : a = b) : V.int a = V.int b := by rw [h]
theorem vstr_ne {a b : List Nat} (h : a ≠ b) : ¬ V.str (SX.S a) = V.str (SX.S b) := fun z => by
  injection z with z
  exact h (SX.S_inj z)
theorem vch_ne {c d : Nat} (h : c ≠ d) : ¬ V.str ⟨#[c]⟩ = V.str (SX.S [d]) := fun z => by
  injection z with z
  have e : [c] = [d] := SX.S_inj (a := [c]) z
  injection e with e
  exact h e
theorem sz_big {n : Nat} (h : n ≤ 16000000) : n ≤ sizeLine := Nat.le_trans h (by rw [sizeLine_eq]; decide)
theorem sz_lt {n : Nat} (h : n ≤ 16000000) : n < sizeLine := Nat.lt_of_le_of_lt h (by rw [sizeLine_eq]; decide)
end L3
set_option Elab.async false
set_option linter.all false
set_option maxRecDepth 100000
set_option maxHeartbeats 4000000
namespace L3
open PySem PySem.Spec PyProof.Rows L2
structure FbN (P : Program) (w : World) (K : PySem.W.Frag) (mg : Str → Option Value) (base : Heap) (k : Nat) (f : Addr) (fd : FuncData) (ps : List Str) (sp : Sp) : Prop where
  len : ∀ vs H Q E, sp vs H Q E → vs.length = ps.length
  run : ∀ (A : Around) (outer : List Env) (s : Shared) (H : Hp) (args : Args) (us : List Value) (vs : List V) (Q : VK) (E : XK), Rm k A → Env0 P w K mg base A outer s H → BindsTo s fd args (ps.zip us) → Vals vs us → sp vs H Q E →
    codeAny (model P w) A (.call (.ref f) args) (CR (L2N.CX P w) outer P w H s Q E) s
section
variable {P : Program} {w : World} {K : PySem.W.Frag} {mg : Str → Option Value} {base : Heap} {x qual : Str} {params : Arguments} {body : List Stmt} {scope : Scope} {dvs : List V} {kws : List (Str × V)} {f : Addr} {fd : FuncData} {k : Nat} {ps N : List Str} {sp : Sp}
theorem fbN_of (F : FunD K x qual params body scope dvs kws f fd) (S : FnScope N ps scope) (len : ∀ vs H Q E, sp vs H Q E → vs.length = ps.length)
    (hbody : ∀ (cdv : Value) (A : Around) (outer : List Env) (s : Shared) (H : Hp) (vs : List V) (Q : VK) (E : XK), Rm k (A.deeper (envOfC qual scope s.heap.objs.size f cdv)) → sp vs H Q E →
      ∃ t, PSs (cxOf (L2N.CX P w) P w K mg base N qual scope f cdv A outer s H E) body t ∧ t { nx := fun _ H' => Q .non H', rt := Q } (start N vs) H) : FbN P w K mg base (k + 1) f fd ps sp := by
  obtain ⟨oc, od, dV, kV, doc, pm, an, cdv, ct, osl, rfl, lk, hcd, _, _⟩ := F.ex
  refine ⟨len, fun A outer s H args us vs Q E hr e0 hb r hsp => ?_⟩
  have hl := len _ _ _ _ hsp
  have KX : K.In s.heap := e0.mod.kin.keeps fun b o e => (e0.bs b o e).1
  have lim : s.heap.NoLimit := e0.mod.nolimit.keeps fun b o e => (e0.bs b o e).1
  have hkind : ∀ y ∈ ps.zip us, scope.names.lookup y.1 = some .local ∨ (scope.names.lookup y.1 = some .cell ∧ ((cellsFrom (s.heap.objs.size + 1) scope.names []).lookup y.1).isSome = true) := fun ⟨n, v⟩ hy => by
    rcases S.par n (List.of_mem_zip hy).1 with q | q
    · exact .inl q
    · exact .inr ⟨q, PySem.W.cellsFrom_some _ _ _ (.inl q)⟩
  refine codeAny_call_function hr.rm.depth (KX _ _ lk) rfl S.co S.gen rfl (PySem.W.codeRec_of KX hcd) (hb _ _ _ _ ?_)
  refine wpAny_newFunctionEnv_cells S.kind hkind fun env he s1 x => ?_
  subst he
  refine ⟨lim.keeps x.toInCall.keep, codeAny_func ?_⟩
  obtain ⟨t, ht, hq⟩ := hbody cdv A outer s H vs Q E (hr.deeper _) hsp
  have I : Inv (cxOf (L2N.CX P w) P w K mg base N qual scope f cdv A outer s H E) [] (start N vs) H s1 := inv_start S hr.rm.hd e0 hl r x
  refine wpAny_mono (ht.run [] s1 (start N vs) H _ I hq) (fun fl s' hs => ?_) fun e s' hs => hs
  have fin : ∀ {σ' : L2.St} {H' : Hp} {v : V} {u : Value}, Inv (cxOf (L2N.CX P w) P w K mg base N qual scope f cdv A outer s H E) [] σ' H' s' → RelV v u → Q v H' → CE outer P w H s Q u s' :=
    fun {σ' H' v u} J rv q => ⟨v, H', J.os, J.bare, J.base, J.hok, rv, q⟩
  cases fl with
  | ret u =>
    obtain ⟨v, σ', H', J, rv, q⟩ := hs
    exact fin J rv q
  | next =>
    obtain ⟨σ', H', J, q⟩ := hs
    exact fin (v := V.non) (u := Value.none) J rfl q
  | brk =>
    obtain ⟨_, _, _, q⟩ := hs
    exact False.elim q
  | cont =>
    obtain ⟨_, _, _, q⟩ := hs
    exact False.elim q
theorem FbN.mono {j : Nat} (F : FbN P w K mg base j f fd ps sp) (h : j ≤ k) : FbN P w K mg base k f fd ps sp := ⟨F.len, fun A outer s H args us vs Q E hr => F.run A outer s H args us vs Q E (hr.mono h)⟩
theorem FbN.imp {sp' : Sp} (F : FbN P w K mg base k f fd ps sp) (h : ∀ vs H Q E, sp' vs H Q E → sp vs H Q E) : FbN P w K mg base k f fd ps sp' :=
  ⟨fun vs H Q E q => F.len vs H Q E (h _ _ _ _ q), fun A outer s H args us vs Q E hr he hb hv hs => F.run A outer s H args us vs Q E hr he hb hv (h _ _ _ _ hs)⟩
def FcN (P : Program) (w : World) (K : PySem.W.Frag) (mg : Str → Option Value) (base : Heap) (k : Nat) (f : Addr) (ks : List Str) (sp : Sp) : Prop :=
  ∀ (A : Around) (outer : List Env) (s : Shared) (H : Hp) (us ws : List Value) (vs : List V) (Q : VK) (E : XK), Rm k A → Env0 P w K mg base A outer s H → Vals vs (us ++ ws) → ws.length = ks.length → sp vs H Q E →
    codeAny (model P w) A (.call (.ref f) ⟨us, ks.zip ws⟩) (CR (L2N.CX P w) outer P w H s Q E) s
theorem FcN.mono {j : Nat} {ks : List Str} (F : FcN P w K mg base j f ks sp) (h : j ≤ k) : FcN P w K mg base k f ks sp := fun A outer s H us ws vs Q E hr => F A outer s H us ws vs Q E (hr.mono h)
theorem FcN.imp {sp' : Sp} {ks : List Str} (F : FcN P w K mg base k f ks sp) (h : ∀ vs H Q E, sp' vs H Q E → sp vs H Q E) : FcN P w K mg base k f ks sp' :=
  fun A outer s H us ws vs Q E hr he hv hl hs => F A outer s H us ws vs Q E hr he hv hl (h _ _ _ _ hs)
/-- every parameter is given by place -/
theorem FbN.all (F : FbN P w K mg base k f fd ps sp) (hb : Binds K fd ps []) : FcN P w K mg base k f [] sp := fun A outer s H us ws vs Q E hr e0 r hl h => by
  cases ws with
  | cons w ws => cases hl
  | nil =>
    rw [List.append_nil] at r
    have KX : K.In s.heap := e0.mod.kin.keeps fun b o e => (e0.bs b o e).1
    have l2 : us.length = ps.length := by rw [← r.length]; exact F.len _ _ _ _ h
    have b := hb s us KX (by rw [List.append_nil]; exact l2)
    rw [List.append_nil] at b
    exact F.run A outer s H ⟨us, []⟩ us vs Q E hr e0 b r h
/-- some by place, some by name, some left out: g puts the given ones and the defaults into the parameters' order -/
theorem FbN.shape (D : FunD K x qual params body scope dvs kws f fd) (F : FbN P w K mg base k f fd ps sp) (n : Nat) (ks : List Str) (g : {α : Type} → List α → List α → List α) (hd : dvs ≠ [])
    (hrel : ∀ {vs ds : List V} {us its : List Value}, Vals vs us → Vals ds its → Vals (g vs ds) (g us its))
    (h : ∀ (T : Addr) (kV doc pm : Value) (an : Option Addr) (cdv ct : Value) (us ws its : List Value), us.length = n → ws.length = ks.length → its.length = dvs.length →
      ∃ k, bindArgs (PySem.W.fnOf x qual params body scope (.ref T) kV doc pm an cdv ct) ⟨us, ks.zip ws⟩ = seqItems? (.ref T) >>= k ∧ k (some its.toArray) = pure (ps.zip (g (us ++ ws) its))) :
    FcN P w K mg base k f ks (fun vs H Q E => vs.length = n + ks.length ∧ sp (g vs dvs) H Q E) := by
  obtain ⟨oc, od, dV, kV, doc, pm, an, cdv, ct, osl, rfl, lk, hcd, hD, hK⟩ := D.ex
  rcases hD with ⟨e, _⟩ | ⟨_, T, o, its, m, rfl, lT, oT, rT⟩
  · exact absurd e hd
  · intro A outer s H us ws vs Q E hr e0 r hl hsp
    have KX : K.In s.heap := e0.mod.kin.keeps fun b o e => (e0.bs b o e).1
    have l1 : its.length = dvs.length := rT.length.symm
    have l2 : us.length = n := by
      have e := r.length
      rw [hsp.1, List.length_append, hl] at e
      omega
    obtain ⟨k, e1, e2⟩ := h T kV doc pm an cdv ct us ws its l2 hl l1
    refine F.run A outer s H ⟨us, ks.zip ws⟩ (g (us ++ ws) its) (g vs dvs) Q E hr e0 (BindsTo.of_looks fun M => ?_) (hrel r rT) hsp.2
    rw [e1]
    exact looks_items KX lT oT (.of_pure e2)
/-- all parameters given, some by name, no defaults -/
theorem FbN.names (D : FunD K x qual params body scope [] kws f fd) (F : FbN P w K mg base k f fd ps sp) (n : Nat) (ks : List Str) (g : {α : Type} → List α → List α)
    (hrel : ∀ {vs : List V} {us : List Value}, Vals vs us → Vals (g vs) (g us))
    (h : ∀ (kV doc pm : Value) (an : Option Addr) (cdv ct : Value) (us ws : List Value), us.length = n → ws.length = ks.length →
      bindArgs (PySem.W.fnOf x qual params body scope .none kV doc pm an cdv ct) ⟨us, ks.zip ws⟩ = pure (ps.zip (g (us ++ ws)))) :
    FcN P w K mg base k f ks (fun vs H Q E => vs.length = n + ks.length ∧ sp (g vs) H Q E) := by
  obtain ⟨oc, od, dV, kV, doc, pm, an, cdv, ct, osl, rfl, lk, hcd, hD, hK⟩ := D.ex
  rcases hD with ⟨_, rfl⟩ | ⟨e, _⟩
  · intro A outer s H us ws vs Q E hr e0 r hl hsp
    have l2 : us.length = n := by
      have e := r.length
      rw [hsp.1, List.length_append, hl] at e
      omega
    exact F.run A outer s H ⟨us, ks.zip ws⟩ (g (us ++ ws)) (g vs) Q E hr e0 (.of_eq (h kV doc pm an cdv ct us ws l2 hl)) (hrel r) hsp.2
  · exact absurd rfl e
end
theorem cxN {P : Program} {w : World} {outer : List Env} {H : Hp} {s : Shared} {E : XK} {u : Value} {s' : Shared} (h : L2N.CX P w outer H s E u s') : L2.CX P w outer H s E u s' := by
  obtain ⟨a, B, H', cls, d, e, fl, r⟩ := h
  exact ⟨a, B, H', cls, d, e, L2H.flyingZ_imp (fun o z => z.zc) fl, r⟩
theorem FcN.fc {P : Program} {w : World} {K : PySem.W.Frag} {mg : Str → Option Value} {base : Heap} {k : Nat} {f : Addr} {ks : List Str} {sp : Sp} (F : FcN P w K mg base k f ks sp) : Fc P w K mg base k f ks sp :=
  fun A outer s H us ws vs Q E hr e0 r hl h => codeAny_mono (F A outer s H us ws vs Q E hr e0 r hl h) fun r s' hq => by
    cases r with
    | error e => exact cxN hq
    | ok fl =>
      cases fl with
      | ret u => exact hq
      | next => exact hq
      | brk => exact hq
      | cont => exact hq
section
variable {X : Cx} {k : Nat} {f C : Addr} {ks : List Str} {sp : Sp} {W : WX} {x m : Str} {p pos apos : Pos} {e o : Expr} {es : List Expr} {kws : List Keyword} {ta : TE} {t tk : TA}
theorem run_fcN {pins : List (Addr × Obj)} {σ : L2.St} {H : Hp} {s : Shared} {Q : VK} {us ws : List Value} {vs : List V} (F : FcN X.prog X.w X.K X.mg X.base k f ks sp) (hr : Rm k X.A) (hx : L2N.Takes X W)
    (I : Inv X pins σ H s) (r : Vals vs (us ++ ws)) (hl : ws.length = ks.length) (h : sp vs H Q (WE W σ)) : wpAny (model X.prog X.w) X.A (call (.ref f) us (ks.zip ws)) (EP X pins σ Q) X.xe s := by
  refine wpAny_call (codeAny_mono (F X.A X.stack s H us ws vs Q (WE W σ) hr I.env0 r hl h) fun r s' hq => ?_)
  cases r with
  | error e => exact L2N.passAt hx σ pins H s e s' I hq
  | ok fl =>
    cases fl with
    | ret u => exact I.after hq
    | next => exact False.elim hq
    | brk => exact False.elim hq
    | cont => exact False.elim hq
/-- f(e, ..) -/
theorem c_callN (F : FcN X.prog X.w X.K X.mg X.base k f [] sp) (hr : Rm k X.A) (hm : X.mg x = some (.ref f)) (hk : PySem.W.keepIn X.K (.ref f) = true) (hx : L2N.Takes X W)
    (ha : PA X (e :: es) t) (hg : Gl X x := by rfl) (hdb : (x == ("__debug__" : Str)) = false := by decide) (he : starEach (e :: es) X.env = (false, eval e X.env) :: starEach es X.env := by rfl) (hpl : (backTo pos (starEach es X.env)).any (·.1) = false := by rfl) :
    PE X (.Call (.Name x p) (e :: es) [] pos) (tFc sp W t) := by
  refine ⟨fun pins s σ H Q I h => ?_⟩
  refine wpAny_Call_Name_kw (ld_glob I hg hm ?_ hdb)
  refine PySem.W.callWith_K (h₀ := X.base) I.ok.mod.kin hk (thn (ha.run pos pins s σ H _ I h) fun us s1 ⟨vs, H1, I1, r, q⟩ => ⟨I1.kIn, ?_⟩) he hpl
  exact run_fcN (ws := []) F hr hx I1 (by rw [List.append_nil]; exact r) rfl q
end
end L3
namespace L3
open PySem PySem.Spec PyProof.Rows L2 L2H HotX
/-- the heap behind «from x1» -/
def causeFrom (h : Heap) (a x1 : Addr) : Heap := (h.update a (Obj.mapFields (·.setIfInBounds 3 (.ref x1)))).update a (Obj.mapFields (·.setIfInBounds 4 (.bool true)))
theorem causeFrom_at {h : Heap} {a x1 : Addr} {oe : Obj} {vs : Array Value} (ha : h.get? a = some oe) (hd : oe.data = .fields vs) :
    (causeFrom h a x1).get? a = some ((oe.mapFields (·.setIfInBounds 3 (.ref x1))).mapFields (·.setIfInBounds 4 (.bool true))) ∧ ((oe.mapFields (·.setIfInBounds 3 (.ref x1))).mapFields (·.setIfInBounds 4 (.bool true))).data = .fields ((vs.setIfInBounds 3 (.ref x1)).setIfInBounds 4 (.bool true)) := by
  have hd3 := Obj.data_mapFields hd (·.setIfInBounds 3 (.ref x1))
  have ha3 := Heap.get?_update_self (Obj.mapFields (·.setIfInBounds 3 (.ref x1))) ha (Obj.isFreed_of_fields hd3)
  have hd4 := Obj.data_mapFields hd3 (·.setIfInBounds 4 (.bool true))
  exact ⟨Heap.get?_update_self (Obj.mapFields (·.setIfInBounds 4 (.bool true))) ha3 (Obj.isFreed_of_fields hd4), hd4⟩
theorem causeFrom_other {h : Heap} {a b x1 : Addr} (hne : a ≠ b) : (causeFrom h a x1).get? b = h.get? b := by
  unfold causeFrom
  rw [Heap.get?_update_other _ _ hne, Heap.get?_update_other _ _ hne]
theorem raise_made_hotF {prog : Program} {w : World} {A : Around} {E : Value → Shared → Prop} {env : Env} {s : Shared} {x c : Sem Value} {Q : Flow → Shared → Prop} {x1 : Addr}
    (h : wpAny (model prog w) A x (fun v s₁ => ∃ a oe vs cls, v = .ref a ∧ s₁.heap.get? a = some oe ∧ oe.cls = cls ∧ oe.data = .fields vs ∧ vs[1]? = some .none ∧ 4 < vs.size ∧ x1 ≠ a ∧ HotAt A x1 s₁.heap ∧
      PySem.W.Looks (model prog w) s₁.heap (isSubtype cls (.type "BaseException")) true ∧ PySem.W.Looks (model prog w) (causeFrom s₁.heap a x1) (typeOf cls) (.type "type") ∧
      (∃ o1 cls1, s₁.heap.get? x1 = some o1 ∧ o1.cls = cls1 ∧ PySem.W.Looks (model prog w) s₁.heap (isSubtype cls1 (.type "BaseException")) true) ∧
      (∀ Q' : Value → Shared → Prop, Q' (.ref x1) s₁ → wpAny (model prog w) A c Q' E s₁) ∧
      E (.ref a) { s₁ with heap := (causeFrom s₁.heap a x1).update a (Obj.mapFields (·.setIfInBounds 2 (.ref x1))) }) E s) :
    wpAny (model prog w) A (raiseStmt env (some x) (some c)) Q E s := by
  unfold raiseStmt
  dsimp only
  refine wpAny_bind (wpAny_mono h (fun v s₁ h₁ => ?_) fun _ _ x => x)
  obtain ⟨a, oe, vs, cls, rfl, ha, hcls, hd, h1, hi, hne, hot, L1, L3, ⟨o1, cls1, ho1, hcls1, L1c⟩, hcs, hE⟩ := h₁
  have LT : PySem.W.Looks (model prog w) s₁.heap (typeOf (.ref a)) cls := fun A Q E s k q => wpAny_typeOf_ref (k _ _ ha) (by rw [hcls]; exact q)
  have LI : PySem.W.Looks (model prog w) s₁.heap (isInstance (.ref a) (.type "BaseException")) true := LT.andThen L1
  have LTc : PySem.W.Looks (model prog w) s₁.heap (typeOf (.ref x1)) cls1 := fun A Q E s k q => wpAny_typeOf_ref (k _ _ ho1) (by rw [hcls1]; exact q)
  have LIc : PySem.W.Looks (model prog w) s₁.heap (isInstance (.ref x1) (.type "BaseException")) true := LTc.andThen L1c
  have hnt : ∀ {Q' : Bool → Shared → Prop}, Q' false s₁ → wpAny (model prog w) A (isType (.ref a)) Q' E s₁ := by
    intro Q' hq
    simp only [isType, loadHead]
    refine wpAny_bind (wpAny_loadPart ha ?_)
    rw [hd]; exact wpAny_pure hq
  have hntc : ∀ {Q' : Bool → Shared → Prop}, Q' false s₁ → wpAny (model prog w) A (isType (.ref x1)) Q' E s₁ := by
    intro Q' hq
    obtain ⟨_, o, vs', q2, q3, _⟩ := hot
    simp only [isType, loadHead]
    refine wpAny_bind (wpAny_loadPart q2 ?_)
    rw [q3]; exact wpAny_pure hq
  have hd3 := Obj.data_mapFields hd (·.setIfInBounds 3 (.ref x1))
  have ha3 := Heap.get?_update_self (Obj.mapFields (·.setIfInBounds 3 (.ref x1))) ha (Obj.isFreed_of_fields hd3)
  obtain ⟨ha4, hd4⟩ := causeFrom_at (x1 := x1) ha hd
  have s3 : 3 < vs.size := by omega
  have s4 : 4 < (vs.setIfInBounds 3 (Value.ref x1)).size := by rw [set_size]; exact hi
  have s2 : 2 < ((vs.setIfInBounds 3 (Value.ref x1)).setIfInBounds 4 (Value.bool true)).size := by rw [set_size, set_size]; omega
  have h14 : ((vs.setIfInBounds 3 (Value.ref x1)).setIfInBounds 4 (Value.bool true))[1]? = some Value.none := set_other (by decide) (set_other (by decide) h1)
  have hcls4 : ((oe.mapFields (·.setIfInBounds 3 (.ref x1))).mapFields (·.setIfInBounds 4 (.bool true))).cls = cls := by rw [Obj.cls_mapFields, Obj.cls_mapFields]; exact hcls
  have LT4 : PySem.W.Looks (model prog w) (causeFrom s₁.heap a x1) (typeOf (.ref a)) cls := fun A Q E s k q => wpAny_typeOf_ref (k _ _ ha4) (by rw [hcls4]; exact q)
  have hnt4 : ∀ {Q' : Bool → Shared → Prop}, Q' false { s₁ with heap := causeFrom s₁.heap a x1 } → wpAny (model prog w) A (isType (.ref a)) Q' E { s₁ with heap := causeFrom s₁.heap a x1 } := by
    intro Q' hq
    simp only [isType, loadHead]
    refine wpAny_bind (wpAny_loadPart ha4 ?_)
    rw [hd4]; exact wpAny_pure hq
  have hot4 : HotAt A x1 (causeFrom s₁.heap a x1) := by
    obtain ⟨q1, o, vs', q2, q3, q4⟩ := hot
    exact ⟨q1, o, vs', by rw [causeFrom_other (Ne.symm hne)]; exact q2, q3, q4⟩
  have rest : wpAny (model prog w) A (do
      let b ← isType (.ref a)
      if b = true then do
        let e ← holding [.ref a] (raisedFor (.ref a) (.ref a))
        setFlight e none
        raiseNew e
      else do
        let e ← raisedInstance (.ref a)
        setFlight e none
        raiseNew e : Sem Flow) Q E { s₁ with heap := causeFrom s₁.heap a x1 } := by
    refine wpAny_bind (hnt4 ?_)
    simp only [Bool.false_eq_true, if_false]
    unfold raisedInstance
    refine wpAny_bind (wpAny_bind (LT4.here (wpAny_bind (L3.here ?_))))
    rw [if_pos (beq_self_eq_true _)]
    refine wpAny_pure ?_
    unfold setFlight
    refine wpAny_bind (wpAny_bind (wpAny_field ha4 hd4 h14 ?_))
    rw [if_neg (by decide)]
    refine wpAny_pure ?_
    exact raiseNew_hot hot4 hne ha4 hd4 s2 hE
  refine wpAny_bind (wpAny_holding (hcs _ (wpAny_bind (wpAny_pure ?_))))
  dsimp only
  refine wpAny_bind (wpAny_holding ?_)
  unfold excFromValue isExcClass
  refine wpAny_bind (wpAny_bind (hnt ?_))
  simp only [Bool.false_eq_true, if_false]
  refine wpAny_pure ?_
  simp only [Bool.false_eq_true, if_false]
  refine wpAny_bind (LI.here ?_)
  simp only [if_true]
  refine wpAny_pure ?_
  have nn : ¬ (Value.ref x1 == Value.none) = true := by simp
  first
  | rw [if_neg nn]
  | (show wpAny _ _ (if (Value.ref x1 == Value.none) = true then _ else _) _ _ _; rw [if_neg nn])
  | simp only [nn, if_false]
  refine wpAny_bind (wpAny_holding ?_)
  refine wpAny_bind (wpAny_bind (hntc ?_))
  simp only [Bool.false_eq_true, if_false]
  refine wpAny_pure ?_
  simp only [Bool.false_eq_true, if_false]
  refine wpAny_bind (LIc.here ?_)
  simp only [if_true]
  refine wpAny_pure ?_
  refine wpAny_bind (wpAny_setField ha hd s3 (wpAny_bind (wpAny_setField ha3 hd3 s4 ?_)))
  exact rest
/-- X('m'), its record told -/
theorem pmk5_own {X : Cx} {C : Addr} {bmB : List Value} {B newId initId : String} {x m : Str} {j : Nat} {p p2 pos : Pos} (F : ExcBaseFacts B newId initId bmB) (q : PySem.W.excIn X.K C bmB newId = true) (gC : X.mg x = some (.ref C)) (kC : PySem.W.keepIn X.K (.ref C) = true) (r : Raises X (.ref C)) (hg : Gl X x)
    (hdb : (x == ("__debug__" : Str)) = false := by decide) : PMk5 X (.Call (.Name x p) [.Constant (.str m) j p2] [] pos) (fun _ H Q => Q (.ref C) none H) := by
  intro pins s σ H Q I h
  refine wpAny_Call_Name_kw (ld_glob I hg gC ?_ hdb)
  have ha : PA X [.Constant (.str m) j p2] (tCons (tC (.str m)) tNil) := pa_cons pe_str pa_nil
  refine PySem.W.callWith_K (h₀ := X.base) I.ok.mod.kin kC (thn (ha.run pos pins s σ H (fun vs H1 => vs = [V.str m] ∧ H = H1) I ⟨rfl, rfl⟩) fun us s1 hh => ?_)
  obtain ⟨vs, H1, I1, r1, ev, eH⟩ := hh
  subst ev
  rw [← eH] at I1
  refine ⟨I1.kIn, ?_⟩
  cases r1 with
  | cons ru rn =>
    rename_i u us'
    cases rn
    show wpAny _ _ (call (.ref C) [u]) _ _ _
    obtain ⟨bm, N, nm, qn, bs, hdct, sn, sub, ab, col, dd, k0, k1, k2, k3, k5, mN, hC, hN, hni, T⟩ := exc_obj I1.kIn q
    refine wpAny_call_exc_subT F T hC hN hni (fun h' e hm => ?_) (by show 1 ≤ sizeLine; rw [sizeLine_eq]; omega)
    exact mk_of5 I1 hm r h (I1.hok.gone hm.new)
/-- a name's object is changed: n is unbound -/
theorem Inv.gone {X : Cx} {pins : List (Addr × Obj)} {σ : L2.St} {H : Hp} {s : Shared} {h' : Heap} {i : Nat} {n : Str} {m : Str → Option Value} {v : Option Value} (I : Inv X pins σ H s) (hN : X.N.Nodup) (hi : X.N[i]? = some n)
    (hlk : ∀ (i : Nat) (x : Str) (v : V), X.N[i]? = some x → σ[i]? = some (some v) → Vis X.env.scope x → ∃ u, RelV v u ∧ Look X.env s.heap m x u)
    (hn' : h'.Ns X.env.locals (fun x => if x = n then v else m x)) (hs : Heap.SameBut X.env.locals s.heap h') : Inv X pins (σ.set i none) H { s with heap := h' } := by
  have neL : ∀ b o, X.s_0.heap.get? b = some o → b ≠ X.env.locals := fun b o e => Nat.ne_of_lt (Nat.lt_of_lt_of_le (Heap.lt_size e) I.ok.above)
  refine ⟨I.ok, I.os, I.bare, ⟨fun b o e n hb hx => ?_, fun b o e n hb hx => ?_, I.base.free, fun b o e hx => ?_, I.base.tups, I.base.frzs, I.base.tbls⟩, ⟨_, hn', fun j y v' e1 e2 e3 => ?_⟩, fun y c e => ?_, I.free, I.freeC, fun p hp => ?_, fun b ob e => ?_, by simpa using I.len⟩
  · exact (hs.2 b (neL b o e)).trans (I.base.keep b o e n hb hx)
  · obtain ⟨sl, e1⟩ := I.base.slot b o e n hb hx
    exact ⟨sl, (hs.2 b (neL b o e)).trans e1⟩
  · obtain ⟨o', e1⟩ := I.base.there b o e hx
    exact ⟨o', (hs.2 b (neL b o e)).trans e1⟩
  · by_cases hj : j = i
    · subst hj
      by_cases hlt : j < σ.length
      · rw [List.getElem?_set_self hlt] at e2; cases e2
      · rw [List.getElem?_eq_none (by simpa using hlt)] at e2; cases e2
    · rw [List.getElem?_set_ne (Ne.symm hj)] at e2
      obtain ⟨u', r', q⟩ := hlk j y v' e1 e2 e3
      refine ⟨u', r', ?_⟩
      rcases q with ⟨k, e⟩ | ⟨k, c, e, z⟩
      · have ny : y ≠ n := fun e => hj (nodup_ix hN e1 (e ▸ hi))
        exact .inl ⟨k, (if_neg ny).trans e⟩
      · exact .inr ⟨k, c, e, z.sameBut hs (I.cne y c e)⟩
  · obtain ⟨w', z⟩ := I.cell y c e
    exact ⟨w', z.sameBut hs (I.cne y c e)⟩
  · obtain ⟨e, n, ne, nf, d⟩ := I.pin p hp
    exact ⟨(hs.2 p.1 ne).trans e, n, ne, nf, d⟩
  · refine (I.hok b ob e).stay (fun c w' hc q => (hs.2 c ?_).trans q) (fun _ q => q) fun _ _ q => q
    intro z
    subst z
    rcases hc with hc | hc
    · rw [← hc, I.free] at e; cases e
    · rw [I.free] at hc; cases hc
theorem ff_keeps {h h' base : Heap} (k : ∀ b o, h.get? b = some o → (∀ vs, o.data ≠ .fields vs) → ∃ o', h'.get? b = some o' ∧ ∀ vs, o'.data ≠ .fields vs) : ∀ {l : List Env}, h.FunFrames base l → h'.FunFrames base l
  | [], _ => trivial
  | env :: rest, hl => by
    obtain ⟨hk, ⟨L, o, hf, hn, ho, hd⟩, hr⟩ := hl
    obtain ⟨o', ho', hd'⟩ := k L o ho hd
    exact ⟨hk, ⟨L, o', hf, hn, ho', hd'⟩, ff_keeps k hr⟩
/-- a held exception, n unbound behind it -/
theorem XE.unbound {X : Cx} {W : WX} {a i : Nat} {n : Str} {B : Heap} {sI s5 : Shared} {pins : List (Addr × Obj)} {σ : L2.St} {H : Hp} {cls : Value} {d : Option Addr} {M : Model} {A : Around} {E₁ : Value → Shared → Prop} {pos : Pos} {Q : Unit → Shared → Prop}
    (hs : X.stack = X.env :: X.outer) (hf : X.env.frame = some X.env.locals) (hN : X.N.Nodup) (hi : X.N[i]? = some n) (hln : X.env.kindOf n = some .local)
    (I : Inv X pins σ H sI) (nb : ∀ b o, sI.heap.get? b = some o → b ∉ frs X.stack → B.get? b = some o) (up : sI.heap.UpToSlots s5.heap) (hh : HandSPX.HeldZ B (X.env :: X.outer) a (Zc cls d) X.env.locals s5.heap)
    (q : ∀ (sI' : Shared) (h6 : Heap), Inv X pins (σ.set i none) H sI' → (∀ b o, sI'.heap.get? b = some o → b ∉ frs X.stack → B.get? b = some o) → sI'.heap.UpToSlots h6 → HandSPX.HeldZ B (X.env :: X.outer) a (Zc cls d) X.env.locals h6 → sI'.os = sI.os → Q () { s5 with heap := h6, toks := s5.toks + 1 }) :
    wpAny M A (do bindName X.env n .none; unbindBehindTheSuite X.env n pos) Q E₁ s5 := by
  obtain ⟨m, ⟨oL, es, ep, hoL, hdL, rL⟩, hlk⟩ := id I.loc
  have hcls : (X.env.scope.kind == .class || (X.env.scope.kind == .module && X.env.locals != X.env.globals)) = false := by rw [I.ok.kind]; rfl
  have nfL : ∀ vs, oL.data ≠ .fields vs := fun vs z => by rw [hdL] at z; cases z
  obtain ⟨sl, hL5⟩ := up _ _ hoL nfL
  have inL : X.env.locals ∈ frs X.stack := by rw [hs]; exact List.mem_filterMap.mpr ⟨X.env, List.mem_cons_self, hf⟩
  refine wpAny_nameGoes_keeps hln (m := m) ⟨_, es, ep, hL5, hdL, rL⟩ hcls fun h6 v hn6 hs6 => ?_
  obtain ⟨o6, es6, ep6, ho6, hd6, r6⟩ := id hn6
  have hfree : o6.isFreed = false := (Heap.get?_some_iff.mp ho6).2
  have up6 := Heap.get?_update_self (fun _ => o6) hoL hfree
  have sb : Heap.SameBut X.env.locals sI.heap (sI.heap.update X.env.locals fun _ => o6) := Heap.SameBut.update _ _ _
  have I6 := Inv.gone (h' := sI.heap.update X.env.locals fun _ => o6) (v := v) I hN hi hlk ⟨o6, es6, ep6, up6, hd6, r6⟩ sb
  obtain ⟨k1, k2, k3, oe, vs, T, oT, ts, he, hz, hd, h1, hnT, hTe, hT, hdT, h3⟩ := hh
  have nfr : ∀ {b : Addr} {o : Obj}, b ∈ frs X.stack → s5.heap.get? b = some o → ∀ vs, o.data ≠ .fields vs := fun {b o} hb e vs z => by
    rw [hs] at hb
    obtain ⟨_, o', e', hnf⟩ := k3.mem hb
    rw [e] at e'
    cases e'
    exact hnf _ z
  have aL : a ≠ X.env.locals := fun z => nfr (z ▸ inL) he _ hd
  have tL : T ≠ X.env.locals := fun z => nfr (z ▸ inL) hT _ hdT
  refine q _ h6 I6 (fun b o e hb => ?_) (fun b o e hn => ?_) ⟨fun b o e => ?_, k2, ff_keeps (fun b o e hn => ?_) k3, oe, vs, T, oT, ts, (hs6.2 _ aL).trans he, hz, hd, h1, hnT, hTe, (hs6.2 _ tL).trans hT, hdT, h3⟩ rfl
  · have bL : b ≠ X.env.locals := fun z => hb (z ▸ inL)
    rw [show (sI.heap.update X.env.locals fun _ => o6).get? b = sI.heap.get? b from sb.2 b bL] at e
    exact nb b o e hb
  · by_cases bL : b = X.env.locals
    · subst bL
      rw [show ({ sI with heap := sI.heap.update X.env.locals fun _ => o6 } : Shared).heap.get? X.env.locals = some o6 from up6] at e
      cases e
      exact ⟨o6.slots, ho6⟩
    · rw [show ({ sI with heap := sI.heap.update X.env.locals fun _ => o6 } : Shared).heap.get? b = sI.heap.get? b from sb.2 b bL] at e
      obtain ⟨sl, z⟩ := up b o e hn
      exact ⟨sl, (hs6.2 b bL).trans z⟩
  · have bL : b ≠ X.env.locals := fun z => by
      subst z
      rw [hs] at inL
      rw [(k3.mem inL).1] at e
      cases e
    exact (hs6.2 b bL).trans (k1 b o e)
  · by_cases bL : b = X.env.locals
    · subst bL
      exact ⟨o6, ho6, fun vs z => by rw [hd6] at z; cases z⟩
    · exact ⟨o, (hs6.2 b bL).trans e, hn⟩
/-- what the clause 'except x as n: raise e from n' wishes of an exception of the body -/
def wFrom (X : Cx) (c : Value) (i : Nat) (t : L2.St → Hp → XK → Prop) (Wout : WX) : WX := fun cls d σ H =>
  PySem.W.exmOne X.K cls c = some true ∧ Raises X cls ∧ ∀ a, H a = none → t (σ.set i (some (.ref a))) H fun cls' d' H' => Wout cls' d' ((σ.set i (some (.ref a))).set i none) H'
def tTryFrom (X : Cx) (c : Value) (i : Nat) (t : L2.St → Hp → XK → Prop) (Wout : WX) (tb : WX → TS) : TS := fun D σ H => tb (wFrom X c i t Wout) D σ H
theorem ps_try_from {X : Cx} {x n : Str} {c : Value} {i : Nat} {body : List Stmt} {e : Expr} {np np2 rpos pos pos' : Pos} {tb : WX → TS} {t : L2.St → Hp → XK → Prop} {Wout : WX}
    (hs : X.stack = X.env :: X.outer) (hf : X.env.frame = some X.env.locals) (hN : X.N.Nodup) (hi : X.N[i]? = some n) (hln : X.env.kindOf n = some .local) (hdn : (n == ("__debug__" : Str)) = false) (hc : Names X x c)
    (hpa : ∀ hd : Option Value, PassesOwnAt (model X.prog X.w) (X.A.mark hd) X.A X.env X.xe) (tk : L2.Takes X Wout)
    (hb : ∀ (W : WX) (pn : List (Addr × Obj)) (xe : Value → Shared → Prop), L2N.Takes (X.tr pn xe) W → PassesOwn (model X.prog X.w) X.A X.env xe → PSs (X.tr pn xe) body (tb W))
    (he : ∀ (a : Addr) (pn : List (Addr × Obj)) (xe : Value → Shared → Prop), PMk5 ({ suiteX X a pn with xe := xe } : Cx) e t) :
    PS X (.Try body [.ExceptHandler (some (.Name x np)) (some n) [.Raise (some e) (some (.Name n np2)) rpos] pos'] [] [] pos) (tTryFrom X c i t Wout tb) := by
  refine ⟨fun pins s σ H D I h => ?_⟩
  have ok := I.ok
  have hfr : X.A.frames = some (X.env :: X.outer) := by rw [ok.frames, hs]
  have hloc : Loc X.env.scope n := .inl hln
  refine wpAny_Try_except ?_
  refine wpAny_mono ((hb (wFrom X c i t Wout) (X.pn ++ pins) (fun e2 s₁ => wpAny (model X.prog X.w) X.A (noteFrame e2 X.env) (fun _ s₂ => wpAny (model X.prog X.w) X.A (setFlight e2 none) (fun _ s₃ =>
    wpAny (model X.prog X.w) X.A (handleBy e2 X.env [.ExceptHandler (some (.Name x np)) (some n) [.Raise (some e) (some (.Name n np2)) rpos] pos']) (SP X pins D) X.xe s₃) X.xe s₂) X.xe s₁) (fun u s' xx => ?_) PassesOwn.looking).run [] s σ H D (I.toTry _) h) (fun f s1 hsp => ?_) (fun e s1 he => he)
  · obtain ⟨a, B, sI, pins', σ', H', cls, d, rfl, J', nb, up, sky, na, os, ag, hb1, hrs, hyes⟩ := xx
    have J : Inv X pins σ' H' sI := J'.ofTry ok
    have sky' : Sky B (X.env :: X.outer) a (L2N.Zn cls d) X.env.locals s'.heap := by rw [← hs]; exact sky
    show wpAny (model X.prog X.w) X.A (noteFrame (.ref a) X.env) _ _ _
    refine L2N.Sky.land L2N.Zn.steady hfr hf sky' fun h3 fl3 up3 => ?_
    have J3 : Inv X pins σ' H' { s' with heap := h3 } := J.landed nb fl3.1 (up.trans up3) os ag
    obtain ⟨oe3, vs3, he3, hz3, hd3⟩ := fl3.there
    have notFr : ∀ {h : Heap} {o : Obj} {vs : Array Value}, h.FunFrames B (X.env :: X.outer) → h.get? a = some o → o.data = .fields vs → a ∉ frs (X.env :: X.outer) := fun {h o vs} ff e dd hm => by
      obtain ⟨_, o', e', hnf⟩ := ff.mem hm
      rw [e] at e'; cases e'
      exact hnf _ dd
    have nfr := notFr fl3.2.2.1 he3 hd3
    have nL : a ≠ X.env.locals := fun z => nfr (List.mem_filterMap.mpr ⟨X.env, List.mem_cons_self, by rw [hf, z]⟩)
    have nF : a ∉ X.fs := fun hm => by
      obtain ⟨e, he, q⟩ := List.mem_filterMap.mp hm
      exact nfr (List.mem_filterMap.mpr ⟨e, List.mem_cons_of_mem _ he, q⟩)
    have S3 := J3.suite he3 hd3 na nL nF
    refine wpAny_handleBy_cons (codeAny_handlers_test ?_) (by intro q; cases q)
    have LT : PySem.W.Looks (model X.prog X.w) h3 (typeOf (.ref a)) cls := fun A Q E s k q => wpAny_typeOf_ref (k _ _ he3) (by rw [hz3.1]; exact q)
    have LM := PySem.W.exm_one (M := model X.prog X.w) (J3.kIn) LT hb1
    have test : ∀ {Q : Value → Shared → Prop} {E : Value → Shared → Prop}, Q c { s' with heap := h3 } → wpAny (model X.prog X.w) (X.A.mark (some (.ref a))) (eval (.Name x np) X.env) Q E { s' with heap := h3 } := fun {Q E} q => by
      obtain ⟨hg, hdbg, hm | ⟨hm, hv, hnn⟩⟩ := hc
      · exact ld_glob (X := X.suite a ((a, oe3) :: (X.pn ++ pins))) S3 hg hm q hdbg
      · exact ld_blt (X := X.suite a ((a, oe3) :: (X.pn ++ pins))) S3 hg hm hv q hnn hdbg
    refine test (LM.here ?_)
    refine codeAny_handlers_suite_as ?_
    refine HandSPX.lands_againZ fl3 fun h4 fl4 up4 => ?_
    have J4 : Inv X pins σ' H' { s' with heap := h4 } := J.landed nb fl4.1 ((up.trans up3).trans up4) os ag
    obtain ⟨oe4, vs4, he4, hz4, hd4⟩ := fl4.there
    have S4 := J4.suite he4 hd4 na nL nF
    refine store_ok (X := X.suite a ((a, oe4) :: (X.pn ++ pins))) (v := .ref a) S4 hN hi hloc rfl (fun s5 S5 => ?_) (.inr hln)
    -- the raise
    let Wr : WX := fun cls' d' σ2 H2 => Wout cls' d' (σ2.set i none) H2
    have S5' : Inv ({ suiteX X a ((a, oe4) :: (X.pn ++ pins)) with xe := fun u s2 => L2.XE X Wr u s2 } : Cx) [] (σ'.set i (some (.ref a))) H' s5 := Inv.wish (X := suiteX X a ((a, oe4) :: (X.pn ++ pins))) (suiteX_of S5) _
    have run : wpAny (model X.prog X.w) (X.A.mark (some (.ref a))) (execs [.Raise (some e) (some (.Name n np2)) rpos] X.env) (fun _ _ => False) (fun u s2 => L2.XE X Wr u s2) s5 := by
      refine wpAny_execs_cons ?_
      show wpAny _ _ (do standAt rpos; raiseStmt X.env (some (do let v ← eval e X.env; standAt rpos; pure v)) (some (do let v ← eval (.Name n np2) X.env; standAt rpos; pure v))) _ _ _
      refine wpAny_bind (wpAny_standAt (raise_made_hotF (x1 := a) (wpAny_bind (wpAny_mono (he a ((a, oe4) :: (X.pn ++ pins)) (fun u s2 => L2.XE X Wr u s2) [] s5 _ H' _ S5' (hyes a na)) (fun u s6 hu => wpAny_bind (wpAny_standAt (wpAny_pure ?_))) fun _ _ z => z))))
      obtain ⟨⟨a2, oe, vs, sJ, H2, cls2, d2, rfl, K1, k, hne, ha, hz, hd, h1, na2, os2, ag2, r, q⟩, h5⟩ := hu
      have hi5 : 4 < vs.size := h5 a2 oe vs rfl ha hd
      have k4 : ∀ b u, sJ.heap.get? b = some u → (causeFrom s6.heap a2 a).get? b = some u := fun b u z => by
        have nab : a2 ≠ b := fun y => by
          rw [← y, hne] at z
          cases z
        rw [causeFrom_other nab]
        exact k b u z
      obtain ⟨r1, _⟩ := r (model X.prog X.w) s6.heap (K1.kIn.keeps k)
      obtain ⟨_, r2⟩ := r (model X.prog X.w) (causeFrom s6.heap a2 a) (K1.kIn.keeps k4)
      obtain ⟨rc, _⟩ := hrs (model X.prog X.w) s6.heap (K1.kIn.keeps k)
      have P1 := (K1.pin (a, oe4) (List.mem_append_left _ List.mem_cons_self)).1
      have nap : a ≠ a2 := fun z => by
        rw [← z, P1] at hne
        cases hne
      obtain ⟨ha4, hd4'⟩ := causeFrom_at (x1 := a) ha hd
      have h12 : (((vs.setIfInBounds 3 (Value.ref a)).setIfInBounds 4 (Value.bool true)).setIfInBounds 2 (Value.ref a))[1]? = some Value.none := set_other (by decide) (set_other (by decide) (set_other (by decide) h1))
      have I6 := K1.landed (B := sJ.heap) (s' := s6) (fun b o e _ => e) k (.of_keeps k) os2 ag2
      obtain ⟨m, hn, hlk⟩ := id I6.loc
      have hlt : i < σ'.length := by
        have e1 := J.len
        have e2 := (List.getElem?_eq_some_iff.mp hi).1
        omega
      obtain ⟨u1, ru1, hlook⟩ := hlk i n (.ref a) hi (List.getElem?_set_self hlt) (.inl hln)
      have eu : u1 = .ref a := ru1
      subst eu
      have hm : m n = some (.ref a) := by
        rcases hlook with ⟨_, z⟩ | ⟨z, _⟩
        · exact z
        · have hln' : X.env.kindOf n = some .local := hln
          rcases z with z | z
          · rw [show X.env.kindOf n = some .cell from z] at hln'
            cases hln'
          · rw [show X.env.kindOf n = some .free from z] at hln'
            cases hln'
      have KX : Inv X pins (σ'.set i (some (.ref a))) H2 sJ := unsuiteX (Inv.unwish (X := suiteX X a ((a, oe4) :: (X.pn ++ pins))) K1) ok
      refine ⟨a2, oe, vs, cls2, rfl, ha, hz.1, hd, h1, hi5, nap, ⟨rfl, oe4, vs4, k _ _ P1, hd4, hz4.2.2 vs4 hd4⟩, r1, r2, ⟨oe4, cls, k _ _ P1, hz4.1, rc⟩, fun Q' q' => ?_, L2.XE.new KX (fun b u z => ?_) hne (Heap.get?_update_self _ ha4 (Obj.isFreed_of_fields (Obj.data_mapFields hd4' _)))
        ⟨by rw [Obj.cls_mapFields, Obj.cls_mapFields, Obj.cls_mapFields]; exact hz.1, by rw [HandSPX.dict_mapFields, HandSPX.dict_mapFields, HandSPX.dict_mapFields]; exact hz.2.1⟩ (Obj.data_mapFields hd4' _) h12 na2 os2 ag2 q⟩
      · exact wpAny_bind (wpAny_Name (wpAny_loadName_local ok.kind hln hn hm (wpAny_bind (wpAny_standAt (wpAny_pure q')))) hdn)
      · have nab : a2 ≠ b := fun y => by
          rw [← y, hne] at z
          cases z
        show ((causeFrom s6.heap a2 a).update a2 (Obj.mapFields (·.setIfInBounds 2 (.ref a)))).get? b = some u
        rw [Heap.get?_update_other _ _ nab]
        exact k4 b u z
    refine wpAny_mono run (fun f s6 hf => hf.elim) (fun u s6 xe => ?_)
    obtain ⟨a2, B2, sI2, pins2, σ2, H2, cls2, d2, rfl, I2, nb2, up2, sky2, na2, os2, ag2, w2⟩ := xe
    rw [hs] at sky2
    have fin : ∀ h5, HandSPX.HeldZ B2 (X.env :: X.outer) a2 (Zc cls2 d2) X.env.locals h5 → s6.heap.UpToSlots h5 →
        wpAny (model X.prog X.w) (X.A.mark (some (.ref a))) (do bindName X.env n .none; unbindBehindTheSuite X.env n pos')
          (fun _ s₄ => wpAny (model X.prog X.w) (X.A.mark (some (.ref a))) (passOn "try.except-as" (.ref a2) X.env : Sem Flow) (fun _ _ => False) (notedBy (model X.prog X.w) (X.A.mark (some (.ref a))) X.env (cameBackBy (model X.prog X.w) X.A X.env X.xe)) s₄)
          (fun y s₄ => wpAny (model X.prog X.w) (X.A.mark (some (.ref a))) (setFlight (.ref a2) none) (fun _ s₅ => (notedBy (model X.prog X.w) (X.A.mark (some (.ref a))) X.env (cameBackBy (model X.prog X.w) X.A X.env X.xe)) y s₅) (notedBy (model X.prog X.w) (X.A.mark (some (.ref a))) X.env (cameBackBy (model X.prog X.w) X.A X.env X.xe)) s₄) { s6 with heap := h5 } := fun h5 hh up5 => by
      refine XE.unbound (W := Wout) hs hf hN hi hln I2 nb2 (up2.trans up5) hh fun sI' h6 I6 nb6 up6 hh6 os6 => ?_
      obtain ⟨_, _, _, oe, vs, T, oT, ts', he', hz, hd, h1, hr⟩ := id hh6
      unfold PySem.passOn
      refine wpAny_bind (wpAny_field he' hd h1 ?_)
      rw [if_neg (show ¬ ((Value.ref T == Value.none) = true) from by simp)]
      have fin2 : wpAny (model X.prog X.w) (X.A.mark (some (.ref a))) (setFlight (.ref a2) X.env.frame) (fun _ s4 => wpAny (model X.prog X.w) (X.A.mark (some (.ref a))) (throw (.ref a2) : Sem Flow) (fun _ _ => False) (notedBy (model X.prog X.w) (X.A.mark (some (.ref a))) X.env (cameBackBy (model X.prog X.w) X.A X.env X.xe)) s4) (notedBy (model X.prog X.w) (X.A.mark (some (.ref a))) X.env (cameBackBy (model X.prog X.w) X.A X.env X.xe)) { s6 with heap := h6, toks := s6.toks + 1 } := by
        rw [hf]
        refine HandSPX.setFlight_onZ hh6 fun h7 hh7 up7 => wpAny_throw (hpa (some (.ref a)) _ _ (tk _ _ ?_))
        exact ⟨a2, B2, sI', pins2, σ2.set i none, H2, cls2, d2, rfl, I6, nb6, up6.trans up7, .inr (.inr (by rw [hs]; exact hh7)), na2, os2.trans os6.symm, ag2, w2⟩
      first
        | exact wpAny_bind (wpAny_pure (wpAny_bind fin2))
        | exact wpAny_bind fin2
    have hfr2 : (X.A.mark (some (.ref a))).frames = some (X.env :: X.outer) := hfr
    rcases sky2 with ⟨hB, hn, hl, oe, vs, he', hz, hd, h1⟩ | fl | hh
    · exact HandSPX.look_newZ Zc.steady hfr2 hl hf he' hB hn hd h1 hz fin
    · exact HandSPX.looks_onZ Zc.steady hfr2 hf fl fin
    · exact HandSPX.againZ hf hh.2.2.2 (fin s6.heap hh (Heap.UpToSlots.refl _))
  · cases f with
    | next =>
      obtain ⟨σ', H', J', q⟩ := hsp
      exact wpAny_execs_nil ⟨σ', H', J'.ofTry ok, q⟩
    | brk =>
      obtain ⟨σ', H', J', q⟩ := hsp
      exact ⟨σ', H', J'.ofTry ok, q⟩
    | cont =>
      obtain ⟨σ', H', J', q⟩ := hsp
      exact ⟨σ', H', J'.ofTry ok, q⟩
    | ret u =>
      obtain ⟨v, σ', H', J', r, q⟩ := hsp
      exact ⟨v, σ', H', J'.ofTry ok, r, q⟩
end L3
set_option Elab.async false
set_option linter.all false
set_option maxRecDepth 100000
set_option maxHeartbeats 4000000
namespace L3
open PySem PySem.Spec PyProof.Rows L2
def rNeE (K : PySem.W.Frag) : R2 := fun x y H Q => ∃ (a b : Addr) (xs : List V), x = .ref a ∧ y = .ref b ∧ SqL K H a xs ∧ SqL K H b [] ∧ Q (.bl (!xs.isEmpty)) H
theorem op_neE {X : Cx} (hu : X.A.units + 64 < cLine) : OpR X (compareOp .NotEq) (rNeE X.K) := by
  intro pins s σ H x y v u Q I rx ry h
  obtain ⟨a, b, xs, rfl, rfl, ha, hb, q⟩ := h
  cases (show v = Value.ref a from rx)
  cases (show u = Value.ref b from ry)
  obtain ⟨us, r1, p1, _⟩ := I.list ha
  obtain ⟨ws, r2, p2, _⟩ := I.list hb
  cases r2
  cases r1 with
  | nil =>
    refine SeqAt.RcNeAt.lists (A := X.A) (e := fun _ => true) p1.isList p2.isList rfl (by omega) (fun j h1 h2 => absurd h1 (Nat.not_lt_zero _)) X.prog X.w _ _ ?_
    exact ⟨.bl false, H, I, rfl, q⟩
  | cons z r =>
    refine SeqAt.RcNeAt.lists_lengths (A := X.A) p1.isList p2.isList rfl (by omega) X.prog X.w _ _ ?_
    exact ⟨.bl true, H, I, rfl, q⟩
/-- o.m(e, ..) of a built-in type, the written part named -/
theorem pe_bmK {X : Cx} (K : PySem.W.Frag) {T id : String} {name : Str} {r : V → List V → Hp → VK → Prop} {o e : Expr} {es : List Expr} {to : TE} {t : TA} {apos cpos : Pos} (pa : PlainAttrs T) (slot : Slot T name id) (hty : typeOf (.builtin id) = pure (.type "method_descriptor")) (hm : MtR X id r) (ho : PE X o to) (ha : PA X (e :: es) t)
    (hK : X.K = K := by rfl)
    (hbase : attributeBase o name X.env (eval o X.env) = eval o X.env := by rfl)
    (hfew : ((backTo cpos (starEach (e :: es) X.env)).all (fun x => !x.1) && (backToKw cpos (keywordEach [] X.env)).all (fun x => x.1.isSome)
      && decide ((e :: es).length + ([] : List Keyword).length + (if ([] : List Keyword).isEmpty then 0 else 1) < 30)) = true := by rfl)
    (hline : (apos.endLine == cpos.line) = true := by rfl) (hs : starEach (e :: es) X.env = (false, eval e X.env) :: starEach es X.env := by rfl) (hplain : (backTo cpos (starEach es X.env)).any (·.1) = false := by rfl) :
    PE X (.Call (.Attribute o name apos) (e :: es) [] cpos) (tBM K T r to t) := hK ▸ pe_bm pa slot hty hm ho ha hbase hfew hline hs hplain
end L3
set_option Elab.async false
set_option linter.all false
set_option maxRecDepth 100000
set_option maxHeartbeats 4000000
namespace L3
open PySem PySem.Spec PyProof.Rows L2
def Stays (H H' : Hp) (x : V) : Prop := ∀ a o, x = .ref a → H a = some o → H' a = some o
theorem tyOf_at {K : PySem.W.Frag} {H H' : Hp} {x : V} {t : Value} (e : Stays H H' x) (h : TyOf K H x t) : TyOf K H' x t := by
  cases h with
  | non => exact .non
  | bl x => exact .bl x
  | int i => exact .int i
  | str x => exact .str x
  | flt x => exact .flt x
  | lst h => exact .lst (e _ _ rfl h)
  | frz h => exact .frz (e _ _ rfl h)
  | tup h => exact .tup (e _ _ rfl h)
  | dK h => exact .dK (e _ _ rfl h)
  | dT h => exact .dT (e _ _ rfl h)
  | ins h cl ha hn htk hm => exact .ins (e _ _ rfl h) cl ha hn htk hm
theorem tyX_at {K : PySem.W.Frag} {H H' : Hp} {x : V} {t : Value} (e : Stays H H' x) (h : TyX K H x t) : TyX K H' x t := by
  cases h with
  | base h => exact .base (tyOf_at e h)
  | byt b => exact .byt b
  | set h => exact .set (e _ _ rfl h)
  | kList h c => exact .kList h c
  | kTuple h c => exact .kTuple h c
  | kDict h c => exact .kDict h c
  | fTuple h => exact .fTuple (e _ _ rfl h)
  | fDict h => exact .fDict (e _ _ rfl h)
theorem Cl.at {K : PySem.W.Frag} {H H' : Hp} {x : V} (c : Cl K H x) (e : Stays H H' x) : Cl K H' x := let ⟨t, b, d, h1, h2⟩ := c; ⟨t, b, d, tyX_at e h1, h2⟩
end L3
set_option Elab.async false
set_option linter.all false
set_option maxRecDepth 100000
set_option maxHeartbeats 4000000
namespace L3
open PySem PySem.Spec PyProof.Rows L2
def obsA (as : List Addr) (xf : List Fx) (fn : List He.DefD) (g : Addr → Option Obj) : He.AlD := obsX xf fn (He.frG g as)
def hookA (as : List Addr) (xf : List Fx) (fn : List He.DefD) : PySem.W.Hook where
  α := He.AlD
  obs := fun s => obsA as xf fn s.heap.get?
  val := fun _ => He.valD fn
  says := fun _ h => ∃ K : PySem.W.Frag, K.In h ∧ SaysX xf fn K
  of := fun _ _ e => ⟨_, He.frG_in, e⟩
  keeps := fun _ _ _ ⟨K, hK, c⟩ k => ⟨K, PySem.W.Frag.In.keeps hK k, c⟩
theorem obsA_eq {as : List Addr} {xf : List Fx} {fn : List He.DefD} {g : Addr → Option Obj} {s : Shared} (h : ∀ a, g a = s.heap.get? a) : obsA as xf fn g = (hookA as xf fn).obs s := by
  have e : g = s.heap.get? := funext h
  rw [e] <;> rfl
end L3
noncomputable section
namespace HandSHeadRun
open PySem PySem.W PySem.Calls PyProof.Rows
abbrev endR (r : OpenRow) (M : Nat) (w : World) (os : OsState) : Option SharedT := endF (stepQ (denQ tabQ) r.prog w) M r.prog w os
/-- what the machine's own looks say behind the run -/
def RunA (r : OpenRow) (q : Program) (M : Nat) (loose : List PySem.Str) (w : World) : Prop :=
  ∀ os : OsState, (endR r M w os).map (fun s => (looksF r.prog (boot_heap w.params) s.abs, seenQ q loose (importedModules r.prog.main.body) (fun s => xlAt q [] s && recOk r.toRowW.records s) s.abs)) = some (true, openGood q loose)
/-- some facts of what stands behind the run -/
def RunB (r : OpenRow) (M : Nat) (fs : SharedT → Bool) (w : World) : Prop := ∀ os : OsState, (endR r M w os).map fs = some true
/-- the defs' own values -/
def RunC (r : OpenRow) (H : Hook) (ob : SharedT → H.α) (M : Nat) (w : World) : Prop := ∀ os : OsState, (endR r M w os).map ob = some (H.val w)
theorem runEq_of {r : OpenRow} {q : Program} {H : Hook} {ob : SharedT → H.α} {M : Nat} {loose : List PySem.Str} {w : World} (a : RunA r q M loose w) (c : RunC r H ob M w) : RunEq r q H ob M loose w := fun os => by
  have h1 := a os
  have h2 := c os
  show (endR r M w os).map _ = _
  cases e : endR r M w os with
  | none =>
    rw [e] at h1
    cases h1
  | some s =>
    rw [e] at h1 h2
    have g1 := Option.some.inj h1
    have g2 := Option.some.inj h2
    show some _ = some _
    rw [← g2]
    have e1 := congrArg Prod.fst g1
    have e2 := congrArg Prod.snd g1
    dsimp only at e1 e2 ⊢
    rw [e1, e2]
end HandSHeadRun
end
namespace L3
open PySem PySem.Spec PyProof.Rows L2 HandSHeadRun
/-- the facts in three parts: two of the Bools, one of the defs -/
theorem runC_of {r : PySem.W.OpenRow} {as : List Addr} {xf xf1 xf2 : List Fx} {fn : List He.DefD} {M : Nat} {w : World} (e : xf = xf1 ++ xf2)
    (a : RunB r M (fun s => xf1.all fun p => p (He.frG (getT s) as)) w) (b : RunB r M (fun s => xf2.all fun p => p (He.frG (getT s) as)) w)
    (c : ∀ os : OsState, (endR r M w os).map (fun s => (fn.all fun d => d.ok (He.frG (getT s) as), fn.map fun d => He.fnW (He.frG (getT s) as) d.at_)) = some (true, fn.map He.DefD.val)) :
    RunC r (hookA as xf fn) (fun s => obsA as xf fn (getT s)) M w := fun os => by
  have h1 := a os
  have h2 := b os
  have h3 := c os
  cases e2 : endR r M w os with
  | none =>
    rw [e2] at h1
    cases h1
  | some s =>
    rw [e2] at h1 h2 h3
    have g1 : (xf1.all fun p => p (He.frG (getT s) as)) = true := Option.some.inj h1
    have g2 : (xf2.all fun p => p (He.frG (getT s) as)) = true := Option.some.inj h2
    have g3 := Option.some.inj h3
    have e3 := congrArg Prod.fst g3
    have e4 := congrArg Prod.snd g3
    dsimp only at e3 e4
    show some (obsA as xf fn (getT s)) = some (He.valD fn)
    unfold obsA obsX He.valD
    rw [e, List.all_append, g1, g2, e3, e4]
    rfl
end L3
set_option Elab.async false
set_option linter.all false
set_option maxRecDepth 100000
set_option maxHeartbeats 4000000
namespace L3
open PySem PySem.Spec PyProof.Rows L2
end L3
namespace L3
open PySem PySem.Spec PyProof.Rows L2
/-- at a a list or a tuple of these -/
def SqS (K : PySem.W.Frag) (H : Hp) (a : Addr) (xs : List V) : Prop := SqL K H a xs ∨ SqT K H a xs
theorem SqS.at {K : PySem.W.Frag} {H H' : Hp} {a : Addr} {xs : List V} (h : SqS K H a xs) (e : Stays H H' (.ref a)) : SqS K H' a xs := by
  rcases h with ((h | ⟨o, h⟩) | h) | ((h | ⟨o, h⟩) | h)
  · exact .inl (.inl (.inl (e _ _ rfl h)))
  · exact .inl (.inl (.inr ⟨o, e _ _ rfl h⟩))
  · exact .inl (.inr h)
  · exact .inr (.inl (.inl (e _ _ rfl h)))
  · exact .inr (.inl (.inr ⟨o, e _ _ rfl h⟩))
  · exact .inr (.inr h)
theorem stays_ex {H H' : Hp} {x : V} (e : Ex H H') : Stays H H' x := fun a o _ h => e a o h
theorem SqS.mono {K : PySem.W.Frag} {H H' : Hp} {a : Addr} {xs : List V} (h : SqS K H a xs) (e : Ex H H') : SqS K H' a xs := h.at (stays_ex e)
end L3
set_option Elab.async false
set_option linter.all false
set_option maxRecDepth 100000
set_option maxHeartbeats 4000000
namespace L3
open PySem PySem.Spec PyProof.Rows L2
end L3
set_option Elab.async false
set_option linter.all false
set_option maxRecDepth 100000
set_option maxHeartbeats 4000000
namespace L3
open PySem PySem.Spec PySem.Calls PyProof.Rows
open L2
abbrev SpP := Addr × Obj → Sp
structure FbP (P : Program) (w : World) (K : PySem.W.Frag) (mg : Str → Option Value) (base : Heap) (k : Nat) (f : Addr) (fd : FuncData) (ps : List Str) (sp : SpP) : Prop where
  len : ∀ p vs H Q E, sp p vs H Q E → vs.length = ps.length
  run : ∀ (A : Around) (outer : List Env) (s : Shared) (H : Hp) (args : Args) (us : List Value) (vs : List V) (Q : VK) (E : XK) (p : Addr × Obj), L2H.RoomH k A → L2H.PinOk outer H s p → Env0 P w K mg base A outer s H → BindsTo s fd args (ps.zip us) → Vals vs us → sp p vs H Q E →
    codeAny (model P w) A (.call (.ref f) args) (CR (L2.CX P w) outer P w H s Q E) s
section
variable {P : Program} {w : World} {K : PySem.W.Frag} {mg : Str → Option Value} {base : Heap} {x qual : Str} {params : Arguments} {body : List Stmt} {scope : Scope} {dvs : List V} {kws : List (Str × V)} {f : Addr} {fd : FuncData} {k : Nat} {ps N : List Str} {sp : SpP}
/-- such a def called with all parameters by place -/
def FcP (P : Program) (w : World) (K : PySem.W.Frag) (mg : Str → Option Value) (base : Heap) (k : Nat) (f : Addr) (sp : SpP) : Prop :=
  ∀ (A : Around) (outer : List Env) (s : Shared) (H : Hp) (us : List Value) (vs : List V) (Q : VK) (E : XK) (p : Addr × Obj), L2H.RoomH k A → L2H.PinOk outer H s p → Env0 P w K mg base A outer s H → Vals vs us → sp p vs H Q E →
    codeAny (model P w) A (.call (.ref f) ⟨us, []⟩) (CR (L2.CX P w) outer P w H s Q E) s
theorem FcP.mono {j : Nat} (F : FcP P w K mg base j f sp) (h : j ≤ k) : FcP P w K mg base k f sp := fun A outer s H us vs Q E p hr => F A outer s H us vs Q E p (hr.mono h)
theorem FbP.all (F : FbP P w K mg base k f fd ps sp) (hb : Binds K fd ps []) : FcP P w K mg base k f sp := fun A outer s H us vs Q E p hr hp e0 r h => by
  have KX : K.In s.heap := e0.mod.kin.keeps fun b o e => (e0.bs b o e).1
  have l2 : us.length = ps.length := by rw [← r.length]; exact F.len _ _ _ _ _ h
  have b := hb s us KX (by rw [List.append_nil]; exact l2)
  rw [List.append_nil] at b
  exact F.run A outer s H ⟨us, []⟩ us vs Q E p hr hp e0 b r h
end
end L3
set_option Elab.async false
set_option linter.all false
set_option maxRecDepth 100000
set_option maxHeartbeats 4000000
namespace L3
open PySem PySem.Spec PyProof.Rows L2 PySem.SeqAt PySem.Calls
/-- a class without an == of its own -/
structure NoEq (K : PySem.W.Frag) (C : Addr) : Prop where
  nb : NoBase K C
  eq : PySem.W.findIn K (.ref C) "__eq__" = some (some (.builtin "object.__eq__"))
def noEqF (x : Str) : Fx := fun K => noBaseF x K && He.eqO (PySem.W.findIn K (.ref (He.ga K x)) "__eq__") (some (some (.builtin "object.__eq__")))
theorem noEq_of {x : Str} {K : PySem.W.Frag} (h : noEqF x K = true) : NoEq K (He.ga K x) := let ⟨h1, h2⟩ := He.ba h; ⟨noBase_of h1, He.eqO_ok h2⟩
section
variable {prog : Program} {w : World} {A : Around} {E : Value → Shared → Prop} {s : Shared} {K : PySem.W.Frag} {x C dx : Addr} {ox : Obj} {od : Option Obj} {v : Value}
/-- isSame answers False -/
abbrev NSame (s : Shared) (u v : Value) : Prop := ∀ (M : Model) (A : Around) (E : Value → Shared → Prop) (Q : Bool → Shared → Prop), Q false s → wpAny M A (isSame u v) Q E s
theorem objEq_no {Q : Fin → Shared → Prop} (n : NSame s (.ref x) v) (hq : Q (.done (.ret .notImplemented)) s) : wpAny (model prog w) A (Builtin.«object.__eq__» ⟨[.ref x, v], []⟩) Q E s := by
  unfold Builtin.«object.__eq__»
  repeat (first | with_reducible refine n _ _ _ _ ?_ | wp_step)
  exact hq
theorem call_objEq_no {Q : Value → Shared → Prop} (X : K.In s.heap) (I : PySem.W.InstAt s.heap x ox C od) (nq : NoEq K C) (n : NSame s (.ref x) v) (hq : Q .notImplemented s) : wpAny (model prog w) A (call (.builtin "object.__eq__") [.ref x, v]) Q E s :=
  wpAny_call (codeAny_call_builtin F.cmp_object.eq.plain F.cmpEntry_eq (PySem.W.check_slot F.cmpKind_eq F.cmpSplit_eq (I.type.andThen (PySem.W.looks_mroIn X nq.nb.ob)) (F.cmpArgs_eq _ _) (objEq_no n hq)))
/-- the instance's == declines -/
theorem try_no {Q : Option Value → Shared → Prop} (X : K.In s.heap) (I : PySem.W.InstAt s.heap x ox C od) (nq : NoEq K C) (n : NSame s (.ref x) v) (hq : Q none s) : wpAny (model prog w) A (tryCompare (.ref x) "__eq__" v) Q E s := by
  unfold tryCompare
  exact wpAny_bind (HN.ifBound_objEq X I nq.eq (call_objEq_no X I nq n (wpAny_pure hq)))
theorem nsame_ref {x y : Addr} {ox oy : Obj} (ne : x ≠ y) (hx : s.heap.get? x = some ox) (hy : s.heap.get? y = some oy) (h : ox.cls ≠ .type "tuple" ∨ oy.cls ≠ .type "tuple") : NSame s (.ref x) (.ref y) := fun M A E Q q => by
  rcases h with h | h
  · exact wpAny_isSame_ref_other ne hx hy h q
  · exact wpAny_isSame_ref_other' ne hx hy h q
end
end L3
set_option Elab.async false
set_option linter.all false
set_option maxRecDepth 100000
set_option maxHeartbeats 4000000
namespace L3
open PySem PySem.Spec PyProof.Rows L2 PySem.SeqAt PySem.Calls
end L3
set_option Elab.async false
set_option linter.all false
set_option maxRecDepth 100000
set_option maxHeartbeats 4000000
namespace L3
open PySem PySem.Spec PyProof.Rows L2 PySem.SeqAt PySem.Calls
section
variable {X : Cx} {k : Nat} {f C : Addr} {sp : Sp} {pins : List (Addr × Obj)} {σ : L2.St} {H : Hp} {s : Shared}
def rNotInO (r : R2) (K : PySem.W.Frag) : R2 := fun x y H Q => ∃ b a ys, x = .ref b ∧ y = .ref a ∧ inW r K a ys b ys H fun b H' => Q (.bl (!b)) H'
theorem op_notInO {r : R2} (K : PySem.W.Frag) (h : RcO X k r) (hr : Rm (k + 1) X.A) (e : X.K = K := by rfl) : OpR X (compareOp .NotIn) (rNotInO r K) := by
  subst e
  intro pins s σ H x y u v Q I rx ry hq
  obtain ⟨b, a, ys, rfl, rfl, hq⟩ := hq
  cases (show u = Value.ref b from rx)
  cases (show v = Value.ref a from ry)
  have hS : SqL X.K H a ys := by cases ys with | nil => exact hq.1 | cons _ _ => exact hq.1
  obtain ⟨its, rl, pl, hz⟩ := I.list hS
  obtain ⟨o, n, ho, hc, _⟩ := pl
  have hT : s.TypeIs (.ref a) "list" := ⟨_, ho, hc⟩
  show wpAny _ X.A (contains (.ref a) (.ref b) >>= fun z => pure (Value.bool (!z))) _ _ s
  refine wpAny_bind (wpAny_contains_slot hT PySem.F.slot_list_contains (wpAny_mono (Q := fun (v : Value) s' => ∃ z, v = Value.bool z ∧ EP X pins σ Q (Value.bool (!z)) s') (GQ.call_here PySem.F.slot_list_contains hT PySem.F.entry_list_contains (PySem.F.args_list_contains_2 _ _) ?_) (fun v s' hv => ?_) fun _ _ e => e))
  · have hrec := in_loop h (R := wants (fun v s' => ∃ z, v = .bool z ∧ EP X pins σ Q (.bool (!z)) s') X.xe) (fun e s' x => x) hr (fun b H' => Q (.bl (!b)) H') (fun z H' s' I' q => ⟨z, rfl, .bl (!z), H', I', rfl, q⟩) ys 0 H s rfl I hq
    obtain ⟨hp, g, d, tk, os⟩ := s
    wp_walk
    exact ⟨plainId_quiet MeetsSeq.plain_contains_loop _, codeAny_builtin MeetsSeq.entry_contains_loop (by
      rw [Around.under_plainId MeetsSeq.plain_contains_loop _]
      exact hrec)⟩
  · obtain ⟨z, rfl, hq⟩ := hv
    exact wpAny_truthy_bool (wpAny_pure hq)
/-- x == y: y an instance of C, x one of a class without an == of its own -/
def rEqRD (K : PySem.W.Frag) (C : Addr) (sp : Sp) : R2 := fun x y H Q => ∃ a dx fs b D dy gs, y = .ref a ∧ H a = some (.ins C dx fs) ∧ x = .ref b ∧ H b = some (.ins D dy gs) ∧ NoEq K D ∧ a ≠ b ∧ NoSub K D (.ref C) ∧ sp [y, x] H Q (fun _ _ _ => False)
theorem rco_RD (K : PySem.W.Frag) (hm : Meth K C "__eq__" f) (F : Fc X.prog X.w K X.mg X.base k f [] sp) (hK : X.K = K := by rfl) : RcO X k (rEqRD K C sp) := by
  subst hK
  intro A pins s σ H x y u v Q hr hf I rx ry h
  obtain ⟨a, dx, fs, b, D, dy, gs, rfl, ha, rfl, hb, nq, ne, hn, hsp⟩ := h
  cases (show u = Value.ref b from rx)
  cases (show v = Value.ref a from ry)
  obtain ⟨mA, J, _⟩ := ins_get I.hok ha
  obtain ⟨od, J, _⟩ := J.look
  obtain ⟨mB, L, _⟩ := ins_get I.hok hb
  obtain ⟨oe, L, _⟩ := L.look
  have n1 : NSame s (.ref b) (.ref a) := nsame_ref (Ne.symm ne) L.at_ J.at_ (.inl fun e => by have := L.cls; rw [e] at this; cases this)
  have run := run_fcA (A := A) (W := fun _ _ _ _ => False) (us := [.ref a, .ref b]) (ws := []) (vs := [.ref a, .ref b]) (σ := σ) F hr hf takes0 I (.cons rfl (.cons rfl .nil)) rfl hsp
  have one := try_own (b := .ref b) I.kIn J hm (wpAny_mono run (fun w s' z => (by obtain ⟨z', H', I', rz, qz⟩ := z; exact cmpback_ rz ⟨z', H', I', rz, qz⟩ : PySem.W.CmpBack (EP X pins σ Q) w s')) fun _ _ x => x)
  have hu : A.units < cLine := by have := hr.rm.un; omega
  simp only [richCompare, cmpInfo_Eq, oneThing_ref]
  refine wpAny_holding (wpAny_bind (wpAny_cRoomFor hu ?_))
  refine wpAny_bind (L.type.here (wpAny_bind (J.type.here ?_)))
  split
  · rename_i q
    refine wpAny_bind ((noSub_look hn I.kIn q).here ?_)
    simp only [Bool.false_eq_true, if_false, Bool.not_false, if_true]
    refine wpAny_bind (m := tryCompare (.ref b) _ (.ref a)) (try_no I.kIn L nq n1 ?_)
    refine wpAny_bind (m := tryCompare (.ref a) _ (.ref b)) (wpAny_mono one (fun r s' z => ?_) fun _ _ e => e)
    obtain ⟨v, rfl, hq⟩ := z
    exact wpAny_pure hq
  · refine wpAny_bind (wpAny_pure ?_)
    simp only [Bool.false_eq_true, if_false, Bool.not_false, if_true]
    refine wpAny_bind (m := tryCompare (.ref b) _ (.ref a)) (try_no I.kIn L nq n1 ?_)
    refine wpAny_bind (m := tryCompare (.ref a) _ (.ref b)) (wpAny_mono one (fun r s' z => ?_) fun _ _ e => e)
    obtain ⟨v, rfl, hq⟩ := z
    exact wpAny_pure hq
end
end L3
set_option Elab.async false
set_option linter.all false
set_option maxRecDepth 100000
set_option maxHeartbeats 4000000
namespace L3
open PySem PySem.Spec PyProof.Rows L2 PySem.SeqAt PySem.Calls
section
variable {X : Cx} {k : Nat} {pins : List (Addr × Obj)} {σ : L2.St} {H : Hp} {s : Shared}
def cntW (r : R2) (K : PySem.W.Frag) (a : Addr) (ys : List V) (b : Addr) : List V → Int → Hp → (Int → Hp → Prop) → Prop
  | [], n, H, Q => SqL K H a ys ∧ Q n H
  | y :: l, n, H, Q => SqL K H a ys ∧ ((y = .ref b ∧ cntW r K a ys b l (n + 1) H Q) ∨ (y ≠ .ref b ∧ r y (.ref b) H fun v H' => ∃ z, v = .bl z ∧ cntW r K a ys b l (if z = true then n + 1 else n) H' Q))
def rCountO (r : R2) (K : PySem.W.Frag) : V → List V → Hp → VK → Prop := fun x xs H Q => ∃ a ys b, x = .ref a ∧ xs = [.ref b] ∧ cntW r K a ys b ys 0 H fun n H' => Q (.int n) H'
theorem cnt_loop {r : R2} {a b : Addr} {ys : List V} (h : RcO X k r) {R : Result → Shared → Prop} (hE : ∀ e s', X.xe e s' → R (.error e) s') (hr : Rm (k + 1) X.A) (Q : Int → Hp → Prop) (hR : ∀ z H' (s' : Shared) (t : Tok), Inv X pins σ H' s' → Q z H' → R (.ok (.ret (.int z t))) { s' with toks := s'.toks + 1 }) :
    ∀ (l : List V) (i : Nat) (n : Int) (H : Hp) (s : Shared), l = ys.drop i → Inv X pins σ H s → cntW r X.K a ys b l n H Q → wpAny (model X.prog X.w) X.A.in1 (Builtin.«list.count.loop» ⟨[.ref a, .ref b, rawInt i, rawInt n], []⟩) (GQ.FinOf X.prog X.w X.A R) (fun e s' => R (.error e) s') s
  | [], i, n, H, s, el, I, hq => by
    obtain ⟨hS, q⟩ := hq
    obtain ⟨its, rl, pl, hz⟩ := I.list hS
    obtain ⟨⟨cls, dd, data, sl⟩, m, ho, hc, hd, hs⟩ := pl
    simp only at hc hd hs
    subst hc hd hs
    have hlen : ys.length ≤ i := List.drop_eq_nil_iff.mp el.symm
    have hR' := hR n H s s.toks I q
    have hl2 : its.length = ys.length := rl.length.symm
    obtain ⟨hp, g, d, tk, os⟩ := s
    wp_walk using AutoSeq1.wpAny_loadPart' ho
    have hi : its.toArray[((i : Nat) : Int).toNat]? = none := by simp; omega
    rw [hi]
    wp_walk
    exact hR'
  | y :: l, i, n, H, s, el, I, hq => by
    obtain ⟨hS, q⟩ := hq
    obtain ⟨its, rl, pl, hz⟩ := I.list hS
    obtain ⟨⟨cls, dd, data, sl⟩, m, ho, hc, hd, hs⟩ := pl
    simp only at hc hd hs
    subst hc hd hs
    have hy : ys[i]? = some y := by
      have : (ys.drop i)[0]? = some y := by rw [← el]; rfl
      rwa [List.getElem?_drop] at this
    obtain ⟨u, hu, ry⟩ : ∃ u, its[i]? = some u ∧ RelV y u := rl.get hy
    have step := eqBool_itm (A := X.A.in1) (Q := fun z H' => cntW r X.K a ys b l (if z = true then n + 1 else n) H' Q) h hr.in1 rfl I ry (q.imp (fun q => ⟨q.1, by simpa using q.2⟩) id)
    have rec_ := fun n' H' s' I' => cnt_loop (a := a) (b := b) h hE hr Q hR l (i + 1) n' H' s' (by rw [← List.tail_drop, ← el]; rfl) I'
    obtain ⟨hp, g, d, tk, os⟩ := s
    wp_walk using AutoSeq1.wpAny_loadPart' ho
    have hi : its.toArray[((i : Nat) : Int).toNat]? = some u := by simpa using hu
    rw [hi]
    refine wpAny_bind (wpAny_mono step (fun z s' hz => ?_) hE)
    obtain ⟨H', I', qz⟩ := hz
    have hc : ((i : Int) + 1) = ((i + 1 : Nat) : Int) := by omega
    have hrec := rec_ _ H' s' I' qz
    obtain ⟨hp2, g2, d2, tk2, os2⟩ := s'
    cases z with
    | true =>
      simp only [if_true] at hrec
      wp_walk
      rw [hc]
      exact ⟨plainId_quiet MeetsSeq.plain_count_loop _, codeAny_builtin MeetsSeq.entry_count_loop (by
        rw [Around.under_plainId MeetsSeq.plain_count_loop _]
        exact hrec)⟩
    | false =>
      simp only [Bool.false_eq_true, if_false] at hrec
      wp_walk
      rw [hc]
      exact ⟨plainId_quiet MeetsSeq.plain_count_loop _, codeAny_builtin MeetsSeq.entry_count_loop (by
        rw [Around.under_plainId MeetsSeq.plain_count_loop _]
        exact hrec)⟩
theorem mt_countO {r : R2} (K : PySem.W.Frag) (h : RcO X k r) (hr : Rm (k + 1) X.A) (e : X.K = K := by rfl) : MtR X "list.count" (rCountO r K) := by
  subst e
  intro pins s σ H x xs v us Q I rx rxs hq
  obtain ⟨a, ys, b, rfl, rfl, hq⟩ := hq
  cases rx
  cases rxs with
  | cons ry rt =>
    cases ry
    cases rt
    have hS : SqL X.K H a ys := by cases ys with | nil => exact hq.1 | cons _ _ => exact hq.1
    obtain ⟨its, rl, pl, hz⟩ := I.list hS
    obtain ⟨o, n, ho, hc, _⟩ := pl
    have hT : s.TypeIs (.ref a) "list" := ⟨_, ho, hc⟩
    refine GQ.call_here PySem.F.slot_list_count hT PySem.F.entry_list_count (PySem.F.args_list_count_2 _ _) ?_
    have hrec := cnt_loop h (R := wants (EP X pins σ Q) X.xe) (fun e s' x => x) hr (fun n H' => Q (.int n) H') (fun z H' s' t I' q => ⟨.int z, H', I'.tok _, ⟨_, rfl⟩, q⟩) ys 0 0 H s rfl I hq
    obtain ⟨hp, g, d, tk, os⟩ := s
    wp_walk
    exact ⟨plainId_quiet MeetsSeq.plain_count_loop _, codeAny_builtin MeetsSeq.entry_count_loop (by
      rw [Around.under_plainId MeetsSeq.plain_count_loop _]
      exact hrec)⟩
end
end L3
set_option Elab.async false
set_option linter.all false
set_option maxRecDepth 100000
set_option maxHeartbeats 4000000
namespace L3
open PySem PySem.Spec PyProof.Rows L2 PySem.SeqAt PySem.Calls
end L3
set_option Elab.async false
set_option linter.all false
set_option maxRecDepth 100000
set_option maxHeartbeats 4000000
namespace Toy
open PySem PySem.Spec PyProof.Rows L2 L3
def top (i : Nat) : Stmt := PySem.Challenge.pw_shortgoings_k27_equal_spreads.main.body.getD i (.Pass ⟨0, 0, 0, 0⟩)
abbrev s__wall : Stmt := top 0
abbrev s_is_whole : Stmt := top 12
abbrev s_is_moment : Stmt := top 13
abbrev s_want_moment : Stmt := top 14
abbrev s_want_below : Stmt := top 15
abbrev s_moment_at : Stmt := top 16
abbrev s_clock_of : Stmt := top 17
abbrev s_show_moment : Stmt := top 18
abbrev s_are_figures : Stmt := top 19
abbrev s_number_of : Stmt := top 20
abbrev s_day_of : Stmt := top 21
abbrev s_read_moment : Stmt := top 22
abbrev s_is_number : Stmt := top 27
abbrev s_Short_moments : Stmt := inClass (top 28) 0
abbrev s_Short_pieces : Stmt := inClass (top 28) 1
abbrev s_Short_begins : Stmt := inClass (top 28) 2
abbrev s_Short_ends : Stmt := inClass (top 28) 3
abbrev s_Short_means_many : Stmt := inClass (top 28) 4
abbrev s_Short_nested : Stmt := inClass (top 28) 5
abbrev s_all_rising : Stmt := top 29
abbrev s_shorts_in : Stmt := top 30
abbrev s_row_moments : Stmt := top 31
abbrev s_row_many : Stmt := top 32
abbrev s_row_text : Stmt := top 33
abbrev s_At_init : Stmt := inClass (top 34) 0
abbrev s_At_moments : Stmt := inClass (top 34) 1
abbrev s_At_pieces : Stmt := inClass (top 34) 2
abbrev s_At_begins : Stmt := inClass (top 34) 3
abbrev s_At_ends : Stmt := inClass (top 34) 4
abbrev s_At_means_many : Stmt := inClass (top 34) 5
abbrev s_At_nested : Stmt := inClass (top 34) 6
abbrev s_At_str : Stmt := inClass (top 34) 7
abbrev s_Over_init : Stmt := inClass (top 35) 0
abbrev s_Over_parts : Stmt := inClass (top 35) 1
abbrev s_Over_moments : Stmt := inClass (top 35) 2
abbrev s_Over_pieces : Stmt := inClass (top 35) 3
abbrev s_Over_begins : Stmt := inClass (top 35) 4
abbrev s_Over_ends : Stmt := inClass (top 35) 5
abbrev s_Over_means_many : Stmt := inClass (top 35) 6
abbrev s_Over_nested : Stmt := inClass (top 35) 7
abbrev s_Over_str : Stmt := inClass (top 35) 8
abbrev s_Spread_init : Stmt := inClass (top 38) 0
abbrev s_Spread_parts : Stmt := inClass (top 38) 1
abbrev s_Spread_moments : Stmt := inClass (top 38) 2
abbrev s_Spread_pieces : Stmt := inClass (top 38) 3
abbrev s_Spread_eq : Stmt := inClass (top 38) 4
abbrev s_Spread_len : Stmt := inClass (top 38) 5
abbrev s_Spread_str : Stmt := inClass (top 38) 6
abbrev s_Spread_repr : Stmt := inClass (top 38) 7
abbrev s_number_in : Stmt := top 39
abbrev s_at_in : Stmt := top 40
abbrev s_item_end : Stmt := top 41
abbrev s_over_in : Stmt := top 42
abbrev s_read_on : Stmt := top 43
abbrev s_read_spread : Stmt := top 44
abbrev s__law_pot : Stmt := top 46
abbrev s__law_draw : Stmt := top 47
abbrev s__law_moments : Stmt := top 48
abbrev s__law_row_moments : Stmt := top 49
abbrev s__law_wide : Stmt := top 50
abbrev s__law_gap : Stmt := top 51
abbrev s__law_short : Stmt := top 52
abbrev s__law_row : Stmt := top 53
abbrev s__law_spread : Stmt := top 54
abbrev s__law_made : Stmt := top 55
abbrev s__law_flat : Stmt := top 56
abbrev s__law_near : Stmt := top 57
abbrev s__law_halved : Stmt := top 58
abbrev s__law_equal : Stmt := top 59
abbrev s__law_unlike : Stmt := top 60
abbrev s__law_others_unlike : Stmt := top 61
abbrev s__law_doubled_right : Stmt := top 62
abbrev s__law_right : Stmt := top 63
abbrev s_law : Stmt := top 64
theorem sc_is_whole : FnScope ["thing"] ["thing"] (defScope s_is_whole) := ⟨rfl, rfl, rfl, by decide +kernel, rfl, by decide +kernel, by decide +kernel⟩
theorem sc_is_moment : FnScope ["thing"] ["thing"] (defScope s_is_moment) := ⟨rfl, rfl, rfl, by decide +kernel, rfl, by decide +kernel, by decide +kernel⟩
theorem sc_want_moment : FnScope ["thing"] ["thing"] (defScope s_want_moment) := ⟨rfl, rfl, rfl, by decide +kernel, rfl, by decide +kernel, by decide +kernel⟩
theorem sc_want_below : FnScope ["thing", "many"] ["thing", "many"] (defScope s_want_below) := ⟨rfl, rfl, rfl, by decide +kernel, rfl, by decide +kernel, by decide +kernel⟩
theorem sc_moment_at : FnScope ["day", "hour", "minute"] ["day", "hour", "minute"] (defScope s_moment_at) := ⟨rfl, rfl, rfl, by decide +kernel, rfl, by decide +kernel, by decide +kernel⟩
theorem sc_clock_of : FnScope ["moment"] ["moment"] (defScope s_clock_of) := ⟨rfl, rfl, rfl, by decide +kernel, rfl, by decide +kernel, by decide +kernel⟩
theorem sc_show_moment : FnScope ["moment", "day", "hour", "minute", "text"] ["moment"] (defScope s_show_moment) := ⟨rfl, rfl, rfl, by decide +kernel, rfl, by decide +kernel, by decide +kernel⟩
theorem sc_are_figures : FnScope ["word", "sign"] ["word"] (defScope s_are_figures) := ⟨rfl, rfl, rfl, by decide +kernel, rfl, by decide +kernel, by decide +kernel⟩
theorem sc_number_of : FnScope ["word"] ["word"] (defScope s_number_of) := ⟨rfl, rfl, rfl, by decide +kernel, rfl, by decide +kernel, by decide +kernel⟩
theorem sc_day_of : FnScope ["word", "day"] ["word"] (defScope s_day_of) := ⟨rfl, rfl, rfl, by decide +kernel, rfl, by decide +kernel, by decide +kernel⟩
theorem sc_read_moment : FnScope ["text", "head", "blank", "clock", "day", "hour", "colon", "minute"] ["text"] (defScope s_read_moment) := ⟨rfl, rfl, rfl, by decide +kernel, rfl, by decide +kernel, by decide +kernel⟩
theorem sc_is_number : FnScope ["thing", "least"] ["thing", "least"] (defScope s_is_number) := ⟨rfl, rfl, rfl, by decide +kernel, rfl, by decide +kernel, by decide +kernel⟩
theorem sc_all_rising : FnScope ["parts", "one", "other"] ["parts"] (defScope s_all_rising) := ⟨rfl, rfl, rfl, by decide +kernel, rfl, by decide +kernel, by decide +kernel⟩
theorem sc_shorts_in : FnScope ["parts", "found", "one"] ["parts"] (defScope s_shorts_in) := ⟨rfl, rfl, rfl, by decide +kernel, rfl, by decide +kernel, by decide +kernel⟩
theorem sc_row_moments : FnScope ["parts", "found", "one"] ["parts"] (defScope s_row_moments) := ⟨rfl, rfl, rfl, by decide +kernel, rfl, by decide +kernel, by decide +kernel⟩
theorem sc_row_many : FnScope ["parts", "one"] ["parts"] (defScope s_row_many) := ⟨rfl, rfl, rfl, by decide +kernel, rfl, by decide +kernel, by decide +kernel⟩
theorem sc_row_text : FnScope ["parts", "one"] ["parts"] (defScope s_row_text) := ⟨rfl, rfl, rfl, by decide +kernel, rfl, by decide +kernel, by decide +kernel⟩
theorem sc_At_init : FnScope ["self", "moment"] ["self", "moment"] (defScope s_At_init) := ⟨rfl, rfl, rfl, by decide +kernel, rfl, by decide +kernel, by decide +kernel⟩
theorem sc_At_moments : FnScope ["self"] ["self"] (defScope s_At_moments) := ⟨rfl, rfl, rfl, by decide +kernel, rfl, by decide +kernel, by decide +kernel⟩
theorem sc_At_begins : FnScope ["self"] ["self"] (defScope s_At_begins) := ⟨rfl, rfl, rfl, by decide +kernel, rfl, by decide +kernel, by decide +kernel⟩
theorem sc_At_ends : FnScope ["self"] ["self"] (defScope s_At_ends) := ⟨rfl, rfl, rfl, by decide +kernel, rfl, by decide +kernel, by decide +kernel⟩
theorem sc_At_means_many : FnScope ["self"] ["self"] (defScope s_At_means_many) := ⟨rfl, rfl, rfl, by decide +kernel, rfl, by decide +kernel, by decide +kernel⟩
theorem sc_At_nested : FnScope ["self"] ["self"] (defScope s_At_nested) := ⟨rfl, rfl, rfl, by decide +kernel, rfl, by decide +kernel, by decide +kernel⟩
theorem sc_At_str : FnScope ["self"] ["self"] (defScope s_At_str) := ⟨rfl, rfl, rfl, by decide +kernel, rfl, by decide +kernel, by decide +kernel⟩
theorem sc_Over_init : FnScope ["self", "parts", "many", "step"] ["self", "parts", "many", "step"] (defScope s_Over_init) := ⟨rfl, rfl, rfl, by decide +kernel, rfl, by decide +kernel, by decide +kernel⟩
theorem sc_Over_moments : FnScope ["self", "own", "found", "time", "moment"] ["self"] (defScope s_Over_moments) := ⟨rfl, rfl, rfl, by decide +kernel, rfl, by decide +kernel, by decide +kernel⟩
theorem sc_Over_begins : FnScope ["self"] ["self"] (defScope s_Over_begins) := ⟨rfl, rfl, rfl, by decide +kernel, rfl, by decide +kernel, by decide +kernel⟩
theorem sc_Over_ends : FnScope ["self"] ["self"] (defScope s_Over_ends) := ⟨rfl, rfl, rfl, by decide +kernel, rfl, by decide +kernel, by decide +kernel⟩
theorem sc_Over_means_many : FnScope ["self"] ["self"] (defScope s_Over_means_many) := ⟨rfl, rfl, rfl, by decide +kernel, rfl, by decide +kernel, by decide +kernel⟩
theorem sc_Over_nested : FnScope ["self", "one"] ["self"] (defScope s_Over_nested) := ⟨rfl, rfl, rfl, by decide +kernel, rfl, by decide +kernel, by decide +kernel⟩
theorem sc_Over_str : FnScope ["self"] ["self"] (defScope s_Over_str) := ⟨rfl, rfl, rfl, by decide +kernel, rfl, by decide +kernel, by decide +kernel⟩
theorem sc_Spread_init : FnScope ["self", "parts"] ["self", "parts"] (defScope s_Spread_init) := ⟨rfl, rfl, rfl, by decide +kernel, rfl, by decide +kernel, by decide +kernel⟩
theorem sc_Spread_eq : FnScope ["self", "other"] ["self", "other"] (defScope s_Spread_eq) := ⟨rfl, rfl, rfl, by decide +kernel, rfl, by decide +kernel, by decide +kernel⟩
theorem sc_Spread_len : FnScope ["self"] ["self"] (defScope s_Spread_len) := ⟨rfl, rfl, rfl, by decide +kernel, rfl, by decide +kernel, by decide +kernel⟩
theorem sc_Spread_str : FnScope ["self"] ["self"] (defScope s_Spread_str) := ⟨rfl, rfl, rfl, by decide +kernel, rfl, by decide +kernel, by decide +kernel⟩
theorem sc_number_in : FnScope ["word", "sign"] ["word"] (defScope s_number_in) := ⟨rfl, rfl, rfl, by decide +kernel, rfl, by decide +kernel, by decide +kernel⟩
theorem sc_at_in : FnScope ["text", "moment", "e"] ["text"] (defScope s_at_in) := ⟨rfl, rfl, rfl, by decide +kernel, rfl, by decide +kernel, by decide +kernel⟩
theorem sc_item_end : FnScope ["text", "at", "end"] ["text", "at"] (defScope s_item_end) := ⟨rfl, rfl, rfl, by decide +kernel, rfl, by decide +kernel, by decide +kernel⟩
theorem sc_over_in : FnScope ["parts", "tail", "words"] ["parts", "tail"] (defScope s_over_in) := ⟨rfl, rfl, rfl, by decide +kernel, rfl, by decide +kernel, by decide +kernel⟩
theorem sc_read_on : FnScope ["text", "at", "rows", "end", "parts"] ["text", "at", "rows"] (defScope s_read_on) := ⟨rfl, rfl, rfl, by decide +kernel, rfl, by decide +kernel, by decide +kernel⟩
theorem sc_read_spread : FnScope ["text", "rows", "at", "found"] ["text"] (defScope s_read_spread) := ⟨rfl, rfl, rfl, by decide +kernel, rfl, by decide +kernel, by decide +kernel⟩
theorem sc__law_pot : FnScope ["_law_script", "_law_k", "_law_cell"] ["_law_script", "_law_k"] (defScope s__law_pot) := ⟨rfl, rfl, rfl, by decide +kernel, rfl, by decide +kernel, by decide +kernel⟩
theorem sc__law_draw : FnScope ["_law_pot_here", "_law_many", "_law_digit"] ["_law_pot_here", "_law_many"] (defScope s__law_draw) := ⟨rfl, rfl, rfl, by decide +kernel, rfl, by decide +kernel, by decide +kernel⟩
theorem sc__law_moments : FnScope ["_law_short_here", "_law_own", "_law_found", "_law_time", "_law_moment"] ["_law_short_here"] (defScope s__law_moments) := ⟨rfl, rfl, rfl, by decide +kernel, rfl, by decide +kernel, by decide +kernel⟩
theorem sc__law_row_moments : FnScope ["_law_row_here", "_law_found", "_law_short_here"] ["_law_row_here"] (defScope s__law_row_moments) := ⟨rfl, rfl, rfl, by decide +kernel, rfl, by decide +kernel, by decide +kernel⟩
theorem sc__law_wide : FnScope ["_law_pot_here", "_law_found", "_law_k"] ["_law_pot_here"] (defScope s__law_wide) := ⟨rfl, rfl, rfl, by decide +kernel, rfl, by decide +kernel, by decide +kernel⟩
theorem sc__law_gap : FnScope ["_law_pot_here", "_law_way"] ["_law_pot_here"] (defScope s__law_gap) := ⟨rfl, rfl, rfl, by decide +kernel, rfl, by decide +kernel, by decide +kernel⟩
theorem sc__law_short : FnScope ["_law_pot_here", "_law_at", "_law_room", "_law_deep", "_law_left", "_law_row_here", "_law_moments_here", "_law_most", "_law_many"] ["_law_pot_here", "_law_at", "_law_room", "_law_deep", "_law_left"] (defScope s__law_short) := ⟨rfl, rfl, rfl, by decide +kernel, rfl, by decide +kernel, by decide +kernel⟩
theorem sc__law_row : FnScope ["_law_pot_here", "_law_at", "_law_room", "_law_deep", "_law_left", "_law_found", "_law_here", "_law_many", "_law_k", "_law_short_here"] ["_law_pot_here", "_law_at", "_law_room", "_law_deep", "_law_left"] (defScope s__law_row) := ⟨rfl, rfl, rfl, by decide +kernel, rfl, by decide +kernel, by decide +kernel⟩
theorem sc__law_spread : FnScope ["_law_pot_here", "_law_room", "_law_deep"] ["_law_pot_here"] (defScope s__law_spread) := ⟨rfl, rfl, rfl, by decide +kernel, rfl, by decide +kernel, by decide +kernel⟩
theorem sc__law_made : FnScope ["_law_short_here", "_law_part"] ["_law_short_here"] (defScope s__law_made) := ⟨rfl, rfl, rfl, by decide +kernel, rfl, by decide +kernel, by decide +kernel⟩
theorem sc__law_flat : FnScope ["_law_moments_here", "_law_moment"] ["_law_moments_here"] (defScope s__law_flat) := ⟨rfl, rfl, rfl, by decide +kernel, rfl, by decide +kernel, by decide +kernel⟩
theorem sc__law_near : FnScope ["_law_pot_here", "_law_moments_here", "_law_way", "_law_at", "_law_last"] ["_law_pot_here", "_law_moments_here"] (defScope s__law_near) := ⟨rfl, rfl, rfl, by decide +kernel, rfl, by decide +kernel, by decide +kernel⟩
theorem sc__law_halved : FnScope ["_law_moments_here", "_law_half", "_law_step", "_law_moment"] ["_law_moments_here"] (defScope s__law_halved) := ⟨rfl, rfl, rfl, by decide +kernel, rfl, by decide +kernel, by decide +kernel⟩
theorem sc__law_equal : FnScope ["_law_one", "_law_other"] ["_law_one", "_law_other"] (defScope s__law_equal) := ⟨rfl, rfl, rfl, by decide +kernel, rfl, by decide +kernel, by decide +kernel⟩
theorem sc__law_unlike : FnScope ["_law_one", "_law_other"] ["_law_one", "_law_other"] (defScope s__law_unlike) := ⟨rfl, rfl, rfl, by decide +kernel, rfl, by decide +kernel, by decide +kernel⟩
theorem sc__law_others_unlike : FnScope ["_law_pot_here", "_law_one", "_law_moments_here", "_law_odd", "_law_other"] ["_law_pot_here", "_law_one", "_law_moments_here"] (defScope s__law_others_unlike) := ⟨rfl, rfl, rfl, by decide +kernel, rfl, by decide +kernel, by decide +kernel⟩
theorem sc__law_doubled_right : FnScope ["_law_pot_here", "_law_many", "_law_begin", "_law_later", "_law_one", "_law_other", "_law_fewer"] ["_law_pot_here"] (defScope s__law_doubled_right) := ⟨rfl, rfl, rfl, by decide +kernel, rfl, by decide +kernel, by decide +kernel⟩
theorem sc__law_right : FnScope ["_law_pot_here", "_law_row_here", "_law_moments_here", "_law_one", "_law_same", "_law_some", "_law_flat_here", "_law_other", "_law_short_here"] ["_law_pot_here"] (defScope s__law_right) := ⟨rfl, rfl, rfl, by decide +kernel, rfl, by decide +kernel, by decide +kernel⟩
theorem sc_law : FnScope ["_law_script", "_law_k", "_law_pot_here"] ["_law_script"] (defScope s_law) := ⟨rfl, rfl, rfl, by decide +kernel, rfl, by decide +kernel, by decide +kernel⟩
structure Env (K : PySem.W.Frag) (mg : Str → Option Value) : Prop where
  g__wall : mg "_wall" = some (.ref (He.ga K "_wall"))
  g_is_whole : mg "is_whole" = some (.ref (He.ga K "is_whole"))
  g_is_moment : mg "is_moment" = some (.ref (He.ga K "is_moment"))
  g_want_moment : mg "want_moment" = some (.ref (He.ga K "want_moment"))
  g_want_below : mg "want_below" = some (.ref (He.ga K "want_below"))
  g_moment_at : mg "moment_at" = some (.ref (He.ga K "moment_at"))
  g_clock_of : mg "clock_of" = some (.ref (He.ga K "clock_of"))
  g_show_moment : mg "show_moment" = some (.ref (He.ga K "show_moment"))
  g_are_figures : mg "are_figures" = some (.ref (He.ga K "are_figures"))
  g_number_of : mg "number_of" = some (.ref (He.ga K "number_of"))
  g_day_of : mg "day_of" = some (.ref (He.ga K "day_of"))
  g_read_moment : mg "read_moment" = some (.ref (He.ga K "read_moment"))
  g_is_number : mg "is_number" = some (.ref (He.ga K "is_number"))
  g_all_rising : mg "all_rising" = some (.ref (He.ga K "all_rising"))
  g_shorts_in : mg "shorts_in" = some (.ref (He.ga K "shorts_in"))
  g_row_moments : mg "row_moments" = some (.ref (He.ga K "row_moments"))
  g_row_many : mg "row_many" = some (.ref (He.ga K "row_many"))
  g_row_text : mg "row_text" = some (.ref (He.ga K "row_text"))
  g_number_in : mg "number_in" = some (.ref (He.ga K "number_in"))
  g_at_in : mg "at_in" = some (.ref (He.ga K "at_in"))
  g_item_end : mg "item_end" = some (.ref (He.ga K "item_end"))
  g_over_in : mg "over_in" = some (.ref (He.ga K "over_in"))
  g_read_on : mg "read_on" = some (.ref (He.ga K "read_on"))
  g_read_spread : mg "read_spread" = some (.ref (He.ga K "read_spread"))
  g__law_pot : mg "_law_pot" = some (.ref (He.ga K "_law_pot"))
  g__law_draw : mg "_law_draw" = some (.ref (He.ga K "_law_draw"))
  g__law_moments : mg "_law_moments" = some (.ref (He.ga K "_law_moments"))
  g__law_row_moments : mg "_law_row_moments" = some (.ref (He.ga K "_law_row_moments"))
  g__law_wide : mg "_law_wide" = some (.ref (He.ga K "_law_wide"))
  g__law_gap : mg "_law_gap" = some (.ref (He.ga K "_law_gap"))
  g__law_short : mg "_law_short" = some (.ref (He.ga K "_law_short"))
  g__law_row : mg "_law_row" = some (.ref (He.ga K "_law_row"))
  g__law_spread : mg "_law_spread" = some (.ref (He.ga K "_law_spread"))
  g__law_made : mg "_law_made" = some (.ref (He.ga K "_law_made"))
  g__law_flat : mg "_law_flat" = some (.ref (He.ga K "_law_flat"))
  g__law_near : mg "_law_near" = some (.ref (He.ga K "_law_near"))
  g__law_halved : mg "_law_halved" = some (.ref (He.ga K "_law_halved"))
  g__law_equal : mg "_law_equal" = some (.ref (He.ga K "_law_equal"))
  g__law_unlike : mg "_law_unlike" = some (.ref (He.ga K "_law_unlike"))
  g__law_others_unlike : mg "_law_others_unlike" = some (.ref (He.ga K "_law_others_unlike"))
  g__law_doubled_right : mg "_law_doubled_right" = some (.ref (He.ga K "_law_doubled_right"))
  g__law_right : mg "_law_right" = some (.ref (He.ga K "_law_right"))
  g_law : mg "law" = some (.ref (He.ga K "law"))
  v_HOUR : ∃ u, mg "HOUR" = some u ∧ RelV (.int (60)) u
  v_DAY : ∃ u, mg "DAY" = some u ∧ RelV (.int (1440)) u
  v_HOURS : ∃ u, mg "HOURS" = some u ∧ RelV (.int (24)) u
  v_FIGURES_clock : ∃ u, mg "FIGURES_clock" = some u ∧ RelV (.str "0123456789") u
  v_COLON : ∃ u, mg "COLON" = some u ∧ RelV (.str ":") u
  v_BLANK : ∃ u, mg "BLANK" = some u ∧ RelV (.str " ") u
  v_MOST_MOMENTS : ∃ u, mg "MOST_MOMENTS" = some u ∧ RelV (.int (1440)) u
  v_MOST_NESTED : ∃ u, mg "MOST_NESTED" = some u ∧ RelV (.int (8)) u
  v_NO_PARTS : ∃ u, mg "NO_PARTS" = some u ∧ RelV (.str "-") u
  v_FIGURES_spreads : ∃ u, mg "FIGURES_spreads" = some u ∧ RelV (.str "0123456789") u
  n_all : mg "all" = none
  n_bool : mg "bool" = none
  n_divmod : mg "divmod" = none
  n_int : mg "int" = none
  n_isinstance : mg "isinstance" = none
  n_len : mg "len" = none
  n_list : mg "list" = none
  n_max : mg "max" = none
  n_min : mg "min" = none
  n_range : mg "range" = none
  n_str : mg "str" = none
  n_sum : mg "sum" = none
  n_tuple : mg "tuple" = none
  n_zip : mg "zip" = none
  g_GoingError : mg "GoingError" = some (.ref (He.ga K "GoingError"))
  x_GoingError : Exo K (He.ga K "GoingError") bmV "ValueError.__new__"
  g_NoTime : mg "NoTime" = some (.ref (He.ga K "NoTime"))
  x_NoTime : Exo K (He.ga K "NoTime") bmV "ValueError.__new__"
  g_NoPiece : mg "NoPiece" = some (.ref (He.ga K "NoPiece"))
  x_NoPiece : Exo K (He.ga K "NoPiece") bmV "ValueError.__new__"
  g_Short : mg "Short" = some (.ref (He.ga K "Short"))
  g_At : mg "At" = some (.ref (He.ga K "At"))
  g_Over : mg "Over" = some (.ref (He.ga K "Over"))
  g_Spread : mg "Spread" = some (.ref (He.ga K "Spread"))
  sys : SysK K
  c_Short : Cls K (He.ga K "Short")
  i_Short : InsC K (He.ga K "Short")
  m_Short_moments : Meth K (He.ga K "Short") "moments" (He.ma K (He.ga K "Short") "moments")
  m_Short_pieces : Meth K (He.ga K "Short") "pieces" (He.ma K (He.ga K "Short") "pieces")
  m_Short_begins : Meth K (He.ga K "Short") "begins" (He.ma K (He.ga K "Short") "begins")
  m_Short_ends : Meth K (He.ga K "Short") "ends" (He.ma K (He.ga K "Short") "ends")
  m_Short_means_many : Meth K (He.ga K "Short") "means_many" (He.ma K (He.ga K "Short") "means_many")
  m_Short_nested : Meth K (He.ga K "Short") "nested" (He.ma K (He.ga K "Short") "nested")
  kit_Short_Short : PySem.W.kitOne K (.ref (He.ga K "Short")) (.ref (He.ga K "Short")) = some true
  kit_Short_Spread : PySem.W.kitOne K (.ref (He.ga K "Short")) (.ref (He.ga K "Spread")) = some false
  kit_Short_int : PySem.W.kitOne K (.ref (He.ga K "Short")) (.type "int") = some false
  kit_Short_bool : PySem.W.kitOne K (.ref (He.ga K "Short")) (.type "bool") = some false
  kit_Short_str : PySem.W.kitOne K (.ref (He.ga K "Short")) (.type "str") = some false
  kit_Short_list : PySem.W.kitOne K (.ref (He.ga K "Short")) (.type "list") = some false
  kit_Short_tuple : PySem.W.kitOne K (.ref (He.ga K "Short")) (.type "tuple") = some false
  c_At : Cls K (He.ga K "At")
  i_At : InsC K (He.ga K "At")
  a_At_moment : NoAttr K (He.ga K "At") "moment"
  m_At_init : Meth K (He.ga K "At") "__init__" (He.ma K (He.ga K "At") "__init__")
  m_At_moments : Meth K (He.ga K "At") "moments" (He.ma K (He.ga K "At") "moments")
  m_At_pieces : Meth K (He.ga K "At") "pieces" (He.ma K (He.ga K "At") "pieces")
  m_At_begins : Meth K (He.ga K "At") "begins" (He.ma K (He.ga K "At") "begins")
  m_At_ends : Meth K (He.ga K "At") "ends" (He.ma K (He.ga K "At") "ends")
  m_At_means_many : Meth K (He.ga K "At") "means_many" (He.ma K (He.ga K "At") "means_many")
  m_At_nested : Meth K (He.ga K "At") "nested" (He.ma K (He.ga K "At") "nested")
  m_At_str : Meth K (He.ga K "At") "__str__" (He.ma K (He.ga K "At") "__str__")
  mk_At : Mk K (He.ga K "At") (He.ma K (He.ga K "At") "__init__")
  kit_At_Short : PySem.W.kitOne K (.ref (He.ga K "At")) (.ref (He.ga K "Short")) = some true
  kit_At_Spread : PySem.W.kitOne K (.ref (He.ga K "At")) (.ref (He.ga K "Spread")) = some false
  kit_At_int : PySem.W.kitOne K (.ref (He.ga K "At")) (.type "int") = some false
  kit_At_bool : PySem.W.kitOne K (.ref (He.ga K "At")) (.type "bool") = some false
  kit_At_str : PySem.W.kitOne K (.ref (He.ga K "At")) (.type "str") = some false
  kit_At_list : PySem.W.kitOne K (.ref (He.ga K "At")) (.type "list") = some false
  kit_At_tuple : PySem.W.kitOne K (.ref (He.ga K "At")) (.type "tuple") = some false
  c_Over : Cls K (He.ga K "Over")
  i_Over : InsC K (He.ga K "Over")
  a_Over_kept : NoAttr K (He.ga K "Over") "kept"
  a_Over_many : NoAttr K (He.ga K "Over") "many"
  a_Over_step : NoAttr K (He.ga K "Over") "step"
  m_Over_init : Meth K (He.ga K "Over") "__init__" (He.ma K (He.ga K "Over") "__init__")
  m_Over_parts : Meth K (He.ga K "Over") "parts" (He.ma K (He.ga K "Over") "parts")
  m_Over_moments : Meth K (He.ga K "Over") "moments" (He.ma K (He.ga K "Over") "moments")
  m_Over_pieces : Meth K (He.ga K "Over") "pieces" (He.ma K (He.ga K "Over") "pieces")
  m_Over_begins : Meth K (He.ga K "Over") "begins" (He.ma K (He.ga K "Over") "begins")
  m_Over_ends : Meth K (He.ga K "Over") "ends" (He.ma K (He.ga K "Over") "ends")
  m_Over_means_many : Meth K (He.ga K "Over") "means_many" (He.ma K (He.ga K "Over") "means_many")
  m_Over_nested : Meth K (He.ga K "Over") "nested" (He.ma K (He.ga K "Over") "nested")
  m_Over_str : Meth K (He.ga K "Over") "__str__" (He.ma K (He.ga K "Over") "__str__")
  mk_Over : Mk K (He.ga K "Over") (He.ma K (He.ga K "Over") "__init__")
  kit_Over_Short : PySem.W.kitOne K (.ref (He.ga K "Over")) (.ref (He.ga K "Short")) = some true
  kit_Over_Spread : PySem.W.kitOne K (.ref (He.ga K "Over")) (.ref (He.ga K "Spread")) = some false
  kit_Over_int : PySem.W.kitOne K (.ref (He.ga K "Over")) (.type "int") = some false
  kit_Over_bool : PySem.W.kitOne K (.ref (He.ga K "Over")) (.type "bool") = some false
  kit_Over_str : PySem.W.kitOne K (.ref (He.ga K "Over")) (.type "str") = some false
  kit_Over_list : PySem.W.kitOne K (.ref (He.ga K "Over")) (.type "list") = some false
  kit_Over_tuple : PySem.W.kitOne K (.ref (He.ga K "Over")) (.type "tuple") = some false
  c_Spread : Cls K (He.ga K "Spread")
  i_Spread : InsC K (He.ga K "Spread")
  a_Spread_kept : NoAttr K (He.ga K "Spread") "kept"
  a_Spread_held : NoAttr K (He.ga K "Spread") "held"
  m_Spread_init : Meth K (He.ga K "Spread") "__init__" (He.ma K (He.ga K "Spread") "__init__")
  m_Spread_parts : Meth K (He.ga K "Spread") "parts" (He.ma K (He.ga K "Spread") "parts")
  m_Spread_moments : Meth K (He.ga K "Spread") "moments" (He.ma K (He.ga K "Spread") "moments")
  m_Spread_pieces : Meth K (He.ga K "Spread") "pieces" (He.ma K (He.ga K "Spread") "pieces")
  m_Spread_eq : Meth K (He.ga K "Spread") "__eq__" (He.ma K (He.ga K "Spread") "__eq__")
  m_Spread_len : Meth K (He.ga K "Spread") "__len__" (He.ma K (He.ga K "Spread") "__len__")
  m_Spread_str : Meth K (He.ga K "Spread") "__str__" (He.ma K (He.ga K "Spread") "__str__")
  m_Spread_repr : Meth K (He.ga K "Spread") "__repr__" (He.ma K (He.ga K "Spread") "__repr__")
  mk_Spread : Mk K (He.ga K "Spread") (He.ma K (He.ga K "Spread") "__init__")
  nb_Spread : NoBase K (He.ga K "Spread")
  kit_Spread_Short : PySem.W.kitOne K (.ref (He.ga K "Spread")) (.ref (He.ga K "Short")) = some false
  kit_Spread_Spread : PySem.W.kitOne K (.ref (He.ga K "Spread")) (.ref (He.ga K "Spread")) = some true
  kit_Spread_int : PySem.W.kitOne K (.ref (He.ga K "Spread")) (.type "int") = some false
  kit_Spread_bool : PySem.W.kitOne K (.ref (He.ga K "Spread")) (.type "bool") = some false
  kit_Spread_str : PySem.W.kitOne K (.ref (He.ga K "Spread")) (.type "str") = some false
  kit_Spread_list : PySem.W.kitOne K (.ref (He.ga K "Spread")) (.type "list") = some false
  kit_Spread_tuple : PySem.W.kitOne K (.ref (He.ga K "Spread")) (.type "tuple") = some false
  kit_int_Short : PySem.W.kitOne K (.type "int") (.ref (He.ga K "Short")) = some false
  kit_bool_Short : PySem.W.kitOne K (.type "bool") (.ref (He.ga K "Short")) = some false
  kit_str_Short : PySem.W.kitOne K (.type "str") (.ref (He.ga K "Short")) = some false
  kit_NoneType_Short : PySem.W.kitOne K (.type "NoneType") (.ref (He.ga K "Short")) = some false
  kit_list_Short : PySem.W.kitOne K (.type "list") (.ref (He.ga K "Short")) = some false
  kit_tuple_Short : PySem.W.kitOne K (.type "tuple") (.ref (He.ga K "Short")) = some false
  kit_dict_Short : PySem.W.kitOne K (.type "dict") (.ref (He.ga K "Short")) = some false
  kit_int_Spread : PySem.W.kitOne K (.type "int") (.ref (He.ga K "Spread")) = some false
  kit_bool_Spread : PySem.W.kitOne K (.type "bool") (.ref (He.ga K "Spread")) = some false
  kit_str_Spread : PySem.W.kitOne K (.type "str") (.ref (He.ga K "Spread")) = some false
  kit_NoneType_Spread : PySem.W.kitOne K (.type "NoneType") (.ref (He.ga K "Spread")) = some false
  kit_list_Spread : PySem.W.kitOne K (.type "list") (.ref (He.ga K "Spread")) = some false
  kit_tuple_Spread : PySem.W.kitOne K (.type "tuple") (.ref (He.ga K "Spread")) = some false
  kit_dict_Spread : PySem.W.kitOne K (.type "dict") (.ref (He.ga K "Spread")) = some false
  exm_NoTime_NoTime : PySem.W.exmOne K (.ref (He.ga K "NoTime")) (.ref (He.ga K "NoTime")) = some true
  xc_NoTime : ExcC K (He.ga K "NoTime")
  kit_NoTime_GoingError : PySem.W.kitOne K (.ref (He.ga K "NoTime")) (.ref (He.ga K "GoingError")) = some true
  kit_NoTime_NoTime : PySem.W.kitOne K (.ref (He.ga K "NoTime")) (.ref (He.ga K "NoTime")) = some true
  kit_NoTime_NoPiece : PySem.W.kitOne K (.ref (He.ga K "NoTime")) (.ref (He.ga K "NoPiece")) = some false
  kit_NoTime_ValueError : PySem.W.kitOne K (.ref (He.ga K "NoTime")) (.type "ValueError") = some true
  kit_NoTime_LookupError : PySem.W.kitOne K (.ref (He.ga K "NoTime")) (.type "LookupError") = some false
  kit_NoTime_RuntimeError : PySem.W.kitOne K (.ref (He.ga K "NoTime")) (.type "RuntimeError") = some false
  nq_At : NoEq K (He.ga K "At")
  kit_Spread_At : PySem.W.kitOne K (.ref (He.ga K "Spread")) (.ref (He.ga K "At")) = some false
  nq_Over : NoEq K (He.ga K "Over")
  kit_Spread_Over : PySem.W.kitOne K (.ref (He.ga K "Spread")) (.ref (He.ga K "Over")) = some false
  f__wall : ∃ fd, FunD K "_wall" "_wall" (defArgs s__wall) (defBody s__wall) (defScope s__wall) [] [] (He.ga K "_wall") fd
  f_is_whole : ∃ fd, FunD K "is_whole" "is_whole" (defArgs s_is_whole) (defBody s_is_whole) (defScope s_is_whole) [] [] (He.ga K "is_whole") fd
  f_is_moment : ∃ fd, FunD K "is_moment" "is_moment" (defArgs s_is_moment) (defBody s_is_moment) (defScope s_is_moment) [] [] (He.ga K "is_moment") fd
  f_want_moment : ∃ fd, FunD K "want_moment" "want_moment" (defArgs s_want_moment) (defBody s_want_moment) (defScope s_want_moment) [] [] (He.ga K "want_moment") fd
  f_want_below : ∃ fd, FunD K "want_below" "want_below" (defArgs s_want_below) (defBody s_want_below) (defScope s_want_below) [] [] (He.ga K "want_below") fd
  f_moment_at : ∃ fd, FunD K "moment_at" "moment_at" (defArgs s_moment_at) (defBody s_moment_at) (defScope s_moment_at) [.int (0), .int (0), .int (0)] [] (He.ga K "moment_at") fd
  f_clock_of : ∃ fd, FunD K "clock_of" "clock_of" (defArgs s_clock_of) (defBody s_clock_of) (defScope s_clock_of) [] [] (He.ga K "clock_of") fd
  f_show_moment : ∃ fd, FunD K "show_moment" "show_moment" (defArgs s_show_moment) (defBody s_show_moment) (defScope s_show_moment) [] [] (He.ga K "show_moment") fd
  f_are_figures : ∃ fd, FunD K "are_figures" "are_figures" (defArgs s_are_figures) (defBody s_are_figures) (defScope s_are_figures) [] [] (He.ga K "are_figures") fd
  f_number_of : ∃ fd, FunD K "number_of" "number_of" (defArgs s_number_of) (defBody s_number_of) (defScope s_number_of) [] [] (He.ga K "number_of") fd
  f_day_of : ∃ fd, FunD K "day_of" "day_of" (defArgs s_day_of) (defBody s_day_of) (defScope s_day_of) [] [] (He.ga K "day_of") fd
  f_read_moment : ∃ fd, FunD K "read_moment" "read_moment" (defArgs s_read_moment) (defBody s_read_moment) (defScope s_read_moment) [] [] (He.ga K "read_moment") fd
  f_is_number : ∃ fd, FunD K "is_number" "is_number" (defArgs s_is_number) (defBody s_is_number) (defScope s_is_number) [] [] (He.ga K "is_number") fd
  f_Short_moments : ∃ fd, FunD K "moments" "Short.moments" (defArgs s_Short_moments) (defBody s_Short_moments) (defScope s_Short_moments) [] [] (He.ma K (He.ga K "Short") "moments") fd
  f_Short_pieces : ∃ fd, FunD K "pieces" "Short.pieces" (defArgs s_Short_pieces) (defBody s_Short_pieces) (defScope s_Short_pieces) [] [] (He.ma K (He.ga K "Short") "pieces") fd
  f_Short_begins : ∃ fd, FunD K "begins" "Short.begins" (defArgs s_Short_begins) (defBody s_Short_begins) (defScope s_Short_begins) [] [] (He.ma K (He.ga K "Short") "begins") fd
  f_Short_ends : ∃ fd, FunD K "ends" "Short.ends" (defArgs s_Short_ends) (defBody s_Short_ends) (defScope s_Short_ends) [] [] (He.ma K (He.ga K "Short") "ends") fd
  f_Short_means_many : ∃ fd, FunD K "means_many" "Short.means_many" (defArgs s_Short_means_many) (defBody s_Short_means_many) (defScope s_Short_means_many) [] [] (He.ma K (He.ga K "Short") "means_many") fd
  f_Short_nested : ∃ fd, FunD K "nested" "Short.nested" (defArgs s_Short_nested) (defBody s_Short_nested) (defScope s_Short_nested) [] [] (He.ma K (He.ga K "Short") "nested") fd
  f_all_rising : ∃ fd, FunD K "all_rising" "all_rising" (defArgs s_all_rising) (defBody s_all_rising) (defScope s_all_rising) [] [] (He.ga K "all_rising") fd
  f_shorts_in : ∃ fd, FunD K "shorts_in" "shorts_in" (defArgs s_shorts_in) (defBody s_shorts_in) (defScope s_shorts_in) [] [] (He.ga K "shorts_in") fd
  f_row_moments : ∃ fd, FunD K "row_moments" "row_moments" (defArgs s_row_moments) (defBody s_row_moments) (defScope s_row_moments) [] [] (He.ga K "row_moments") fd
  f_row_many : ∃ fd, FunD K "row_many" "row_many" (defArgs s_row_many) (defBody s_row_many) (defScope s_row_many) [] [] (He.ga K "row_many") fd
  f_row_text : ∃ fd, FunD K "row_text" "row_text" (defArgs s_row_text) (defBody s_row_text) (defScope s_row_text) [] [] (He.ga K "row_text") fd
  f_At_init : ∃ fd, FunD K "__init__" "At.__init__" (defArgs s_At_init) (defBody s_At_init) (defScope s_At_init) [] [] (He.ma K (He.ga K "At") "__init__") fd
  f_At_moments : ∃ fd, FunD K "moments" "At.moments" (defArgs s_At_moments) (defBody s_At_moments) (defScope s_At_moments) [] [] (He.ma K (He.ga K "At") "moments") fd
  f_At_pieces : ∃ fd, FunD K "pieces" "At.pieces" (defArgs s_At_pieces) (defBody s_At_pieces) (defScope s_At_pieces) [] [] (He.ma K (He.ga K "At") "pieces") fd
  f_At_begins : ∃ fd, FunD K "begins" "At.begins" (defArgs s_At_begins) (defBody s_At_begins) (defScope s_At_begins) [] [] (He.ma K (He.ga K "At") "begins") fd
  f_At_ends : ∃ fd, FunD K "ends" "At.ends" (defArgs s_At_ends) (defBody s_At_ends) (defScope s_At_ends) [] [] (He.ma K (He.ga K "At") "ends") fd
  f_At_means_many : ∃ fd, FunD K "means_many" "At.means_many" (defArgs s_At_means_many) (defBody s_At_means_many) (defScope s_At_means_many) [] [] (He.ma K (He.ga K "At") "means_many") fd
  f_At_nested : ∃ fd, FunD K "nested" "At.nested" (defArgs s_At_nested) (defBody s_At_nested) (defScope s_At_nested) [] [] (He.ma K (He.ga K "At") "nested") fd
  f_At_str : ∃ fd, FunD K "__str__" "At.__str__" (defArgs s_At_str) (defBody s_At_str) (defScope s_At_str) [] [] (He.ma K (He.ga K "At") "__str__") fd
  f_Over_init : ∃ fd, FunD K "__init__" "Over.__init__" (defArgs s_Over_init) (defBody s_Over_init) (defScope s_Over_init) [.int (2), .int (60)] [] (He.ma K (He.ga K "Over") "__init__") fd
  f_Over_parts : ∃ fd, FunD K "parts" "Over.parts" (defArgs s_Over_parts) (defBody s_Over_parts) (defScope s_Over_parts) [] [] (He.ma K (He.ga K "Over") "parts") fd
  f_Over_moments : ∃ fd, FunD K "moments" "Over.moments" (defArgs s_Over_moments) (defBody s_Over_moments) (defScope s_Over_moments) [] [] (He.ma K (He.ga K "Over") "moments") fd
  f_Over_pieces : ∃ fd, FunD K "pieces" "Over.pieces" (defArgs s_Over_pieces) (defBody s_Over_pieces) (defScope s_Over_pieces) [] [] (He.ma K (He.ga K "Over") "pieces") fd
  f_Over_begins : ∃ fd, FunD K "begins" "Over.begins" (defArgs s_Over_begins) (defBody s_Over_begins) (defScope s_Over_begins) [] [] (He.ma K (He.ga K "Over") "begins") fd
  f_Over_ends : ∃ fd, FunD K "ends" "Over.ends" (defArgs s_Over_ends) (defBody s_Over_ends) (defScope s_Over_ends) [] [] (He.ma K (He.ga K "Over") "ends") fd
  f_Over_means_many : ∃ fd, FunD K "means_many" "Over.means_many" (defArgs s_Over_means_many) (defBody s_Over_means_many) (defScope s_Over_means_many) [] [] (He.ma K (He.ga K "Over") "means_many") fd
  f_Over_nested : ∃ fd, FunD K "nested" "Over.nested" (defArgs s_Over_nested) (defBody s_Over_nested) (defScope s_Over_nested) [] [] (He.ma K (He.ga K "Over") "nested") fd
  f_Over_str : ∃ fd, FunD K "__str__" "Over.__str__" (defArgs s_Over_str) (defBody s_Over_str) (defScope s_Over_str) [] [] (He.ma K (He.ga K "Over") "__str__") fd
  f_Spread_init : ∃ fd, FunD K "__init__" "Spread.__init__" (defArgs s_Spread_init) (defBody s_Spread_init) (defScope s_Spread_init) [] [] (He.ma K (He.ga K "Spread") "__init__") fd
  f_Spread_parts : ∃ fd, FunD K "parts" "Spread.parts" (defArgs s_Spread_parts) (defBody s_Spread_parts) (defScope s_Spread_parts) [] [] (He.ma K (He.ga K "Spread") "parts") fd
  f_Spread_moments : ∃ fd, FunD K "moments" "Spread.moments" (defArgs s_Spread_moments) (defBody s_Spread_moments) (defScope s_Spread_moments) [] [] (He.ma K (He.ga K "Spread") "moments") fd
  f_Spread_pieces : ∃ fd, FunD K "pieces" "Spread.pieces" (defArgs s_Spread_pieces) (defBody s_Spread_pieces) (defScope s_Spread_pieces) [] [] (He.ma K (He.ga K "Spread") "pieces") fd
  f_Spread_eq : ∃ fd, FunD K "__eq__" "Spread.__eq__" (defArgs s_Spread_eq) (defBody s_Spread_eq) (defScope s_Spread_eq) [] [] (He.ma K (He.ga K "Spread") "__eq__") fd
  f_Spread_len : ∃ fd, FunD K "__len__" "Spread.__len__" (defArgs s_Spread_len) (defBody s_Spread_len) (defScope s_Spread_len) [] [] (He.ma K (He.ga K "Spread") "__len__") fd
  f_Spread_str : ∃ fd, FunD K "__str__" "Spread.__str__" (defArgs s_Spread_str) (defBody s_Spread_str) (defScope s_Spread_str) [] [] (He.ma K (He.ga K "Spread") "__str__") fd
  f_Spread_repr : ∃ fd, FunD K "__repr__" "Spread.__repr__" (defArgs s_Spread_repr) (defBody s_Spread_repr) (defScope s_Spread_repr) [] [] (He.ma K (He.ga K "Spread") "__repr__") fd
  f_number_in : ∃ fd, FunD K "number_in" "number_in" (defArgs s_number_in) (defBody s_number_in) (defScope s_number_in) [] [] (He.ga K "number_in") fd
  f_at_in : ∃ fd, FunD K "at_in" "at_in" (defArgs s_at_in) (defBody s_at_in) (defScope s_at_in) [] [] (He.ga K "at_in") fd
  f_item_end : ∃ fd, FunD K "item_end" "item_end" (defArgs s_item_end) (defBody s_item_end) (defScope s_item_end) [] [] (He.ga K "item_end") fd
  f_over_in : ∃ fd, FunD K "over_in" "over_in" (defArgs s_over_in) (defBody s_over_in) (defScope s_over_in) [] [] (He.ga K "over_in") fd
  f_read_on : ∃ fd, FunD K "read_on" "read_on" (defArgs s_read_on) (defBody s_read_on) (defScope s_read_on) [] [] (He.ga K "read_on") fd
  f_read_spread : ∃ fd, FunD K "read_spread" "read_spread" (defArgs s_read_spread) (defBody s_read_spread) (defScope s_read_spread) [] [] (He.ga K "read_spread") fd
  f__law_pot : ∃ fd, FunD K "_law_pot" "_law_pot" (defArgs s__law_pot) (defBody s__law_pot) (defScope s__law_pot) [] [] (He.ga K "_law_pot") fd
  f__law_draw : ∃ fd, FunD K "_law_draw" "_law_draw" (defArgs s__law_draw) (defBody s__law_draw) (defScope s__law_draw) [] [] (He.ga K "_law_draw") fd
  f__law_moments : ∃ fd, FunD K "_law_moments" "_law_moments" (defArgs s__law_moments) (defBody s__law_moments) (defScope s__law_moments) [] [] (He.ga K "_law_moments") fd
  f__law_row_moments : ∃ fd, FunD K "_law_row_moments" "_law_row_moments" (defArgs s__law_row_moments) (defBody s__law_row_moments) (defScope s__law_row_moments) [] [] (He.ga K "_law_row_moments") fd
  f__law_wide : ∃ fd, FunD K "_law_wide" "_law_wide" (defArgs s__law_wide) (defBody s__law_wide) (defScope s__law_wide) [] [] (He.ga K "_law_wide") fd
  f__law_gap : ∃ fd, FunD K "_law_gap" "_law_gap" (defArgs s__law_gap) (defBody s__law_gap) (defScope s__law_gap) [] [] (He.ga K "_law_gap") fd
  f__law_short : ∃ fd, FunD K "_law_short" "_law_short" (defArgs s__law_short) (defBody s__law_short) (defScope s__law_short) [] [] (He.ga K "_law_short") fd
  f__law_row : ∃ fd, FunD K "_law_row" "_law_row" (defArgs s__law_row) (defBody s__law_row) (defScope s__law_row) [] [] (He.ga K "_law_row") fd
  f__law_spread : ∃ fd, FunD K "_law_spread" "_law_spread" (defArgs s__law_spread) (defBody s__law_spread) (defScope s__law_spread) [] [] (He.ga K "_law_spread") fd
  f__law_made : ∃ fd, FunD K "_law_made" "_law_made" (defArgs s__law_made) (defBody s__law_made) (defScope s__law_made) [] [] (He.ga K "_law_made") fd
  f__law_flat : ∃ fd, FunD K "_law_flat" "_law_flat" (defArgs s__law_flat) (defBody s__law_flat) (defScope s__law_flat) [] [] (He.ga K "_law_flat") fd
  f__law_near : ∃ fd, FunD K "_law_near" "_law_near" (defArgs s__law_near) (defBody s__law_near) (defScope s__law_near) [] [] (He.ga K "_law_near") fd
  f__law_halved : ∃ fd, FunD K "_law_halved" "_law_halved" (defArgs s__law_halved) (defBody s__law_halved) (defScope s__law_halved) [] [] (He.ga K "_law_halved") fd
  f__law_equal : ∃ fd, FunD K "_law_equal" "_law_equal" (defArgs s__law_equal) (defBody s__law_equal) (defScope s__law_equal) [] [] (He.ga K "_law_equal") fd
  f__law_unlike : ∃ fd, FunD K "_law_unlike" "_law_unlike" (defArgs s__law_unlike) (defBody s__law_unlike) (defScope s__law_unlike) [] [] (He.ga K "_law_unlike") fd
  f__law_others_unlike : ∃ fd, FunD K "_law_others_unlike" "_law_others_unlike" (defArgs s__law_others_unlike) (defBody s__law_others_unlike) (defScope s__law_others_unlike) [] [] (He.ga K "_law_others_unlike") fd
  f__law_doubled_right : ∃ fd, FunD K "_law_doubled_right" "_law_doubled_right" (defArgs s__law_doubled_right) (defBody s__law_doubled_right) (defScope s__law_doubled_right) [] [] (He.ga K "_law_doubled_right") fd
  f__law_right : ∃ fd, FunD K "_law_right" "_law_right" (defArgs s__law_right) (defBody s__law_right) (defScope s__law_right) [] [] (He.ga K "_law_right") fd
  f_law : ∃ fd, FunD K "law" "law" (defArgs s_law) (defBody s_law) (defScope s_law) [] [] (He.ga K "law") fd
end Toy
namespace Toy
open PySem PySem.Spec PyProof.Rows L2 L3
theorem Env.k_is_whole {K : PySem.W.Frag} {mg : Str → Option Value} (T : Env K mg) : PySem.W.keepIn K (.ref (He.ga K "is_whole")) = true := let ⟨_, F⟩ := T.f_is_whole; F.kp
theorem Env.k_is_moment {K : PySem.W.Frag} {mg : Str → Option Value} (T : Env K mg) : PySem.W.keepIn K (.ref (He.ga K "is_moment")) = true := let ⟨_, F⟩ := T.f_is_moment; F.kp
theorem Env.k_want_moment {K : PySem.W.Frag} {mg : Str → Option Value} (T : Env K mg) : PySem.W.keepIn K (.ref (He.ga K "want_moment")) = true := let ⟨_, F⟩ := T.f_want_moment; F.kp
theorem Env.k_want_below {K : PySem.W.Frag} {mg : Str → Option Value} (T : Env K mg) : PySem.W.keepIn K (.ref (He.ga K "want_below")) = true := let ⟨_, F⟩ := T.f_want_below; F.kp
theorem Env.k_moment_at {K : PySem.W.Frag} {mg : Str → Option Value} (T : Env K mg) : PySem.W.keepIn K (.ref (He.ga K "moment_at")) = true := let ⟨_, F⟩ := T.f_moment_at; F.kp
theorem Env.k_clock_of {K : PySem.W.Frag} {mg : Str → Option Value} (T : Env K mg) : PySem.W.keepIn K (.ref (He.ga K "clock_of")) = true := let ⟨_, F⟩ := T.f_clock_of; F.kp
theorem Env.k_show_moment {K : PySem.W.Frag} {mg : Str → Option Value} (T : Env K mg) : PySem.W.keepIn K (.ref (He.ga K "show_moment")) = true := let ⟨_, F⟩ := T.f_show_moment; F.kp
theorem Env.k_are_figures {K : PySem.W.Frag} {mg : Str → Option Value} (T : Env K mg) : PySem.W.keepIn K (.ref (He.ga K "are_figures")) = true := let ⟨_, F⟩ := T.f_are_figures; F.kp
theorem Env.k_number_of {K : PySem.W.Frag} {mg : Str → Option Value} (T : Env K mg) : PySem.W.keepIn K (.ref (He.ga K "number_of")) = true := let ⟨_, F⟩ := T.f_number_of; F.kp
theorem Env.k_day_of {K : PySem.W.Frag} {mg : Str → Option Value} (T : Env K mg) : PySem.W.keepIn K (.ref (He.ga K "day_of")) = true := let ⟨_, F⟩ := T.f_day_of; F.kp
theorem Env.k_read_moment {K : PySem.W.Frag} {mg : Str → Option Value} (T : Env K mg) : PySem.W.keepIn K (.ref (He.ga K "read_moment")) = true := let ⟨_, F⟩ := T.f_read_moment; F.kp
theorem Env.k_is_number {K : PySem.W.Frag} {mg : Str → Option Value} (T : Env K mg) : PySem.W.keepIn K (.ref (He.ga K "is_number")) = true := let ⟨_, F⟩ := T.f_is_number; F.kp
theorem Env.k_all_rising {K : PySem.W.Frag} {mg : Str → Option Value} (T : Env K mg) : PySem.W.keepIn K (.ref (He.ga K "all_rising")) = true := let ⟨_, F⟩ := T.f_all_rising; F.kp
theorem Env.k_shorts_in {K : PySem.W.Frag} {mg : Str → Option Value} (T : Env K mg) : PySem.W.keepIn K (.ref (He.ga K "shorts_in")) = true := let ⟨_, F⟩ := T.f_shorts_in; F.kp
theorem Env.k_row_moments {K : PySem.W.Frag} {mg : Str → Option Value} (T : Env K mg) : PySem.W.keepIn K (.ref (He.ga K "row_moments")) = true := let ⟨_, F⟩ := T.f_row_moments; F.kp
theorem Env.k_row_many {K : PySem.W.Frag} {mg : Str → Option Value} (T : Env K mg) : PySem.W.keepIn K (.ref (He.ga K "row_many")) = true := let ⟨_, F⟩ := T.f_row_many; F.kp
theorem Env.k_row_text {K : PySem.W.Frag} {mg : Str → Option Value} (T : Env K mg) : PySem.W.keepIn K (.ref (He.ga K "row_text")) = true := let ⟨_, F⟩ := T.f_row_text; F.kp
theorem Env.k_number_in {K : PySem.W.Frag} {mg : Str → Option Value} (T : Env K mg) : PySem.W.keepIn K (.ref (He.ga K "number_in")) = true := let ⟨_, F⟩ := T.f_number_in; F.kp
theorem Env.k_at_in {K : PySem.W.Frag} {mg : Str → Option Value} (T : Env K mg) : PySem.W.keepIn K (.ref (He.ga K "at_in")) = true := let ⟨_, F⟩ := T.f_at_in; F.kp
theorem Env.k_item_end {K : PySem.W.Frag} {mg : Str → Option Value} (T : Env K mg) : PySem.W.keepIn K (.ref (He.ga K "item_end")) = true := let ⟨_, F⟩ := T.f_item_end; F.kp
theorem Env.k_over_in {K : PySem.W.Frag} {mg : Str → Option Value} (T : Env K mg) : PySem.W.keepIn K (.ref (He.ga K "over_in")) = true := let ⟨_, F⟩ := T.f_over_in; F.kp
theorem Env.k_read_on {K : PySem.W.Frag} {mg : Str → Option Value} (T : Env K mg) : PySem.W.keepIn K (.ref (He.ga K "read_on")) = true := let ⟨_, F⟩ := T.f_read_on; F.kp
theorem Env.k_read_spread {K : PySem.W.Frag} {mg : Str → Option Value} (T : Env K mg) : PySem.W.keepIn K (.ref (He.ga K "read_spread")) = true := let ⟨_, F⟩ := T.f_read_spread; F.kp
theorem Env.k__law_pot {K : PySem.W.Frag} {mg : Str → Option Value} (T : Env K mg) : PySem.W.keepIn K (.ref (He.ga K "_law_pot")) = true := let ⟨_, F⟩ := T.f__law_pot; F.kp
theorem Env.k__law_draw {K : PySem.W.Frag} {mg : Str → Option Value} (T : Env K mg) : PySem.W.keepIn K (.ref (He.ga K "_law_draw")) = true := let ⟨_, F⟩ := T.f__law_draw; F.kp
theorem Env.k__law_moments {K : PySem.W.Frag} {mg : Str → Option Value} (T : Env K mg) : PySem.W.keepIn K (.ref (He.ga K "_law_moments")) = true := let ⟨_, F⟩ := T.f__law_moments; F.kp
theorem Env.k__law_row_moments {K : PySem.W.Frag} {mg : Str → Option Value} (T : Env K mg) : PySem.W.keepIn K (.ref (He.ga K "_law_row_moments")) = true := let ⟨_, F⟩ := T.f__law_row_moments; F.kp
theorem Env.k__law_wide {K : PySem.W.Frag} {mg : Str → Option Value} (T : Env K mg) : PySem.W.keepIn K (.ref (He.ga K "_law_wide")) = true := let ⟨_, F⟩ := T.f__law_wide; F.kp
theorem Env.k__law_gap {K : PySem.W.Frag} {mg : Str → Option Value} (T : Env K mg) : PySem.W.keepIn K (.ref (He.ga K "_law_gap")) = true := let ⟨_, F⟩ := T.f__law_gap; F.kp
theorem Env.k__law_short {K : PySem.W.Frag} {mg : Str → Option Value} (T : Env K mg) : PySem.W.keepIn K (.ref (He.ga K "_law_short")) = true := let ⟨_, F⟩ := T.f__law_short; F.kp
theorem Env.k__law_row {K : PySem.W.Frag} {mg : Str → Option Value} (T : Env K mg) : PySem.W.keepIn K (.ref (He.ga K "_law_row")) = true := let ⟨_, F⟩ := T.f__law_row; F.kp
theorem Env.k__law_spread {K : PySem.W.Frag} {mg : Str → Option Value} (T : Env K mg) : PySem.W.keepIn K (.ref (He.ga K "_law_spread")) = true := let ⟨_, F⟩ := T.f__law_spread; F.kp
theorem Env.k__law_made {K : PySem.W.Frag} {mg : Str → Option Value} (T : Env K mg) : PySem.W.keepIn K (.ref (He.ga K "_law_made")) = true := let ⟨_, F⟩ := T.f__law_made; F.kp
theorem Env.k__law_flat {K : PySem.W.Frag} {mg : Str → Option Value} (T : Env K mg) : PySem.W.keepIn K (.ref (He.ga K "_law_flat")) = true := let ⟨_, F⟩ := T.f__law_flat; F.kp
theorem Env.k__law_near {K : PySem.W.Frag} {mg : Str → Option Value} (T : Env K mg) : PySem.W.keepIn K (.ref (He.ga K "_law_near")) = true := let ⟨_, F⟩ := T.f__law_near; F.kp
theorem Env.k__law_halved {K : PySem.W.Frag} {mg : Str → Option Value} (T : Env K mg) : PySem.W.keepIn K (.ref (He.ga K "_law_halved")) = true := let ⟨_, F⟩ := T.f__law_halved; F.kp
theorem Env.k__law_equal {K : PySem.W.Frag} {mg : Str → Option Value} (T : Env K mg) : PySem.W.keepIn K (.ref (He.ga K "_law_equal")) = true := let ⟨_, F⟩ := T.f__law_equal; F.kp
theorem Env.k__law_unlike {K : PySem.W.Frag} {mg : Str → Option Value} (T : Env K mg) : PySem.W.keepIn K (.ref (He.ga K "_law_unlike")) = true := let ⟨_, F⟩ := T.f__law_unlike; F.kp
theorem Env.k__law_others_unlike {K : PySem.W.Frag} {mg : Str → Option Value} (T : Env K mg) : PySem.W.keepIn K (.ref (He.ga K "_law_others_unlike")) = true := let ⟨_, F⟩ := T.f__law_others_unlike; F.kp
theorem Env.k__law_doubled_right {K : PySem.W.Frag} {mg : Str → Option Value} (T : Env K mg) : PySem.W.keepIn K (.ref (He.ga K "_law_doubled_right")) = true := let ⟨_, F⟩ := T.f__law_doubled_right; F.kp
theorem Env.k__law_right {K : PySem.W.Frag} {mg : Str → Option Value} (T : Env K mg) : PySem.W.keepIn K (.ref (He.ga K "_law_right")) = true := let ⟨_, F⟩ := T.f__law_right; F.kp
section
def sp_is_whole (K : PySem.W.Frag) : Sp := fun vs H Q _ => ∃ x, vs = [x] ∧ Cl K H x ∧ Q (.bl (isW x)) H
theorem fb_is_whole {P : Program} {w : World} {K : PySem.W.Frag} {mg : Str → Option Value} {base : Heap} (T : Env K mg) : ∃ fd, FunD K "is_whole" "is_whole" (defArgs s_is_whole) (defBody s_is_whole) (defScope s_is_whole) [] [] (He.ga K "is_whole") fd ∧ Fb P w K mg base 1 (He.ga K "is_whole") fd ["thing"] (sp_is_whole K) := by
  obtain ⟨fd, F⟩ := T.f_is_whole
  refine ⟨fd, F, fb_of F sc_is_whole (fun vs H Q E h => ?_) (fun cdv A outer s H vs Q E hr h => ?_)⟩
  · obtain ⟨x, rfl, _⟩ := h
    rfl
  · obtain ⟨x, rfl, ⟨t, b, c, ty, h1, h2, e⟩, q⟩ := h
    refine ⟨_, (pss_one (ps_ret (pe_and (pe_callB call_isi (by rfl) T.n_isinstance (by decide +kernel) (pa_cons (pv 0) (pa_cons (pe_bltn (v := .ty "int") (by rfl) T.n_int (by decide +kernel) rfl) pa_nil))) (pe_one (pe_not (pe_callB call_isi (by rfl) T.n_isinstance (by decide +kernel) (pa_cons (pv 0) (pa_cons (pe_bltn (v := .ty "bool") (by rfl) T.n_bool (by decide +kernel) rfl) pa_nil)))))))), ?_⟩
    refine ⟨x, rfl, x, .ty "int", t, _, b, rfl, .ty "int", ty, h1, b, rfl, ?_⟩
    rw [e] at q
    cases b with
    | false => exact q
    | true => exact ⟨x, rfl, x, .ty "bool", t, _, c, rfl, .ty "bool", ty, h2, c, rfl, q⟩
theorem ok_is_whole {P : Program} {w : World} {K : PySem.W.Frag} {mg : Str → Option Value} {base : Heap} (T : Env K mg) : Fc P w K mg base 1 (He.ga K "is_whole") [] (sp_is_whole K ) := by
  obtain ⟨fd, D, F⟩ := fb_is_whole T
  exact F.all (D.bindsN fun _ _ _ _ _ _ us hl => match us, hl with | [_], _ => rfl)
end
section
def sp_is_moment (K : PySem.W.Frag) : Sp := fun vs H Q _ => ∃ x, vs = [x] ∧ Cl K H x ∧ Q (.bl (isM x)) H
theorem fb_is_moment {P : Program} {w : World} {K : PySem.W.Frag} {mg : Str → Option Value} {base : Heap} (T : Env K mg) : ∃ fd, FunD K "is_moment" "is_moment" (defArgs s_is_moment) (defBody s_is_moment) (defScope s_is_moment) [] [] (He.ga K "is_moment") fd ∧ Fb P w K mg base 2 (He.ga K "is_moment") fd ["thing"] (sp_is_moment K) := by
  obtain ⟨fd, F⟩ := T.f_is_moment
  refine ⟨fd, F, fb_of F sc_is_moment (fun vs H Q E h => ?_) (fun cdv A outer s H vs Q E hr h => ?_)⟩
  · obtain ⟨x, rfl, _⟩ := h
    rfl
  · obtain ⟨x, rfl, cl, q⟩ := h
    refine ⟨_, (pss_one (ps_ret (pe_and (c_call (ok_is_whole T) (hr.mono (by decide)) T.g_is_whole T.k_is_whole takes0 (pa_cons (pv 0) pa_nil)) (pe_one (pe_cmpR op_ge (pv 0) pe_int (nomark _)))))), ?_⟩
    refine ⟨x, rfl, x, rfl, cl, isW x, rfl, ?_⟩
    cases x with
    | int i => exact ⟨_, rfl, i, 0, rfl, rfl, q⟩
    | _ => exact q
theorem ok_is_moment {P : Program} {w : World} {K : PySem.W.Frag} {mg : Str → Option Value} {base : Heap} (T : Env K mg) : Fc P w K mg base 2 (He.ga K "is_moment") [] (sp_is_moment K ) := by
  obtain ⟨fd, D, F⟩ := fb_is_moment T
  exact F.all (D.bindsN fun _ _ _ _ _ _ us hl => match us, hl with | [_], _ => rfl)
end
section
def sp_want_moment (K : PySem.W.Frag) : Sp := fun vs H Q E => ∃ x, vs = [x] ∧ Cl K H x ∧ (isM x = true → Q .non H) ∧ (isM x = false → E (.ref (He.ga K "NoTime")) none H)
theorem fb_want_moment {P : Program} {w : World} {K : PySem.W.Frag} {mg : Str → Option Value} {base : Heap} (T : Env K mg) : ∃ fd, FunD K "want_moment" "want_moment" (defArgs s_want_moment) (defBody s_want_moment) (defScope s_want_moment) [] [] (He.ga K "want_moment") fd ∧ FbN P w K mg base 3 (He.ga K "want_moment") fd ["thing"] (sp_want_moment K) := by
  obtain ⟨fd, F⟩ := T.f_want_moment
  refine ⟨fd, F, fbN_of F sc_want_moment (fun vs H Q E h => ?_) (fun cdv A outer s H vs Q E hr h => ?_)⟩
  · obtain ⟨x, rfl, _⟩ := h
    rfl
  · obtain ⟨x, rfl, cl, q, qe⟩ := h
    refine ⟨_, (pss_one (ps_if (pt_not (pt_val (c_call (ok_is_moment T) (hr.mono (by decide)) T.g_is_moment T.k_is_moment takes0 (pa_cons (pv 0) pa_nil))))
      (pss_one (L2N.ps_raise rfl (L2N.takes_of rfl rfl rfl rfl) (L2N.pmk_own PySem.F.excBase_ValueError T.x_NoTime.x T.g_NoTime T.x_NoTime.kp (raises_own T.x_NoTime.sub T.x_NoTime.ty) rfl)))
      pss_nil)), ?_⟩
    refine ⟨x, rfl, x, rfl, cl, isM x, rfl, ?_⟩
    cases e : isM x with
    | true => exact q e
    | false => exact qe e
theorem okN_want_moment {P : Program} {w : World} {K : PySem.W.Frag} {mg : Str → Option Value} {base : Heap} (T : Env K mg) : FcN P w K mg base 3 (He.ga K "want_moment") [] (sp_want_moment K ) := by
  obtain ⟨fd, D, F⟩ := fb_want_moment T
  exact F.all (D.bindsN fun _ _ _ _ _ _ us hl => match us, hl with | [_], _ => rfl)
theorem ok_want_moment {P : Program} {w : World} {K : PySem.W.Frag} {mg : Str → Option Value} {base : Heap} (T : Env K mg) : Fc P w K mg base 3 (He.ga K "want_moment") [] (sp_want_moment K ) := (okN_want_moment T).fc
end
section
def sp_want_below (K : PySem.W.Frag) : Sp := fun vs H Q E => ∃ x n, vs = [x, .int n] ∧ Cl K H x ∧ (isB n x = true → Q .non H) ∧ (isB n x = false → E (.ref (He.ga K "NoTime")) none H)
theorem fb_want_below {P : Program} {w : World} {K : PySem.W.Frag} {mg : Str → Option Value} {base : Heap} (T : Env K mg) : ∃ fd, FunD K "want_below" "want_below" (defArgs s_want_below) (defBody s_want_below) (defScope s_want_below) [] [] (He.ga K "want_below") fd ∧ FbN P w K mg base 4 (He.ga K "want_below") fd ["thing", "many"] (sp_want_below K) := by
  obtain ⟨fd, F⟩ := T.f_want_below
  refine ⟨fd, F, fbN_of F sc_want_below (fun vs H Q E h => ?_) (fun cdv A outer s H vs Q E hr h => ?_)⟩
  · obtain ⟨x, n, rfl, _⟩ := h
    rfl
  · obtain ⟨x, n, rfl, cl, q, qe⟩ := h
    refine ⟨_, (pss_cons (ps_expr (c_callN (okN_want_moment T) (hr.mono (by decide)) T.g_want_moment T.k_want_moment (L2N.takes_of rfl rfl rfl rfl) (pa_cons (pv 0) pa_nil)))
      (pss_one (ps_if (pt_cmpR op_ge (pv 0) (pv 1) (nomark _))
      (pss_one (L2N.ps_raise rfl (L2N.takes_of rfl rfl rfl rfl) (L2N.pmk_own PySem.F.excBase_ValueError T.x_NoTime.x T.g_NoTime T.x_NoTime.kp (raises_own T.x_NoTime.sub T.x_NoTime.ty) rfl)))
      pss_nil))), ?_⟩
    refine ⟨x, rfl, x, rfl, cl, fun e => ?_, fun e => ?_⟩
    · obtain ⟨i, rfl, hi⟩ := isM_w e
      refine ⟨_, rfl, _, rfl, i, n, rfl, rfl, _, rfl, ite2 (fun c => ?_) (fun c => ?_)⟩
      · have c2 : n ≤ i := of_decide_eq_true c
        exact qe (show (decide (0 ≤ i) && decide (i < n)) = false by rw [decide_eq_false (show ¬ i < n by omega), Bool.and_false])
      · have c2 : ¬ n ≤ i := fun z => c (decide_eq_true z)
        exact q (show (decide (0 ≤ i) && decide (i < n)) = true by rw [decide_eq_true hi, decide_eq_true (show i < n by omega)]; rfl)
    · refine qe ?_
      cases x with
      | int i => exact (show (decide (0 ≤ i) && decide (i < n)) = false by rw [show decide (0 ≤ i) = false from e]; rfl)
      | _ => rfl
theorem okN_want_below {P : Program} {w : World} {K : PySem.W.Frag} {mg : Str → Option Value} {base : Heap} (T : Env K mg) : FcN P w K mg base 4 (He.ga K "want_below") [] (sp_want_below K ) := by
  obtain ⟨fd, D, F⟩ := fb_want_below T
  exact F.all (D.bindsN fun _ _ _ _ _ _ us hl => match us, hl with | [_, _], _ => rfl)
end
section
/-- what moment_at tells -/
def isMA (a b c : V) : Bool := isM a && (isB 24 b && isB 60 c)
def sp_moment_at (K : PySem.W.Frag) : Sp := fun vs H Q E => ∃ a b c, vs = [a, b, c] ∧ Cl K H a ∧ Cl K H b ∧ Cl K H c ∧ (∀ d h m : Int, a = .int d → b = .int h → c = .int m → isMA a b c = true → Q (.int (d * 1440 + h * 60 + m)) H) ∧ (isMA a b c = false → E (.ref (He.ga K "NoTime")) none H)
theorem fb_moment_at {P : Program} {w : World} {K : PySem.W.Frag} {mg : Str → Option Value} {base : Heap} (T : Env K mg) : ∃ fd, FunD K "moment_at" "moment_at" (defArgs s_moment_at) (defBody s_moment_at) (defScope s_moment_at) [.int (0), .int (0), .int (0)] [] (He.ga K "moment_at") fd ∧ FbN P w K mg base 5 (He.ga K "moment_at") fd ["day", "hour", "minute"] (sp_moment_at K) := by
  obtain ⟨fd, F⟩ := T.f_moment_at
  refine ⟨fd, F, fbN_of F sc_moment_at (fun vs H Q E h => ?_) (fun cdv A outer s H vs Q E hr h => ?_)⟩
  · obtain ⟨a, b, c, rfl, _⟩ := h
    rfl
  · obtain ⟨a, b, c, rfl, ca, cb, cc, q, qe⟩ := h
    refine ⟨_, (pss_cons (ps_expr (c_callN (okN_want_moment T) (hr.mono (by decide)) T.g_want_moment T.k_want_moment (L2N.takes_of rfl rfl rfl rfl) (pa_cons (pv 0) pa_nil)))
      (pss_cons (ps_expr (c_callN (okN_want_below T) (hr.mono (by decide)) T.g_want_below T.k_want_below (L2N.takes_of rfl rfl rfl rfl) (pa_cons (pv 1) (pa_cons (pe_k T.v_HOURS) pa_nil))))
      (pss_cons (ps_expr (c_callN (okN_want_below T) (hr.mono (by decide)) T.g_want_below T.k_want_below (L2N.takes_of rfl rfl rfl rfl) (pa_cons (pv 2) (pa_cons (pe_k T.v_HOUR) pa_nil))))
      (pss_one (ps_ret (pe_op op_add (pe_op op_add (pe_op op_mul (pv 0) (pe_k T.v_DAY)) (pe_op op_mul (pv 1) (pe_k T.v_HOUR))) (pv 2))))))), ?_⟩
    refine ⟨a, rfl, a, rfl, ca, fun ea => ?_, fun ea => qe (by unfold isMA; rw [ea]; rfl)⟩
    refine ⟨b, rfl, b, 24, rfl, cb, fun eb => ?_, fun eb => qe (by unfold isMA; rw [ea, eb]; rfl)⟩
    refine ⟨c, rfl, c, 60, rfl, cc, fun ec => ?_, fun ec => qe (by unfold isMA; rw [ea, eb, ec]; rfl)⟩
    cases a with
    | int d =>
      cases b with
      | int h =>
        cases c with
        | int m =>
          refine ⟨_, rfl, _, _, rfl, rfl, .inr (by decide), _, rfl, _, _, rfl, rfl, .inr (by decide), _, _, rfl, rfl, _, rfl, _, _, rfl, rfl, ?_⟩
          exact q d h m rfl rfl rfl (by unfold isMA; rw [ea, eb, ec]; rfl)
        | _ => cases ec
      | _ => cases eb
    | _ => cases ea
theorem ma_good {K : PySem.W.Frag} {H : Hp} {Q : VK} {E : XK} {d h m : Int} (d0 : 0 ≤ d) (h0 : 0 ≤ h) (h1 : h < 24) (m0 : 0 ≤ m) (m1 : m < 60) (q : Q (.int (d * 1440 + h * 60 + m)) H) : sp_moment_at K [.int d, .int h, .int m] H Q E := by
  have e : isMA (.int d) (.int h) (.int m) = true := by
    show (decide (0 ≤ d) && ((decide (0 ≤ h) && decide (h < 24)) && (decide (0 ≤ m) && decide (m < 60)))) = true
    rw [decide_eq_true d0, decide_eq_true h0, decide_eq_true h1, decide_eq_true m0, decide_eq_true m1]
    rfl
  exact ⟨_, _, _, rfl, cl_int _, cl_int _, cl_int _, fun _ _ _ e1 e2 e3 _ => by cases e1; cases e2; cases e3; exact q, fun z => absurd (e.symm.trans z) Bool.noConfusion⟩
theorem okN_moment_at {P : Program} {w : World} {K : PySem.W.Frag} {mg : Str → Option Value} {base : Heap} (T : Env K mg) : FcN P w K mg base 5 (He.ga K "moment_at") [] (fun vs H Q E => vs.length = 3 + ([] : List Str).length ∧ sp_moment_at K  (pick [.inl 0, .inl 1, .inl 2] vs [.int (0), .int (0), .int (0)]) H Q E) := by
  obtain ⟨fd, D, F⟩ := fb_moment_at T
  exact FbN.shape D F 3 [] (fun us its => pick [.inl 0, .inl 1, .inl 2] us its) (by decide) (fun r1 r2 => pick_vals _ r1 r2) (fun T kV doc pm an cdv ct us ws its h1 h2 h3 => match us, ws, its, h1, h2, h3 with | [_, _, _], [], [_, _, _], _, _, _ => ⟨_, rfl, rfl⟩)
end
section
def clockV (m : Int) : List V := [.int (m / 1440), .int (m % 1440 / 60), .int (m % 60)]
def sp_clock_of (K : PySem.W.Frag) : Sp := fun vs H Q E => ∃ x, vs = [x] ∧ Cl K H x ∧ (∀ m : Int, x = .int m → 0 ≤ m → ∀ p, H p = none → Q (.ref p) (upd H p (.tup (clockV m)))) ∧ (isM x = false → E (.ref (He.ga K "NoTime")) none H)
theorem fb_clock_of {P : Program} {w : World} {K : PySem.W.Frag} {mg : Str → Option Value} {base : Heap} (T : Env K mg) : ∃ fd, FunD K "clock_of" "clock_of" (defArgs s_clock_of) (defBody s_clock_of) (defScope s_clock_of) [] [] (He.ga K "clock_of") fd ∧ Fb P w K mg base 4 (He.ga K "clock_of") fd ["moment"] (sp_clock_of K) := by
  obtain ⟨fd, F⟩ := T.f_clock_of
  refine ⟨fd, F, fb_of F sc_clock_of (fun vs H Q E h => ?_) (fun cdv A outer s H vs Q E hr h => ?_)⟩
  · obtain ⟨x, rfl, _⟩ := h
    rfl
  · obtain ⟨x, rfl, cl, q, qe⟩ := h
    refine ⟨_, (pss_cons (ps_expr (c_call (ok_want_moment T) (hr.mono (by decide)) T.g_want_moment T.k_want_moment (takes_of rfl rfl rfl rfl) (pa_cons (pv 0) pa_nil)))
      (pss_one (ps_ret (pe_tup (pa_cons (pe_op op_fdiv (pv 0) (pe_k T.v_DAY)) (pa_cons (pe_op op_fdiv (pe_op op_mod (pv 0) (pe_k T.v_DAY)) (pe_k T.v_HOUR)) (pa_cons (pe_op op_mod (pv 0) (pe_k T.v_HOUR)) pa_nil))))))), ?_⟩
    refine ⟨x, rfl, x, rfl, cl, fun e => ?_, qe⟩
    obtain ⟨m, rfl, hm⟩ := isM_w e
    refine ⟨_, rfl, _, _, rfl, rfl, ⟨by decide, by decide⟩, _, rfl, _, _, rfl, rfl, (by show (0 : Int) < 1440; decide), _, _, rfl, rfl, ⟨by decide, by decide⟩, _, rfl, _, _, rfl, rfl, (by show (0 : Int) < 60; decide), by show 3 ≤ sizeLine; decide, fun p hp => ?_⟩
    exact q m rfl hm p hp
theorem ok_clock_of {P : Program} {w : World} {K : PySem.W.Frag} {mg : Str → Option Value} {base : Heap} (T : Env K mg) : Fc P w K mg base 4 (He.ga K "clock_of") [] (sp_clock_of K ) := by
  obtain ⟨fd, D, F⟩ := fb_clock_of T
  exact F.all (D.bindsN fun _ _ _ _ _ _ us hl => match us, hl with | [_], _ => rfl)
end
section
def sp_show_moment (K : PySem.W.Frag) : Sp := fun vs H Q E => ∃ x, vs = [x] ∧ Cl K H x ∧ (∀ m : Nat, x = .int m → m < 10 ^ 255 ∧ ∀ H', Ex H H' → Q (.str (SX.S (Mo.shw m))) H') ∧ (isM x = false → E (.ref (He.ga K "NoTime")) none H)
theorem str_two : ∀ m : Nat, m < 60 → Txt.zfill (Str.ofString (toString ((m : Nat) : Int))) 2 = SX.S (Mo.two m) := by
  intro m h
  have all : ∀ m, m < 60 → TL.tl (Txt.zfill (Str.ofString (toString ((m : Nat) : Int))) 2) = Mo.two m := by decide +kernel
  exact TL.ext_tl (all m h)
theorem log_small {n : Nat} (h : n < 10 ^ 255) : ((n : Nat) : Int).natAbs.log2 < 1920 := PySem.Flt.log2_lt_of (by decide) (Nat.lt_trans (show ((n : Nat) : Int).natAbs < 10 ^ 255 by rw [Int.natAbs_natCast]; exact h) (by decide +kernel))
theorem fb_show_moment {P : Program} {w : World} {K : PySem.W.Frag} {mg : Str → Option Value} {base : Heap} (T : Env K mg) : ∃ fd, FunD K "show_moment" "show_moment" (defArgs s_show_moment) (defBody s_show_moment) (defScope s_show_moment) [] [] (He.ga K "show_moment") fd ∧ Fb P w K mg base 5 (He.ga K "show_moment") fd ["moment"] (sp_show_moment K) := by
  obtain ⟨fd, F⟩ := T.f_show_moment
  refine ⟨fd, F, fb_of F sc_show_moment (fun vs H Q E h => ?_) (fun cdv A outer s H vs Q E hr h => ?_)⟩
  · obtain ⟨x, rfl, _⟩ := h
    rfl
  · obtain ⟨x, rfl, cl, q, qe⟩ := h
    refine ⟨_, (pss_cons (ps_asg (c_call (ok_clock_of T) (hr.mono (by decide)) T.g_clock_of T.k_clock_of (takes_of rfl rfl rfl rfl) (pa_cons (pv 0) pa_nil)) (pg_tup (by rfl) (pgs_cons (pg_name (i := 1) sc_show_moment.nd rfl (Or.inl rfl)) (pgs_cons (pg_name (i := 2) sc_show_moment.nd rfl (Or.inl rfl)) (pgs_cons (pg_name (i := 3) sc_show_moment.nd rfl (Or.inl rfl)) pgs_nil)))))
      (pss_cons (ps_set (i := 4) sc_show_moment.nd rfl (Or.inl rfl) (pe_op op_add_str (pe_op op_add_str (pe_callTy call_str_int (by rfl) T.n_str (by decide +kernel) (pa_cons (pv 2) pa_nil)) (pe_k T.v_COLON)) (pe_bm PySem.F.plainAttrs_str PySem.F.slot_str_zfill PySem.F.type_str_zfill mt_zfill (pe_callTy call_str_int (by rfl) T.n_str (by decide +kernel) (pa_cons (pv 3) pa_nil)) (pa_cons pe_int pa_nil))))
      (pss_cons (ps_if (pt_cmpR op_eq (pv 1) pe_int (nomark _))
      (pss_one (ps_ret (pv 4)))
      pss_nil)
      (pss_one (ps_ret (pe_op op_add_str (pe_op op_add_str (pe_callTy call_str_int (by rfl) T.n_str (by decide +kernel) (pa_cons (pv 1) pa_nil)) (pe_k T.v_BLANK)) (pv 4))))))), ?_⟩
    refine ⟨x, rfl, x, rfl, cl, fun m e m0 t nt => ?_, qe⟩
    obtain ⟨m, rfl⟩ := Int.eq_ofNat_of_zero_le m0
    subst e
    obtain ⟨mb, q⟩ := q m rfl
    have X1 : Ex H (upd H t (.tup (clockV m))) := ex_new nt
    refine ⟨t, _, rfl, sq_tup upd_same, rfl, _, _, rfl, _, _, rfl, _, _, rfl, rfl, ?_⟩
    have e1 : ((m : Nat) : Int) / 1440 = ((m / 1440 : Nat) : Int) := by omega
    have e2 : ((m : Nat) : Int) % 1440 / 60 = ((m % 1440 / 60 : Nat) : Int) := by omega
    have e3 : ((m : Nat) : Int) % 60 = ((m % 60 : Nat) : Int) := by omega
    rw [e1, e2, e3]
    have l1 : (Mo.shw m).length ≤ 263 := Mo.shw_len (by decide) mb
    have l2 : (TL.numL (m % 1440 / 60)).length ≤ 2 := TL.numL_len (by decide) (by omega)
    have l3 : (TL.numL (m / 1440)).length ≤ 255 := TL.numL_len (by decide) (Nat.lt_of_le_of_lt (Nat.div_le_self _ _) mb)
    refine ⟨_, rfl, _, rfl, log_small (Nat.lt_of_le_of_lt (by omega) mb), ?_⟩
    rw [SX.num_S]
    have c1 : (SX.S (TL.numL (m % 1440 / 60)) ++ Str.ofString ":").length ≤ 1000 := by
      rw [TL.len_tl, TL.tl_append]
      simp only [List.length_append]
      have : (TL.tl (Str.ofString ":")).length = 1 := rfl
      show (TL.numL (m % 1440 / 60)).length + _ ≤ 1000
      omega
    refine ⟨_, _, rfl, rfl, Nat.le_of_lt (small_len (by have := SX.S_len (TL.numL (m % 1440 / 60)); have : (Str.ofString ":").length = 1 := rfl; omega)), ?_⟩
    refine ⟨_, rfl, _, rfl, log_small (Nat.lt_of_le_of_lt (Nat.mod_le _ _) mb), rfl, _, _, rfl, rfl, rfl, ?_⟩
    rw [show Txt.zfill (Str.ofString (toString ((m % 60 : Nat) : Int))) 2 = SX.S (Mo.two (m % 60)) from str_two _ (by omega)]
    refine ⟨_, _, rfl, rfl, Nat.le_of_lt (small_len (by have : (SX.S (Mo.two (m % 60))).length = 2 := rfl; omega)), ?_⟩
    have e4 : SX.S (TL.numL (m % 1440 / 60)) ++ Str.ofString ":" ++ SX.S (Mo.two (m % 60)) = SX.S (Mo.clk m) := by
      rw [show Str.ofString ":" = SX.S [58] from rfl, SX.S_cat, SX.S_cat]
      unfold Mo.clk
      simp
    rw [e4]
    have l4 : (Mo.clk m).length ≤ 5 := by
      unfold Mo.clk Mo.two
      simp
      omega
    refine ⟨_, rfl, rfl, _, rfl, ite2 (fun c => ?_) (fun c => ?_)⟩
    · have c2 : m / 1440 = 0 := by
        have := of_decide_eq_true c
        injection this with this
        omega
      refine ⟨_, rfl, ?_⟩
      have e5 : Mo.shw m = Mo.clk m := by unfold Mo.shw; rw [if_pos c2]
      rw [← e5]
      exact q _ X1
    · have c2 : ¬ m / 1440 = 0 := fun z => c (decide_eq_true (by rw [z]; rfl))
      refine ⟨_, rfl, _, rfl, log_small (Nat.lt_of_le_of_lt (Nat.div_le_self _ _) mb), ?_⟩
      rw [SX.num_S]
      refine ⟨_, _, rfl, rfl, Nat.le_of_lt (small_len (by have := SX.S_len (TL.numL (m / 1440)); have : (Str.ofString " ").length = 1 := rfl; omega)), ?_⟩
      rw [show Str.ofString " " = SX.S [32] from rfl, SX.S_cat]
      refine ⟨_, rfl, _, _, rfl, rfl, Nat.le_of_lt (small_len (by rw [SX.S_len, SX.S_len]; simp; omega)), ?_⟩
      rw [SX.S_cat]
      have e5 : Mo.shw m = TL.numL (m / 1440) ++ [32] ++ Mo.clk m := by unfold Mo.shw; rw [if_neg c2]; simp
      rw [← e5]
      exact q _ X1
theorem sm_good {K : PySem.W.Frag} {H : Hp} {Q : VK} {E : XK} {m : Nat} (mb : m < 10 ^ 255) (q : ∀ H', Ex H H' → Q (.str (SX.S (Mo.shw m))) H') : sp_show_moment K [.int m] H Q E :=
  ⟨_, rfl, cl_int _, fun k e => by
    have ek : k = m := by injection e with e; omega
    subst ek
    exact ⟨mb, q⟩, fun e => absurd e (by rw [show isM (.int m) = true from decide_eq_true (Int.natCast_nonneg m)]; decide)⟩
theorem ok_show_moment {P : Program} {w : World} {K : PySem.W.Frag} {mg : Str → Option Value} {base : Heap} (T : Env K mg) : Fc P w K mg base 5 (He.ga K "show_moment") [] (sp_show_moment K ) := by
  obtain ⟨fd, D, F⟩ := fb_show_moment T
  exact F.all (D.bindsN fun _ _ _ _ _ _ us hl => match us, hl with | [_], _ => rfl)
end
section
theorem fig_in (c : Nat) : decide (c ∈ (Str.ofString "0123456789").cps.toList) = Mo.isFig c := by
  have e : (Str.ofString "0123456789").cps.toList = [48, 49, 50, 51, 52, 53, 54, 55, 56, 57] := rfl
  rw [e]
  unfold Mo.isFig
  rw [← Bool.decide_and]
  apply decide_eq_decide.mpr
  simp only [List.mem_cons, List.not_mem_nil, or_false]
  omega
def sp_are_figures (K : PySem.W.Frag) : Sp := fun vs H Q _ => ∃ l : List Nat, vs = [.str (SX.S l)] ∧ l.length ≤ 100000 ∧ ∀ H', Ex H H' → Q (.bl (Mo.figs l)) H'
theorem fb_are_figures {P : Program} {w : World} {K : PySem.W.Frag} {mg : Str → Option Value} {base : Heap} (T : Env K mg) : ∃ fd, FunD K "are_figures" "are_figures" (defArgs s_are_figures) (defBody s_are_figures) (defScope s_are_figures) [] [] (He.ga K "are_figures") fd ∧ Fb P w K mg base 1 (He.ga K "are_figures") fd ["word"] (sp_are_figures K) := by
  obtain ⟨fd, F⟩ := T.f_are_figures
  refine ⟨fd, F, fb_of F sc_are_figures (fun vs H Q E h => ?_) (fun cdv A outer s H vs Q E hr h => ?_)⟩
  · obtain ⟨l, rfl, _⟩ := h
    rfl
  · obtain ⟨l, rfl, hl, q⟩ := h
    refine ⟨_, (pss_one (ps_ret (pe_and (pe_cmpR op_ne (pv 0) pe_str (nomark _)) (pe_one (pe_callB (cr_all rfl) (by rfl) T.n_all (by decide +kernel) (pa_cons (pe_lc (own := [("sign", 1)]) (by rfl) sc_are_figures.nd (pi_str (pv 0)) (blkOk_by (own := [("sign", 1)]) (N := ["word", "sign"]) (sc := defScope s_are_figures) (by decide +kernel)) (fun _ _ _ _ _ => (pg_name (i := 1) sc_are_figures.nd rfl (Or.inl rfl))) (fun _ _ _ _ _ => pts_nil) (fun _ _ _ _ _ => (pe_cmpR op_in_sign (pv 1) (pe_k T.v_FIGURES_clock) (by rfl)))) pa_nil)))))), ?_⟩
    refine ⟨_, rfl, rfl, _, rfl, ?_⟩
    by_cases h0 : l = []
    · subst h0
      rw [decide_eq_true (show V.str (SX.S []) = V.str (Str.ofString "") from rfl)]
      exact q H (.refl H)
    · rw [decide_eq_false (show ¬ V.str (SX.S l) = V.str (Str.ofString "") from fun z => h0 (by injection z with z; exact SX.S_inj z))]
      refine iteT ?_
      refine ⟨_, rfl, _, rfl, fun D nD => lc_fm L2.walk_str (fun i => some (.bl (Mo.isFig (l.getD i 0)))) (fun H' => Ex H H') (fun H' z e => ex_mut e nD) (.refl H) (by show l.toArray.size ≤ 100000; simpa using hl) (fun _ _ => trivial) (fun i x H1 H2 acc N hi e hD la y k => ?_) fun H1 e1 d1 => ?_⟩
      · obtain ⟨rfl, c, hc, rfl⟩ := y
        refine ⟨rfl, _, rfl, c, _, rfl, rfl, acc, hD, la, ?_⟩
        rw [fig_in]
        have e2 : l.getD i 0 = c := by
          have hc2 : l[i]? = some c := by simpa using hc
          rw [List.getD_eq_getElem?_getD, hc2]
          rfl
        have k2 := k H2 e hD
        rw [e2] at k2
        exact k2
      · refine ⟨D, l.map Mo.isFig, rfl, sq_lst ?_, ?_⟩
        · rw [d1]
          have e3 := range_map_get l 0 (fun c => V.bl (Mo.isFig c))
          have e4 : l.toArray.size = l.length := by simp
          show some (HO.lst (List.filterMap _ (List.range l.toArray.size))) = _
          rw [e4, e3, List.map_map]
          rfl
        · have e5 : (l.map Mo.isFig).all id = Mo.figs l := by
            unfold Mo.figs
            rw [List.all_map]
            cases l with
            | nil => exact absurd rfl h0
            | cons a r => rfl
          rw [e5]
          exact q H1 e1
theorem ok_are_figures {P : Program} {w : World} {K : PySem.W.Frag} {mg : Str → Option Value} {base : Heap} (T : Env K mg) : Fc P w K mg base 1 (He.ga K "are_figures") [] (sp_are_figures K ) := by
  obtain ⟨fd, D, F⟩ := fb_are_figures T
  exact F.all (D.bindsN fun _ _ _ _ _ _ us hl => match us, hl with | [_], _ => rfl)
end
section
def sp_number_of (K : PySem.W.Frag) : Sp := fun vs H Q E => ∃ l : List Nat, vs = [.str (SX.S l)] ∧ l.length ≤ 600 ∧ (∀ n, Mo.num? l = some n → ∀ H', Ex H H' → Q (.int n) H') ∧ (Mo.num? l = none → ∀ H', Ex H H' → E (.ref (He.ga K "NoTime")) none H')
theorem fb_number_of {P : Program} {w : World} {K : PySem.W.Frag} {mg : Str → Option Value} {base : Heap} (T : Env K mg) : ∃ fd, FunD K "number_of" "number_of" (defArgs s_number_of) (defBody s_number_of) (defScope s_number_of) [] [] (He.ga K "number_of") fd ∧ FbN P w K mg base 2 (He.ga K "number_of") fd ["word"] (sp_number_of K) := by
  obtain ⟨fd, F⟩ := T.f_number_of
  refine ⟨fd, F, fbN_of F sc_number_of (fun vs H Q E h => ?_) (fun cdv A outer s H vs Q E hr h => ?_)⟩
  · obtain ⟨l, rfl, _⟩ := h
    rfl
  · obtain ⟨l, rfl, hl, q, qe⟩ := h
    refine ⟨_, (pss_cons (ps_if (PW.pt (pw_or (pt_not (pt_val (c_call (ok_are_figures T) (hr.mono (by decide)) T.g_are_figures T.k_are_figures takes0 (pa_cons (pv 0) pa_nil)))) (pw_or1 (PW.pt (pw_and (pt_cmpR op_gt (pe_callB call_len (by rfl) T.n_len (by decide +kernel) (pa_cons (pv 0) pa_nil)) pe_int (nomark _)) (pw_and1 (pt_cmpR op_eq (pe_ix ix_str (pv 0) pe_int (fun _ _ => rfl)) (pe_ix ix_str (pe_k T.v_FIGURES_clock) pe_int (fun _ _ => rfl)) (nomark _))))))))
      (pss_one (L2N.ps_raise rfl (L2N.takes_of rfl rfl rfl rfl) (L2N.pmk_own PySem.F.excBase_ValueError T.x_NoTime.x T.g_NoTime T.x_NoTime.kp (raises_own T.x_NoTime.sub T.x_NoTime.ty) rfl)))
      pss_nil)
      (pss_one (ps_ret (pe_callTy call_int_str (by rfl) T.n_int (by decide +kernel) (pa_cons (pv 0) pa_nil))))), ?_⟩
    refine ⟨_, rfl, l, rfl, by omega, fun H1 X1 => ⟨_, rfl, ?_⟩⟩
    cases hf : Mo.figs l with
    | false => exact qe (by unfold Mo.num?; rw [hf]; rfl) H1 X1
    | true =>
      refine iteF ?_
      refine ⟨_, rfl, _, l.length, rfl, ⟨Nat.le_of_lt (small_len (by rw [SX.S_len]; omega)), (SX.S_len l).symm⟩, _, _, rfl, rfl, _, rfl, ?_⟩
      obtain ⟨h0, hd⟩ := Mo.figs_iff.mp hf
      have fin : (decide (1 < l.length) && l.head? == some 48) = false → (tRet (tCB (fun xs H Q => ∃ (a : Str) (n : Int), xs = [V.str a] ∧ intText? a = some n ∧ a.length ≤ 640 ∧ Q (.int n) H) (tCons (tVar 0) tNil))) { nx := fun _ H' => Q .non H', rt := Q } (start ["word"] [.str (SX.S l)]) H1 := fun hz => by
        refine ⟨_, rfl, _, _, rfl, SX.int_S (Mo.all_fig hd) h0 (by omega), by rw [SX.S_len]; omega, ?_⟩
        exact q (Mo.val l) (by unfold Mo.num?; rw [hf, hz]; rfl) H1 X1
      refine ite2 (fun c => ?_) (fun c => ?_)
      · have c2 : 1 < l.length := by have := of_decide_eq_true c; omega
        cases l with
        | nil => exact absurd rfl h0
        | cons a r =>
          refine ⟨_, rfl, _, _, a, rfl, rfl, Nat.le_of_lt (small_len (by rw [SX.S_len]; omega)), (show atI (a :: r) ((0 : Nat) : Int) = some a from atI_nat rfl), ?_⟩
          refine ⟨_, _, 48, rfl, rfl, by decide, rfl, rfl, _, rfl, ite2 (fun d => ?_) (fun d => ?_)⟩
          · have d2 : a = 48 := by
              have := of_decide_eq_true d
              injection this with this
              have z : [a] = [48] := SX.S_inj this
              injection z
            exact qe (by unfold Mo.num?; rw [hf, d2, decide_eq_true (by rw [d2] at c2; exact c2)]; rfl) H1 X1
          · have d2 : a ≠ 48 := fun z => d (decide_eq_true (by rw [z]))
            exact fin (by rw [decide_eq_true c2]; simpa using d2)
      · have c2 : ¬ 1 < l.length := fun z => c (decide_eq_true (by omega))
        exact fin (by rw [decide_eq_false c2]; rfl)
theorem okN_number_of {P : Program} {w : World} {K : PySem.W.Frag} {mg : Str → Option Value} {base : Heap} (T : Env K mg) : FcN P w K mg base 2 (He.ga K "number_of") [] (sp_number_of K ) := by
  obtain ⟨fd, D, F⟩ := fb_number_of T
  exact F.all (D.bindsN fun _ _ _ _ _ _ us hl => match us, hl with | [_], _ => rfl)
end
section
def sp_day_of (K : PySem.W.Frag) : Sp := fun vs H Q E => ∃ l : List Nat, vs = [.str (SX.S l)] ∧ l.length ≤ 600 ∧ (∀ n, Mo.dayOf l = some n → ∀ H', Ex H H' → Q (.int n) H') ∧ (Mo.dayOf l = none → ∀ H', Ex H H' → E (.ref (He.ga K "NoTime")) none H')
theorem fb_day_of {P : Program} {w : World} {K : PySem.W.Frag} {mg : Str → Option Value} {base : Heap} (T : Env K mg) : ∃ fd, FunD K "day_of" "day_of" (defArgs s_day_of) (defBody s_day_of) (defScope s_day_of) [] [] (He.ga K "day_of") fd ∧ FbN P w K mg base 3 (He.ga K "day_of") fd ["word"] (sp_day_of K) := by
  obtain ⟨fd, F⟩ := T.f_day_of
  refine ⟨fd, F, fbN_of F sc_day_of (fun vs H Q E h => ?_) (fun cdv A outer s H vs Q E hr h => ?_)⟩
  · obtain ⟨l, rfl, _⟩ := h
    rfl
  · obtain ⟨l, rfl, hl, q, qe⟩ := h
    refine ⟨_, (pss_cons (ps_set (i := 1) sc_day_of.nd rfl (Or.inl rfl) (c_callN (okN_number_of T) (hr.mono (by decide)) T.g_number_of T.k_number_of (L2N.takes_of rfl rfl rfl rfl) (pa_cons (pv 0) pa_nil)))
      (pss_cons (ps_if (pt_cmpR op_eq (pv 1) pe_int (nomark _))
      (pss_one (L2N.ps_raise rfl (L2N.takes_of rfl rfl rfl rfl) (L2N.pmk_own PySem.F.excBase_ValueError T.x_NoTime.x T.g_NoTime T.x_NoTime.kp (raises_own T.x_NoTime.sub T.x_NoTime.ty) rfl)))
      pss_nil)
      (pss_one (ps_ret (pv 1))))), ?_⟩
    refine ⟨_, rfl, l, rfl, hl, fun n hn H1 X1 => ?_, fun hn H1 X1 => qe (by unfold Mo.dayOf; rw [hn]) H1 X1⟩
    refine ⟨_, rfl, rfl, _, rfl, ite2 (fun c => ?_) (fun c => ?_)⟩
    · have c2 : n = 0 := by have := of_decide_eq_true c; injection this with this; omega
      exact qe (by unfold Mo.dayOf; rw [hn, c2]; rfl) H1 X1
    · refine ⟨_, rfl, q n ?_ H1 X1⟩
      unfold Mo.dayOf
      rw [hn]
      cases n with
      | zero => exact absurd (decide_eq_true rfl) c
      | succ k => rfl
theorem okN_day_of {P : Program} {w : World} {K : PySem.W.Frag} {mg : Str → Option Value} {base : Heap} (T : Env K mg) : FcN P w K mg base 3 (He.ga K "day_of") [] (sp_day_of K ) := by
  obtain ⟨fd, D, F⟩ := fb_day_of T
  exact F.all (D.bindsN fun _ _ _ _ _ _ us hl => match us, hl with | [_], _ => rfl)
end
section
def sp_read_moment (K : PySem.W.Frag) : Sp := fun vs H Q E => ∃ x, vs = [x] ∧ ((∃ l : List Nat, x = .str (SX.S l) ∧ l.length ≤ 600 ∧ (∀ n, Mo.momOf l = some n → ∀ H', Ex H H' → Q (.int n) H') ∧ (Mo.momOf l = none → ∀ H', Ex H H' → E (.ref (He.ga K "NoTime")) none H')) ∨
  (∃ t, TyX K H x t ∧ PySem.W.kitOne K t (.type "str") = some false ∧ E (.ref (He.ga K "NoTime")) none H))
theorem fb_read_moment {P : Program} {w : World} {K : PySem.W.Frag} {mg : Str → Option Value} {base : Heap} (T : Env K mg) : ∃ fd, FunD K "read_moment" "read_moment" (defArgs s_read_moment) (defBody s_read_moment) (defScope s_read_moment) [] [] (He.ga K "read_moment") fd ∧ FbN P w K mg base 6 (He.ga K "read_moment") fd ["text"] (sp_read_moment K) := by
  obtain ⟨fd, F⟩ := T.f_read_moment
  refine ⟨fd, F, fbN_of F sc_read_moment (fun vs H Q E h => ?_) (fun cdv A outer s H vs Q E hr h => ?_)⟩
  · obtain ⟨x, rfl, _⟩ := h
    rfl
  · obtain ⟨x, rfl, h⟩ := h
    refine ⟨_, (pss_cons (ps_if (pt_not (pt_val (pe_callB call_isi (by rfl) T.n_isinstance (by decide +kernel) (pa_cons (pv 0) (pa_cons (pe_bltn (v := .ty "str") (by rfl) T.n_str (by decide +kernel) rfl) pa_nil)))))
      (pss_one (L2N.ps_raise rfl (L2N.takes_of rfl rfl rfl rfl) (L2N.pmk_own PySem.F.excBase_ValueError T.x_NoTime.x T.g_NoTime T.x_NoTime.kp (raises_own T.x_NoTime.sub T.x_NoTime.ty) rfl)))
      pss_nil)
      (pss_cons (ps_asg (pe_rpartition (pv 0) (pe_k T.v_BLANK)) (pg_tup (by rfl) (pgs_cons (pg_name (i := 1) sc_read_moment.nd rfl (Or.inl rfl)) (pgs_cons (pg_name (i := 2) sc_read_moment.nd rfl (Or.inl rfl)) (pgs_cons (pg_name (i := 3) sc_read_moment.nd rfl (Or.inl rfl)) pgs_nil)))))
      (pss_cons (ps_set (i := 4) sc_read_moment.nd rfl (Or.inl rfl) pe_int)
      (Evl.pss_cut (ps_if (pt_cmpR op_ne (pv 2) pe_str (nomark _))
      (pss_one (ps_set (i := 4) sc_read_moment.nd rfl (Or.inl rfl) (c_callN (okN_day_of T) (hr.mono (by decide)) T.g_day_of T.k_day_of (L2N.takes_of rfl rfl rfl rfl) (pa_cons (pv 1) pa_nil))))
      pss_nil)
      (pss_cons (ps_asg (pe_partition (pv 3) (pe_k T.v_COLON)) (pg_tup (by rfl) (pgs_cons (pg_name (i := 5) sc_read_moment.nd rfl (Or.inl rfl)) (pgs_cons (pg_name (i := 6) sc_read_moment.nd rfl (Or.inl rfl)) (pgs_cons (pg_name (i := 7) sc_read_moment.nd rfl (Or.inl rfl)) pgs_nil)))))
      (pss_cons (ps_if (PW.pt (pw_or (pt_cmpR op_ne (pe_callB call_len (by rfl) T.n_len (by decide +kernel) (pa_cons (pv 7) pa_nil)) pe_int (nomark _)) (pw_or1 (pt_not (pt_val (c_call (ok_are_figures T) (hr.mono (by decide)) T.g_are_figures T.k_are_figures takes0 (pa_cons (pv 7) pa_nil)))))))
      (pss_one (L2N.ps_raise rfl (L2N.takes_of rfl rfl rfl rfl) (L2N.pmk_own PySem.F.excBase_ValueError T.x_NoTime.x T.g_NoTime T.x_NoTime.kp (raises_own T.x_NoTime.sub T.x_NoTime.ty) rfl)))
      pss_nil)
      (pss_one (ps_ret (c_callN (okN_moment_at T) (hr.mono (by decide)) T.g_moment_at T.k_moment_at (L2N.takes_of rfl rfl rfl rfl) (pa_cons (pv 4) (pa_cons (c_callN (okN_number_of T) (hr.mono (by decide)) T.g_number_of T.k_number_of (L2N.takes_of rfl rfl rfl rfl) (pa_cons (pv 5) pa_nil)) (pa_cons (pe_callTy call_int_str (by rfl) T.n_int (by decide +kernel) (pa_cons (pv 7) pa_nil)) pa_nil)))))))))))), ?_⟩
    rcases h with ⟨l, rfl, hl, q, qe⟩ | ⟨t, ty, kt, qe⟩
    · have ls : (SX.S l).length ≤ sizeLine := Nat.le_of_lt (small_len (by rw [SX.S_len]; omega))
      refine ⟨_, rfl, .str (SX.S l), .ty "str", _, _, true, rfl, .ty "str", .base (.str _), kit_ty (by decide +kernel), true, rfl, iteF ?_⟩
      refine ⟨_, rfl, ⟨_, rfl⟩, _, _, rfl, rfl, rfl, ls, fun p np => ?_⟩
      rw [show Str.ofString " " = SX.S [32] from rfl, Mo.rpartition_S]
      refine ⟨p, _, rfl, sq_tup upd_same, rfl, _, _, rfl, _, _, rfl, _, _, rfl, rfl, ?_⟩
      have X1 := fun o => ex_new (o := o) np
      refine ⟨fun σ' H' => Ex H H' ∧ ∃ (v1 v2 : Option V) (d : Nat) (t : List Nat), σ' = [some (.str (SX.S l)), v1, v2, some (.str (SX.S t)), some (.int d), none, none, none] ∧ t.length ≤ 600 ∧ Mo.momOf l = (Mo.clkOf t).map fun m => d * 1440 + m, ?_, ?_⟩
      · cases hc : Mo.rcut 32 l with
        | none =>
          refine ⟨_, rfl, rfl, _, rfl, iteF ?_⟩
          refine ⟨X1 _, _, _, 0, l, rfl, hl, ?_⟩
          unfold Mo.momOf
          rw [hc]
          simp
        | some z =>
          obtain ⟨h, t⟩ := z
          have el := (Mo.rcut_is hc).1
          have ll : h.length + t.length < l.length := by rw [el]; simp
          refine ⟨_, rfl, rfl, _, rfl, iteT ?_⟩
          refine ⟨_, rfl, h, rfl, by omega, fun n hn H1 e1 => ?_, fun hn H1 e1 => qe ?_ _ ((X1 _).trans e1)⟩
          · refine ⟨(X1 _).trans e1, _, _, n, t, rfl, by omega, ?_⟩
            unfold Mo.momOf
            rw [hc]
            simp only [hn]
          · unfold Mo.momOf
            rw [hc]
            simp only [hn]
      rintro σ' H2 ⟨X2, v1, v2, d, t, rfl, ht, em⟩
      have ts : (SX.S t).length ≤ sizeLine := Nat.le_of_lt (small_len (by rw [SX.S_len]; omega))
      refine ⟨_, rfl, ⟨_, rfl⟩, _, _, rfl, rfl, rfl, ts, fun p2 np2 => ?_⟩
      have X3 := fun o => X2.trans (ex_new (o := o) np2)
      rw [show Str.ofString ":" = SX.S [58] from rfl]
      cases hp : TL.par [58] [] t with
      | none =>
        rw [SX.partition_none (by decide) hp]
        refine ⟨p2, _, rfl, sq_tup upd_same, rfl, _, _, rfl, _, _, rfl, _, _, rfl, rfl, ?_⟩
        refine ⟨_, rfl, _, 0, rfl, ⟨Nat.zero_le _, rfl⟩, rfl, _, rfl, iteT ?_⟩
        refine qe ?_ _ (X3 _)
        rw [em]
        unfold Mo.clkOf
        rw [hp]
        rfl
      | some z =>
        obtain ⟨h, m⟩ := z
        rw [SX.partition_some (by decide) hp]
        refine ⟨p2, _, rfl, sq_tup upd_same, rfl, _, _, rfl, _, _, rfl, _, _, rfl, rfl, ?_⟩
        obtain ⟨h', eh, et, _⟩ := Mo.par_is hp
        have eh2 : h = h' := by rw [eh]; rfl
        subst eh2
        have tl : h.length + m.length < t.length := by rw [et]; simp
        have ms : (SX.S m).length ≤ sizeLine := Nat.le_of_lt (small_len (by rw [SX.S_len]; omega))
        refine ⟨_, rfl, _, m.length, rfl, ⟨ms, (SX.S_len m).symm⟩, rfl, _, rfl, ite2 (fun c => ?_) (fun c => ?_)⟩
        · refine qe ?_ _ (X3 _)
          have c2 : ¬ m.length = 2 := fun z => by
            rw [z] at c
            exact absurd c (by decide)
          rw [em]
          unfold Mo.clkOf
          rw [hp]
          show Option.map _ (if (decide (m.length = 2) && Mo.figs m) = true then _ else none) = none
          rw [decide_eq_false c2]
          rfl
        · have c2 : m.length = 2 := by
            by_cases z : m.length = 2
            · exact z
            · refine absurd ?_ c
              rw [decide_eq_false (show ¬ V.int ((m.length : Nat) : Int) = V.int 2 from fun y => z (by injection y with y; omega))]
              rfl
          refine ⟨_, rfl, m, rfl, by omega, fun H3 e3 => ⟨_, rfl, ?_⟩⟩
          have X4 : Ex H H3 := (X3 _).trans e3
          cases hf : Mo.figs m with
          | false =>
            refine qe ?_ _ X4
            rw [em]
            unfold Mo.clkOf
            rw [hp]
            show Option.map _ (if (decide (m.length = 2) && Mo.figs m) = true then _ else none) = none
            rw [hf, Bool.and_false]
            rfl
          | true =>
            refine iteF ?_
            obtain ⟨m0, md⟩ := Mo.figs_iff.mp hf
            have ec : ∀ k, Mo.num? h = some k → Mo.clkOf t = if k < 24 ∧ Mo.val m < 60 then some (k * 60 + Mo.val m) else none := fun k hk => by
              unfold Mo.clkOf
              rw [hp]
              show (if (decide (m.length = 2) && Mo.figs m) = true then (match Mo.num? h with | some k => if k < 24 ∧ Mo.val m < 60 then some (k * 60 + Mo.val m) else none | none => none) else none) = _
              rw [hf, decide_eq_true c2, hk]
              rfl
            refine ⟨_, rfl, _, rfl, h, rfl, by omega, fun k hk H4 e4 => ?_, fun hk H4 e4 => ?_⟩
            · refine ⟨_, rfl, _, _, rfl, SX.int_S (Mo.all_fig md) m0 (by omega), by rw [SX.S_len]; omega, rfl, ?_⟩
              have ek := ec k hk
              by_cases hg : k < 24 ∧ Mo.val m < 60
              · rw [if_pos hg] at ek
                refine ma_good (by omega) (by omega) (by omega) (by exact Int.natCast_nonneg _) (by exact Int.ofNat_lt.mpr hg.2) ?_
                have z := q (d * 1440 + (k * 60 + Mo.val m)) (by rw [em, ek]; rfl) H4 (X4.trans e4)
                have ez : ((d * 1440 + (k * 60 + Mo.val m) : Nat) : Int) = (d : Int) * 1440 + (k : Int) * 60 + (Mo.val m : Int) := by omega
                rw [ez] at z
                exact z
              · rw [if_neg hg] at ek
                refine ⟨_, _, _, rfl, cl_int _, cl_int _, cl_int _, fun d' h' m' e1 e2 e3 eb => ?_, fun _ => qe (by rw [em, ek]; rfl) H4 (X4.trans e4)⟩
                exfalso
                apply hg
                have eb2 : (decide ((0 : Int) ≤ (d : Int)) && ((decide ((0 : Int) ≤ (k : Int)) && decide ((k : Int) < 24)) && (decide ((0 : Int) ≤ (Mo.val m : Int)) && decide ((Mo.val m : Int) < 60)))) = true := eb
                simp only [Bool.and_eq_true, decide_eq_true_eq] at eb2
                omega
            · refine qe ?_ H4 (X4.trans e4)
              rw [em]
              unfold Mo.clkOf
              rw [hp]
              show Option.map _ (if (decide (m.length = 2) && Mo.figs m) = true then (match Mo.num? h with | some k => if k < 24 ∧ Mo.val m < 60 then some (k * 60 + Mo.val m) else none | none => none) else none) = none
              rw [hk]
              split <;> rfl
    · refine ⟨_, rfl, x, .ty "str", t, _, false, rfl, .ty "str", ty, kt, false, rfl, ?_⟩
      exact qe
theorem okN_read_moment {P : Program} {w : World} {K : PySem.W.Frag} {mg : Str → Option Value} {base : Heap} (T : Env K mg) : FcN P w K mg base 6 (He.ga K "read_moment") [] (sp_read_moment K ) := by
  obtain ⟨fd, D, F⟩ := fb_read_moment T
  exact F.all (D.bindsN fun _ _ _ _ _ _ us hl => match us, hl with | [_], _ => rfl)
end
section
def isN (n : Int) (x : V) : Bool := isW x && (match x with | .int i => decide (n ≤ i) | _ => false)
def sp_is_number (K : PySem.W.Frag) : Sp := fun vs H Q _ => ∃ x n, vs = [x, .int n] ∧ Cl K H x ∧ Q (.bl (isN n x)) H
theorem fb_is_number {P : Program} {w : World} {K : PySem.W.Frag} {mg : Str → Option Value} {base : Heap} (T : Env K mg) : ∃ fd, FunD K "is_number" "is_number" (defArgs s_is_number) (defBody s_is_number) (defScope s_is_number) [] [] (He.ga K "is_number") fd ∧ Fb P w K mg base 1 (He.ga K "is_number") fd ["thing", "least"] (sp_is_number K) := by
  obtain ⟨fd, F⟩ := T.f_is_number
  refine ⟨fd, F, fb_of F sc_is_number (fun vs H Q E h => ?_) (fun cdv A outer s H vs Q E hr h => ?_)⟩
  · obtain ⟨x, n, rfl, _⟩ := h
    rfl
  · obtain ⟨x, n, rfl, ⟨t, b, c, ty, h1, h2, e⟩, q⟩ := h
    refine ⟨_, (pss_one (ps_ret (pe_and (pe_callB call_isi (by rfl) T.n_isinstance (by decide +kernel) (pa_cons (pv 0) (pa_cons (pe_bltn (v := .ty "int") (by rfl) T.n_int (by decide +kernel) rfl) pa_nil))) (pe_and (pe_not (pe_callB call_isi (by rfl) T.n_isinstance (by decide +kernel) (pa_cons (pv 0) (pa_cons (pe_bltn (v := .ty "bool") (by rfl) T.n_bool (by decide +kernel) rfl) pa_nil)))) (pe_one (pe_cmpR op_ge (pv 0) (pv 1) (nomark _))))))), ?_⟩
    refine ⟨x, rfl, x, .ty "int", t, _, b, rfl, .ty "int", ty, h1, b, rfl, ?_⟩
    unfold isN at q
    rw [e] at q
    cases b with
    | false => exact q
    | true =>
      refine ⟨x, rfl, x, .ty "bool", t, _, c, rfl, .ty "bool", ty, h2, c, rfl, ?_⟩
      cases c with
      | true => exact ⟨false, rfl, q⟩
      | false =>
        refine ⟨true, rfl, iteT ?_⟩
        cases x with
        | int i => exact ⟨_, rfl, _, rfl, i, n, rfl, rfl, q⟩
        | _ => cases e
theorem ok_is_number {P : Program} {w : World} {K : PySem.W.Frag} {mg : Str → Option Value} {base : Heap} (T : Env K mg) : Fc P w K mg base 1 (He.ga K "is_number") [] (sp_is_number K ) := by
  obtain ⟨fd, D, F⟩ := fb_is_number T
  exact F.all (D.bindsN fun _ _ _ _ _ _ us hl => match us, hl with | [_, _], _ => rfl)
end
section
theorem ex_made {H : Hp} {x dx : Addr} {o1 o2 : HO} (nx : H x = none) (nd : H dx = none) (ne : dx ≠ x) : Ex H (upd (upd H dx o1) x o2) := fun b o e => by
  rw [upd_ne (ne_of_none e nx), upd_ne (ne_of_none e nd)]
  exact e
end
section
abbrev AtC (K : PySem.W.Frag) : Addr := He.ga K "At"
/-- at a an At of a moment -/
def AtAt (K : PySem.W.Frag) (H : Hp) (a : Addr) (n : Nat) : Prop := ∃ dx, H a = some (.ins (AtC K) dx [("moment", .int (n : Nat))])
theorem AtAt.mono {K : PySem.W.Frag} {H H' : Hp} {a : Addr} {n : Nat} (h : AtAt K H a n) (e : Ex H H') : AtAt K H' a n := let ⟨dx, h⟩ := h; ⟨dx, e _ _ h⟩
def sp_At_init (K : PySem.W.Frag) : Sp := fun vs H Q E => ∃ a dx x, vs = [.ref a, x] ∧ H a = some (.ins (AtC K) dx []) ∧ Cl K H x ∧ (isN 0 x = true → Q .non (upd H a (.ins (AtC K) dx [("moment", x)]))) ∧ (isN 0 x = false → E (.ref (He.ga K "NoPiece")) none H)
theorem fb_At_init {P : Program} {w : World} {K : PySem.W.Frag} {mg : Str → Option Value} {base : Heap} (T : Env K mg) : ∃ fd, FunD K "__init__" "At.__init__" (defArgs s_At_init) (defBody s_At_init) (defScope s_At_init) [] [] (He.ma K (He.ga K "At") "__init__") fd ∧ Fb P w K mg base 2 (He.ma K (He.ga K "At") "__init__") fd ["self", "moment"] (sp_At_init K) := by
  obtain ⟨fd, F⟩ := T.f_At_init
  refine ⟨fd, F, fb_of F sc_At_init (fun vs H Q E h => ?_) (fun cdv A outer s H vs Q E hr h => ?_)⟩
  · obtain ⟨a, dx, x, rfl, _⟩ := h
    rfl
  · obtain ⟨a, dx, x, rfl, ha, cl, q, qe⟩ := h
    refine ⟨_, (pss_cons (ps_if (pt_not (pt_val (c_call (ok_is_number T) (hr.mono (by decide)) T.g_is_number T.k_is_number (takes_of rfl rfl rfl rfl) (pa_cons (pv 1) (pa_cons pe_int pa_nil)))))
      (pss_one (ps_raise rfl (takes_of rfl rfl rfl rfl) (pmk_own PySem.F.excBase_ValueError T.x_NoPiece.x T.g_NoPiece T.x_NoPiece.kp (raises_own T.x_NoPiece.sub T.x_NoPiece.ty) rfl)))
      pss_nil)
      (pss_one (ps_fld (pv 0) (pv 1) rfl))), ?_⟩
    refine ⟨_, rfl, x, 0, rfl, cl, _, rfl, ?_⟩
    cases e : isN 0 x with
    | false => exact qe e
    | true =>
      refine iteF ?_
      refine ⟨_, rfl, _, rfl, a, _, dx, [], rfl, ha, T.c_At, T.a_At_moment, by decide, ?_⟩
      exact q e
theorem isN_nat {n m : Nat} (h : m ≤ n) : isN (m : Int) (.int (n : Nat)) = true := by
  show (true && decide ((m : Int) ≤ (n : Int))) = true
  rw [decide_eq_true (by omega)]
  rfl
theorem at_new {K : PySem.W.Frag} {H : Hp} {x dx : Addr} {n : Nat} {Q : VK} {E : XK} (nx : H x = none) (nd : H dx = none) (ne : dx ≠ x) (q : ∀ H', Ex H H' → AtAt K H' x n → Q .non H') :
    sp_At_init K [.ref x, .int (n : Nat)] (upd (upd H dx (.own x)) x (.ins (AtC K) dx [])) Q E := by
  refine ⟨x, dx, _, rfl, upd_same, cl_int _, fun _ => q _ ?_ ⟨dx, upd_same⟩, fun z => ?_⟩
  · exact ex_mut (ex_made nx nd ne) nx
  · rw [show isN 0 (.int (n : Nat)) = true from isN_nat (m := 0) (Nat.zero_le _)] at z
    cases z
theorem ok_At_init {P : Program} {w : World} {K : PySem.W.Frag} {mg : Str → Option Value} {base : Heap} (T : Env K mg) : Fc P w K mg base 2 (He.ma K (He.ga K "At") "__init__") [] (sp_At_init K ) := by
  obtain ⟨fd, D, F⟩ := fb_At_init T
  exact F.all (D.bindsN fun _ _ _ _ _ _ us hl => match us, hl with | [_, _], _ => rfl)
end
section
def sp_At_ends (K : PySem.W.Frag) : Sp := fun vs H Q _ => ∃ a n, vs = [.ref a] ∧ AtAt K H a n ∧ Q (.int (n : Nat)) H
theorem fb_At_ends {P : Program} {w : World} {K : PySem.W.Frag} {mg : Str → Option Value} {base : Heap} (T : Env K mg) : ∃ fd, FunD K "ends" "At.ends" (defArgs s_At_ends) (defBody s_At_ends) (defScope s_At_ends) [] [] (He.ma K (He.ga K "At") "ends") fd ∧ Fb P w K mg base 1 (He.ma K (He.ga K "At") "ends") fd ["self"] (sp_At_ends K) := by
  obtain ⟨fd, F⟩ := T.f_At_ends
  refine ⟨fd, F, fb_of F sc_At_ends (fun vs H Q E h => ?_) (fun cdv A outer s H vs Q E hr h => ?_)⟩
  · obtain ⟨a, n, rfl, _⟩ := h
    rfl
  · obtain ⟨a, n, rfl, ⟨dx, ha⟩, q⟩ := h
    refine ⟨_, (pss_one (ps_ret (pe_fld (pv 0) (by rfl)))), ?_⟩
    exact ⟨_, rfl, a, _, dx, _, _, rfl, ha, T.c_At, T.a_At_moment, rfl, q⟩
theorem ok_At_ends {P : Program} {w : World} {K : PySem.W.Frag} {mg : Str → Option Value} {base : Heap} (T : Env K mg) : Fc P w K mg base 1 (He.ma K (He.ga K "At") "ends") [] (sp_At_ends K ) := by
  obtain ⟨fd, D, F⟩ := fb_At_ends T
  exact F.all (D.bindsN fun _ _ _ _ _ _ us hl => match us, hl with | [_], _ => rfl)
end
section
/-- whole numbers as values -/
def natV (ns : List Nat) : List V := ns.map fun n : Nat => V.int (n : Int)
theorem natV_len (ns : List Nat) : (natV ns).length = ns.length := by
  unfold natV
  rw [List.length_map]
theorem cut1 (xs : List V) : cutV xs (some 1) none = xs.drop 1 := by
  unfold cutV
  rw [HT.sIx_none, show (some (1 : Int)) = some ((1 : Nat) : Int) from rfl, HT.sIx_nat]
  cases xs with
  | nil => rfl
  | cons x r =>
    rw [show min 1 (x :: r).length = 1 by simp]
    exact List.take_of_length_le (by simp)
theorem natV_snoc (ns : List Nat) (n : Nat) : natV ns ++ [.int (n : Int)] = natV (ns ++ [n]) := by
  unfold natV
  rw [List.map_append]
  rfl
theorem natV_get {ns : List Nat} {k n : Nat} (h : ns[k]? = some n) : (natV ns)[k]? = some (.int (n : Int)) := by
  unfold natV
  rw [List.getElem?_map, h]
  rfl
theorem vint_dec (a b : Int) : decide (V.int a = V.int b) = decide (a = b) := decide_eq_decide.mpr ⟨fun h => by injection h, fun h => by rw [h]⟩
end
section
/-- the moments of ns, over and over -/
def overN (ns : List Nat) (m s : Nat) : List Nat := (List.range m).flatMap fun t => ns.map fun n => n + t * s
theorem overN_len (ns : List Nat) (m s : Nat) : (overN ns m s).length = m * ns.length := by
  unfold overN
  induction m with
  | zero => simp
  | succ m ih =>
    rw [List.range_succ, List.flatMap_append, List.length_append, ih]
    simp
    rw [Nat.add_mul, Nat.one_mul]
theorem overN_succ (ns : List Nat) (m s : Nat) : overN ns (m + 1) s = overN ns m s ++ ns.map fun n => n + m * s := by
  unfold overN
  rw [List.range_succ, List.flatMap_append]
  simp
/-- shorts -/
inductive Tr where
  | at (n : Nat)
  | ov (ps : List Tr) (m s : Nat)
mutual
def Tr.moms : Tr → List Nat
  | .at n => [n]
  | .ov ps m s => overN (momsL ps) m s
def momsL : List Tr → List Nat
  | [] => []
  | t :: ts => t.moms ++ momsL ts
end
mutual
def Tr.nest : Tr → Nat
  | .at _ => 0
  | .ov ps _ _ => 1 + nestL ps
def nestL : List Tr → Nat
  | [] => 0
  | t :: ts => max t.nest (nestL ts)
end
mutual
def Tr.pcs : Tr → Nat
  | .at _ => 1
  | .ov ps _ _ => 1 + pcsL ps
def pcsL : List Tr → Nat
  | [] => 0
  | t :: ts => t.pcs + pcsL ts
end
theorem pcsL_app (a b : List Tr) : pcsL (a ++ b) = pcsL a + pcsL b := by
  induction a with
  | nil => simp [pcsL]
  | cons t r ih => simp [pcsL, ih, Nat.add_assoc]
theorem momsL_app (a b : List Tr) : momsL (a ++ b) = momsL a ++ momsL b := by
  induction a with
  | nil => simp [momsL]
  | cons t r ih => simp [momsL, ih]
theorem nestL_mem {t : Tr} : ∀ {ts : List Tr}, t ∈ ts → t.nest ≤ nestL ts
  | x :: r, h => by
    show _ ≤ max x.nest (nestL r)
    rcases List.mem_cons.mp h with rfl | h
    · exact Nat.le_max_left _ _
    · exact Nat.le_trans (nestL_mem h) (Nat.le_max_right _ _)
theorem nestL_max : ∀ {ts : List Tr}, ts ≠ [] → ∃ t ∈ ts, t.nest = nestL ts
  | [t], _ => ⟨t, List.mem_cons_self, by show _ = max t.nest 0; omega⟩
  | t :: x :: r, _ => by
    obtain ⟨y, hy, e⟩ := nestL_max (ts := x :: r) (by simp)
    have e2 : nestL (t :: x :: r) = max t.nest (nestL (x :: r)) := by simp [nestL]
    by_cases c : nestL (x :: r) ≤ t.nest
    · exact ⟨t, List.mem_cons_self, by omega⟩
    · exact ⟨y, List.mem_cons_of_mem _ hy, by omega⟩
theorem momsL_take {ts : List Tr} {i : Nat} {t : Tr} (h : ts[i]? = some t) : momsL (ts.take (i + 1)) = momsL (ts.take i) ++ t.moms := by
  rw [take_snoc h, momsL_app]
  simp [momsL]
theorem momsL_take_len (ts : List Tr) (i : Nat) : (momsL (ts.take i)).length ≤ (momsL ts).length := by
  conv => rhs; rw [← List.take_append_drop i ts, momsL_app, List.length_append]
  omega
mutual
/-- a short that may be made -/
def Tr.ok : Tr → Prop
  | .at _ => True
  | .ov ps m s => ps ≠ [] ∧ 2 ≤ m ∧ 1 ≤ s ∧ m * (momsL ps).length ≤ 1440 ∧ (momsL ps).getLastD 0 < s + (momsL ps).headD 0 ∧ (momsL ps).Pairwise (· < ·) ∧ okL_ ps
def okL_ : List Tr → Prop
  | [] => True
  | t :: ts => t.ok ∧ okL_ ts
end
theorem okL_mem {t : Tr} : ∀ {ts : List Tr}, okL_ ts → t ∈ ts → t.ok
  | x :: r, h, hm => by
    unfold okL_ at h
    rcases List.mem_cons.mp hm with rfl | hm
    · exact h.1
    · exact okL_mem h.2 hm
theorem pos_moms (t : Tr) (h : t.ok) : 1 ≤ t.moms.length := by
  match t, h with
  | .at n, _ =>
    unfold Tr.moms
    exact Nat.le_refl _
  | .ov (x :: r) m s, h =>
    unfold Tr.ok at h
    obtain ⟨_, h2, _, _, _, _, h7⟩ := h
    unfold Tr.moms
    rw [overN_len]
    have hx : 1 ≤ x.moms.length := pos_moms x (by unfold okL_ at h7; exact h7.1)
    have : 1 ≤ (momsL (x :: r)).length := by
      unfold momsL
      rw [List.length_append]
      omega
    exact Nat.le_trans (by decide) (Nat.mul_le_mul h2 this)
  | .ov [] m s, h =>
    unfold Tr.ok at h
    exact absurd rfl h.1
theorem len_moms : ∀ {ts : List Tr}, okL_ ts → ts.length ≤ (momsL ts).length
  | [], _ => Nat.le_refl _
  | t :: ts, h => by
    unfold okL_ at h
    have h1 := pos_moms t h.1
    have h2 := len_moms h.2
    unfold momsL
    rw [List.length_cons, List.length_append]
    omega
theorem ov_facts {ps : List Tr} {m s : Nat} (h : (Tr.ov ps m s).ok) : ps ≠ [] ∧ 2 ≤ m ∧ m ≤ 1440 ∧ m * (momsL ps).length ≤ 1440 ∧ (momsL ps).length ≤ 1440 ∧ ps.length ≤ 1440 ∧ okL_ ps := by
  unfold Tr.ok at h
  obtain ⟨h1, h2, h3, h4, _, _, h7⟩ := h
  have h8 := len_moms h7
  have h9 : 0 < ps.length := List.length_pos_iff.mpr h1
  have h10 : m ≤ m * (momsL ps).length := Nat.le_mul_of_pos_right m (by omega)
  have h11 : (momsL ps).length ≤ m * (momsL ps).length := Nat.le_mul_of_pos_left _ (by omega)
  exact ⟨h1, h2, by omega, h4, by omega, by omega, h7⟩
theorem momsL_few : ∀ {ts : List Tr}, okL_ ts → (momsL ts).length ≤ 1440 * ts.length
  | [], _ => by
    unfold momsL
    exact Nat.zero_le _
  | t :: r, h => by
    have h1 : t.moms.length ≤ 1440 := by
      have h2 := h
      unfold okL_ at h2
      cases t with
      | «at» n =>
        unfold Tr.moms
        show 1 ≤ 1440
        decide
      | ov ps m s =>
        have h3 := h2.1
        unfold Tr.ok at h3
        unfold Tr.moms
        rw [overN_len]
        exact h3.2.2.2.1
    have h2 : (momsL r).length ≤ 1440 * r.length := momsL_few (by unfold okL_ at h; exact h.2)
    unfold momsL
    rw [List.length_append, List.length_cons]
    omega
theorem ov_nest {ps : List Tr} {m s d : Nat} (h : (Tr.ov ps m s).nest ≤ d + 1) : nestL ps ≤ d := by
  unfold Tr.nest at h
  omega
theorem headD_app {a b : List Nat} (h : a ≠ []) : (a ++ b).headD 0 = a.headD 0 := by
  cases a with
  | nil => exact absurd rfl h
  | cons x r => rfl
theorem lastD_app {a b : List Nat} (h : b ≠ []) : (a ++ b).getLastD 0 = b.getLastD 0 := by
  rw [List.getLastD_eq_getLast?, List.getLastD_eq_getLast?, List.getLast?_append]
  cases hb : b.getLast? with
  | none => exact absurd (List.getLast?_eq_none_iff.mp hb) h
  | some x => rfl
theorem lastD_map {a : List Nat} (k : Nat) (h : a ≠ []) : (a.map fun n => n + k).getLastD 0 = a.getLastD 0 + k := by
  rw [List.getLastD_eq_getLast?, List.getLastD_eq_getLast?, List.getLast?_map]
  cases hb : a.getLast? with
  | none => exact absurd (List.getLast?_eq_none_iff.mp hb) h
  | some x => rfl
theorem overN_head {ns : List Nat} {s : Nat} (h : ns ≠ []) : ∀ m, 1 ≤ m → (overN ns m s).headD 0 = ns.headD 0
  | 1, _ => by
    rw [overN_succ]
    show ([] ++ ns.map fun n => n + 0 * s).headD 0 = _
    cases ns with
    | nil => exact absurd rfl h
    | cons x r => simp
  | m + 2, _ => by
    have ih := overN_head (s := s) h (m + 1) (by omega)
    have ne : overN ns (m + 1) s ≠ [] := fun z => by
      have := congrArg List.length z
      rw [overN_len] at this
      have p : 0 < ns.length := List.length_pos_iff.mpr h
      have : (m + 1) * ns.length = 0 := this
      have := Nat.mul_pos (show 0 < m + 1 by omega) p
      omega
    rw [overN_succ, headD_app ne, ih]
theorem overN_last {ns : List Nat} {m s : Nat} (h : ns ≠ []) (hm : 1 ≤ m) : (overN ns m s).getLastD 0 = ns.getLastD 0 + (m - 1) * s := by
  obtain ⟨k, rfl⟩ : ∃ k, m = k + 1 := ⟨m - 1, by omega⟩
  rw [overN_succ, lastD_app (by intro z; exact h (List.map_eq_nil_iff.mp z)), lastD_map _ h]
  rfl
theorem moms_ne {t : Tr} (h : t.ok) : t.moms ≠ [] := fun z => by
  have := pos_moms t h
  rw [z] at this
  exact absurd this (by decide)
theorem momsL_ne {ts : List Tr} (h : okL_ ts) (h0 : ts ≠ []) : momsL ts ≠ [] := fun z => by
  have h1 := len_moms h
  rw [z] at h1
  exact h0 (List.length_eq_zero_iff.mp (Nat.le_zero.mp h1))
theorem momsL_head {t : Tr} {ts : List Tr} (h : okL_ (t :: ts)) : (momsL (t :: ts)).headD 0 = t.moms.headD 0 := by
  have e : momsL (t :: ts) = t.moms ++ momsL ts := by simp [momsL]
  rw [e, headD_app (moms_ne (okL_mem h List.mem_cons_self))]
theorem momsL_last {t : Tr} {ts : List Tr} (h : okL_ (ts ++ [t])) : (momsL (ts ++ [t])).getLastD 0 = t.moms.getLastD 0 := by
  have ht : t.ok := okL_mem h (List.mem_append_right _ List.mem_cons_self)
  have e : momsL [t] = t.moms := by simp [momsL]
  rw [momsL_app, e, lastD_app (moms_ne ht)]
theorem last_ref {as : List Addr} (h : as ≠ []) : ∃ b, as[as.length - 1]? = some b ∧ atI (as.map V.ref) (-1) = some (.ref b) := by
  refine ⟨as.getLast h, ?_, ?_⟩
  · have p : 0 < as.length := List.length_pos_iff.mpr h
    rw [List.getLast_eq_getElem, List.getElem?_eq_getElem (by omega)]
  · have e := (List.dropLast_concat_getLast h).symm
    generalize as.getLast h = z at e
    rw [e, List.map_append]
    exact atI_last _ _
/-- rising: each behind the end of the one ahead -/
def risB (ts : List Tr) : Bool := (ts.zip (ts.drop 1)).all fun p => decide (p.1.moms.getLastD 0 < p.2.moms.headD 0)
theorem all_repT (n : Nat) : (List.replicate n true).all id = true := by
  induction n with
  | zero => rfl
  | succ n ih =>
    rw [List.replicate_succ, List.all_cons, ih]
    rfl
theorem le_lastD {ns : List Nat} (h : ns.Pairwise (· < ·)) : ∀ n ∈ ns, n ≤ ns.getLastD 0 := fun n hn => by
  have h0 : ns ≠ [] := fun z => by rw [z] at hn; cases hn
  have e : ns.getLastD 0 = ns.getLast h0 := by
    rw [List.getLastD_eq_getLast?, List.getLast?_eq_some_getLast h0]
    rfl
  rw [e]
  have ec := (List.dropLast_concat_getLast h0).symm
  generalize ns.getLast h0 = z at ec
  rw [ec] at hn h
  rcases List.mem_append.mp hn with hm | hm
  · exact Nat.le_of_lt ((List.pairwise_append.mp h).2.2 n hm z (List.mem_singleton.mpr rfl))
  · rw [List.mem_singleton.mp hm]
    exact Nat.le_refl _
theorem headD_le {ns : List Nat} (h : ns.Pairwise (· < ·)) : ∀ n ∈ ns, ns.headD 0 ≤ n := fun n hn => by
  cases ns with
  | nil => cases hn
  | cons x r =>
    show x ≤ n
    rcases List.mem_cons.mp hn with rfl | hm
    · exact Nat.le_refl _
    · exact Nat.le_of_lt ((List.pairwise_cons.mp h).1 n hm)
theorem mem_overN {ns : List Nat} {m s x : Nat} : x ∈ overN ns m s ↔ ∃ t n, t < m ∧ n ∈ ns ∧ x = n + t * s := by
  unfold overN
  rw [List.mem_flatMap]
  constructor
  · rintro ⟨t, ht, h⟩
    obtain ⟨n, hn, rfl⟩ := List.mem_map.mp h
    exact ⟨t, n, List.mem_range.mp ht, hn, rfl⟩
  · rintro ⟨t, n, ht, hn, rfl⟩
    exact ⟨t, List.mem_range.mpr ht, List.mem_map.mpr ⟨n, hn, rfl⟩⟩
theorem overN_sorted {ns : List Nat} {s : Nat} (h : ns.Pairwise (· < ·)) (hs : ns.getLastD 0 < s + ns.headD 0) : ∀ m, (overN ns m s).Pairwise (· < ·)
  | 0 => .nil
  | m + 1 => by
    rw [overN_succ]
    refine List.pairwise_append.mpr ⟨overN_sorted h hs m, List.pairwise_map.mpr (h.imp fun {a b} z => by omega), fun a ha b hb => ?_⟩
    obtain ⟨t, n, ht, hn, rfl⟩ := mem_overN.mp ha
    obtain ⟨k, hk, rfl⟩ := List.mem_map.mp hb
    have h1 := le_lastD h n hn
    have h2 := headD_le h k hk
    have h3 : t * s + s ≤ m * s := by
      have := Nat.mul_le_mul_right s (show t + 1 ≤ m by omega)
      rw [Nat.add_mul, Nat.one_mul] at this
      exact this
    omega
mutual
theorem sorted_moms : ∀ {t : Tr}, t.ok → t.moms.Pairwise (· < ·)
  | .at n, _ => by
    unfold Tr.moms
    exact List.pairwise_singleton _ _
  | .ov ps m s, h => by
    unfold Tr.ok at h
    obtain ⟨_, _, _, _, h5, h6, _⟩ := h
    unfold Tr.moms
    exact overN_sorted h6 h5 m
end
theorem risB_cons {t x : Tr} {r : List Tr} (h : risB (t :: x :: r) = true) : t.moms.getLastD 0 < x.moms.headD 0 ∧ risB (x :: r) = true := by
  have h : (decide (t.moms.getLastD 0 < x.moms.headD 0) && risB (x :: r)) = true := h
  obtain ⟨h1, h2⟩ := Bool.and_eq_true_iff.mp h
  exact ⟨of_decide_eq_true h1, h2⟩
theorem ris_sorted : ∀ {ts : List Tr}, okL_ ts → risB ts = true → (momsL ts).Pairwise (· < ·)
  | [], _, _ => by
    unfold momsL
    exact .nil
  | [t], h, _ => by
    have e : momsL [t] = t.moms := by simp [momsL]
    rw [e]
    exact sorted_moms (okL_mem h List.mem_cons_self)
  | t :: x :: r, h, hr => by
    obtain ⟨h1, h2⟩ := risB_cons hr
    have hok : okL_ (x :: r) := by
      unfold okL_ at h
      exact h.2
    have ih := ris_sorted hok h2
    have e : momsL (t :: x :: r) = t.moms ++ momsL (x :: r) := by rw [momsL]
    rw [e]
    refine List.pairwise_append.mpr ⟨sorted_moms (okL_mem h List.mem_cons_self), ih, fun a ha b hb => ?_⟩
    have g1 := le_lastD (sorted_moms (okL_mem h List.mem_cons_self)) a ha
    have g2 := headD_le ih b hb
    rw [momsL_head hok] at g2
    omega
theorem lastD_mem {ns : List Nat} (h : ns ≠ []) : ns.getLastD 0 ∈ ns := by
  rw [List.getLastD_eq_getLast?, List.getLast?_eq_some_getLast h]
  exact List.getLast_mem h
theorem headD_mem {ns : List Nat} (h : ns ≠ []) : ns.headD 0 ∈ ns := by
  cases ns with
  | nil => exact absurd rfl h
  | cons x r => exact List.mem_cons_self
theorem ris_of : ∀ {ts : List Tr}, okL_ ts → (momsL ts).Pairwise (· < ·) → risB ts = true
  | [], _, _ => rfl
  | [t], _, _ => rfl
  | t :: x :: r, h, hs => by
    have hok : okL_ (x :: r) := by
      unfold okL_ at h
      exact h.2
    have e : momsL (t :: x :: r) = t.moms ++ momsL (x :: r) := by rw [momsL]
    rw [e] at hs
    obtain ⟨h1, h2, h3⟩ := List.pairwise_append.mp hs
    have ih := ris_of hok h2
    have lt := h3 _ (lastD_mem (moms_ne (okL_mem h List.mem_cons_self))) _ (headD_mem (momsL_ne hok (by simp)))
    rw [momsL_head hok] at lt
    show (decide (t.moms.getLastD 0 < x.moms.headD 0) && risB (x :: r)) = true
    rw [decide_eq_true lt, ih]
    rfl
end
section
abbrev OverC (K : PySem.W.Frag) : Addr := He.ga K "Over"
def overF (kp : Addr) (m s : Nat) : List (Str × V) := [("kept", .ref kp), ("many", .int (m : Nat)), ("step", .int (s : Nat))]
mutual
/-- at a this short -/
def ShAt (K : PySem.W.Frag) (H : Hp) : Tr → Addr → Prop
  | .at n, a => AtAt K H a n
  | .ov ps m s, a => ∃ dx kp as, H a = some (.ins (OverC K) dx (overF kp m s)) ∧ H kp = some (.tup (as.map V.ref)) ∧ ShsAt K H ps as
def ShsAt (K : PySem.W.Frag) (H : Hp) : List Tr → List Addr → Prop
  | [], as => as = []
  | t :: ts, as => ∃ a r, as = a :: r ∧ ShAt K H t a ∧ ShsAt K H ts r
end
mutual
theorem ShAt.mono {K : PySem.W.Frag} {H H' : Hp} (e : Ex H H') : ∀ {t : Tr} {a : Addr}, ShAt K H t a → ShAt K H' t a
  | .at n, a, h => by
    unfold ShAt at h ⊢
    exact AtAt.mono h e
  | .ov ps m s, a, h => by
    unfold ShAt at h ⊢
    obtain ⟨dx, kp, as, h1, h2, h3⟩ := h
    exact ⟨dx, kp, as, e _ _ h1, e _ _ h2, ShsAt.mono e h3⟩
theorem ShsAt.mono {K : PySem.W.Frag} {H H' : Hp} (e : Ex H H') : ∀ {ts : List Tr} {as : List Addr}, ShsAt K H ts as → ShsAt K H' ts as
  | [], as, h => by
    unfold ShsAt at h ⊢
    exact h
  | t :: ts, as, h => by
    unfold ShsAt at h ⊢
    obtain ⟨a, r, h1, h2, h3⟩ := h
    exact ⟨a, r, h1, ShAt.mono e h2, ShsAt.mono e h3⟩
end
theorem ShsAt.len {K : PySem.W.Frag} {H : Hp} : ∀ {ts : List Tr} {as : List Addr}, ShsAt K H ts as → as.length = ts.length
  | [], as, h => by
    unfold ShsAt at h
    rw [h]
    rfl
  | t :: ts, as, h => by
    unfold ShsAt at h
    obtain ⟨a, r, rfl, _, h3⟩ := h
    rw [List.length_cons, List.length_cons, ShsAt.len h3]
theorem ShsAt.get {K : PySem.W.Frag} {H : Hp} : ∀ {ts : List Tr} {as : List Addr} {i : Nat} {a : Addr}, ShsAt K H ts as → as[i]? = some a → ∃ t, ts[i]? = some t ∧ ShAt K H t a
  | [], as, i, a, h, hi => by
    unfold ShsAt at h
    rw [h] at hi
    cases hi
  | t :: ts, as, i, a, h, hi => by
    unfold ShsAt at h
    obtain ⟨b, r, rfl, h2, h3⟩ := h
    cases i with
    | zero =>
      cases hi
      exact ⟨t, rfl, h2⟩
    | succ i => exact ShsAt.get (i := i) h3 hi
/-- nothing in it is a list -/
theorem ShAt.ins {K : PySem.W.Frag} {H : Hp} {t : Tr} {a : Addr} (h : ShAt K H t a) : ∃ C dx fs, H a = some (.ins C dx fs) := by
  cases t with
  | «at» n =>
    unfold ShAt at h
    obtain ⟨dx, h⟩ := h
    exact ⟨_, dx, _, h⟩
  | ov ps m s =>
    unfold ShAt at h
    obtain ⟨dx, kp, as, h1, _⟩ := h
    exact ⟨_, dx, _, h1⟩
mutual
theorem ShAt.oth {K : PySem.W.Frag} {H H' : Hp} {d : Addr} (o : Oth d H H') (hd : ∀ ob, H d = some ob → (∃ xs, ob = .lst xs)) : ∀ {t : Tr} {a : Addr}, ShAt K H t a → ShAt K H' t a
  | .at n, a, h => by
    unfold ShAt at h ⊢
    obtain ⟨dx, h⟩ := h
    refine ⟨dx, o _ _ (fun z => ?_) h⟩
    obtain ⟨xs, e⟩ := hd _ (z ▸ h)
    cases e
  | .ov ps m s, a, h => by
    unfold ShAt at h ⊢
    obtain ⟨dx, kp, as, h1, h2, h3⟩ := h
    refine ⟨dx, kp, as, o _ _ (fun z => ?_) h1, o _ _ (fun z => ?_) h2, ShsAt.oth o hd h3⟩
    · obtain ⟨xs, e⟩ := hd _ (z ▸ h1)
      cases e
    · obtain ⟨xs, e⟩ := hd _ (z ▸ h2)
      cases e
theorem ShsAt.oth {K : PySem.W.Frag} {H H' : Hp} {d : Addr} (o : Oth d H H') (hd : ∀ ob, H d = some ob → (∃ xs, ob = .lst xs)) : ∀ {ts : List Tr} {as : List Addr}, ShsAt K H ts as → ShsAt K H' ts as
  | [], as, h => by
    unfold ShsAt at h ⊢
    exact h
  | t :: ts, as, h => by
    unfold ShsAt at h ⊢
    obtain ⟨a, r, h1, h2, h3⟩ := h
    exact ⟨a, r, h1, ShAt.oth o hd h2, ShsAt.oth o hd h3⟩
end
def sp_Over_moments (K : PySem.W.Frag) (d : Nat) : Sp := fun vs H Q _ => ∃ a ps m s, vs = [.ref a] ∧ ShAt K H (.ov ps m s) a ∧ (Tr.ov ps m s).nest ≤ d ∧ (Tr.ov ps m s).ok ∧ ∀ p H', Ex H H' → H p = none → H' p = some (.lst (natV (Tr.ov ps m s).moms)) → Q (.ref p) H'
def sp_Over_means_many (K : PySem.W.Frag) (d : Nat) : Sp := fun vs H Q _ => ∃ a ps m s, vs = [.ref a] ∧ ShAt K H (.ov ps m s) a ∧ (Tr.ov ps m s).nest ≤ d ∧ okL_ ps ∧ ps.length ≤ 20000 ∧ ∀ H', Ex H H' → Q (.int ((m * (momsL ps).length : Nat) : Int)) H'
def sp_Over_nested (K : PySem.W.Frag) (d : Nat) : Sp := fun vs H Q _ => ∃ a ps m s, vs = [.ref a] ∧ ShAt K H (.ov ps m s) a ∧ (Tr.ov ps m s).nest ≤ d ∧ ps ≠ [] ∧ okL_ ps ∧ ps.length ≤ 20000 ∧ ∀ H', Ex H H' → Q (.int (((Tr.ov ps m s).nest : Nat) : Int)) H'
def sp_Over_begins (K : PySem.W.Frag) (d : Nat) : Sp := fun vs H Q _ => ∃ a ps m s, vs = [.ref a] ∧ ShAt K H (.ov ps m s) a ∧ (Tr.ov ps m s).nest ≤ d ∧ (Tr.ov ps m s).ok ∧ Q (.int ((((Tr.ov ps m s).moms.headD 0 : Nat)) : Int)) H
def sp_Over_ends (K : PySem.W.Frag) (d : Nat) : Sp := fun vs H Q _ => ∃ a ps m s, vs = [.ref a] ∧ ShAt K H (.ov ps m s) a ∧ (Tr.ov ps m s).nest ≤ d ∧ (Tr.ov ps m s).ok ∧ Q (.int ((((Tr.ov ps m s).moms.getLastD 0 : Nat)) : Int)) H
theorem ShsAt.snoc {K : PySem.W.Frag} {H : Hp} {t : Tr} {a : Addr} : ∀ {ts : List Tr} {as : List Addr}, ShsAt K H ts as → ShAt K H t a → ShsAt K H (ts ++ [t]) (as ++ [a])
  | [], as, h, ha => by
    unfold ShsAt at h
    rw [h]
    show ShsAt K H [t] [a]
    unfold ShsAt
    exact ⟨a, [], rfl, ha, by unfold ShsAt; rfl⟩
  | x :: ts, as, h, ha => by
    unfold ShsAt at h
    obtain ⟨b, r, rfl, h2, h3⟩ := h
    show ShsAt K H (x :: (ts ++ [t])) (b :: (r ++ [a]))
    unfold ShsAt
    exact ⟨b, r ++ [a], rfl, h2, ShsAt.snoc h3 ha⟩
end
section
theorem fb_Over_ends {P : Program} {w : World} {K : PySem.W.Frag} {mg : Str → Option Value} {base : Heap} (T : Env K mg) {d L : Nat} (hL : 40 ≤ L) (r_Over_ends : Fc P w K mg base L (He.ma K (He.ga K "Over") "ends") [] (sp_Over_ends K d)) : ∃ fd, FunD K "ends" "Over.ends" (defArgs s_Over_ends) (defBody s_Over_ends) (defScope s_Over_ends) [] [] (He.ma K (He.ga K "Over") "ends") fd ∧ Fb P w K mg base (L + 1) (He.ma K (He.ga K "Over") "ends") fd ["self"] (sp_Over_ends K (d + 1)) := by
  obtain ⟨fd, F⟩ := T.f_Over_ends
  refine ⟨fd, F, fb_of F sc_Over_ends (fun vs H Q E h => ?_) (fun cdv A outer s H vs Q E hr h => ?_)⟩
  · obtain ⟨a, ps, m, s, rfl, _⟩ := h
    rfl
  · obtain ⟨a, ps, m, s_, rfl, hO, hn, hok, q⟩ := h
    refine ⟨_, (pss_one (ps_ret (pe_op op_add (pe_orE (c_meth0 (pe_ix ix_tup (pe_fld (pv 0) (by rfl)) (pe_un un_neg pe_int) (fun _ _ => rfl)) T.c_At T.m_At_ends (ok_At_ends T) (hr.mono (by omega)) takes0) (c_meth0 (pe_ix ix_tup (pe_fld (pv 0) (by rfl)) (pe_un un_neg pe_int) (fun _ _ => rfl)) T.c_Over T.m_Over_ends r_Over_ends (hr.mono (by omega)) takes0)) (pe_op op_mul (pe_op op_sub (pe_fld (pv 0) (by rfl)) pe_int) (pe_fld (pv 0) (by rfl)))))), ?_⟩
    have hnL := ov_nest hn
    obtain ⟨o1, o2, _, _, _, _, o7⟩ := ov_facts hok
    have nn := momsL_ne o7 o1
    unfold Tr.moms at q
    obtain ⟨dx, kp, as, ha, hk, hA⟩ := (by unfold ShAt at hO; exact hO : ∃ dx kp as, H a = some (.ins (OverC K) dx (overF kp m s_)) ∧ H kp = some (.tup (as.map V.ref)) ∧ ShsAt K H ps as)
    rw [overN_last nn (by omega)] at q
    have hm := (ov_facts hok).2.2.1
    have hl1 := hA.len
    have as0 : as ≠ [] := fun z => by
      rw [z] at hl1
      exact o1 (List.length_eq_zero_iff.mp hl1.symm)
    obtain ⟨b, gb, aL⟩ := last_ref as0
    obtain ⟨t, ht, hS⟩ := hA.get gb
    have ep : ps = ps.dropLast ++ [t] := by
      have e := (List.dropLast_concat_getLast o1).symm
      have e2 : ps.getLast o1 = t := by
        rw [List.getLast_eq_getElem]
        rw [hl1] at ht
        obtain ⟨_, e⟩ := List.getElem?_eq_some_iff.mp ht
        exact e
      rw [e2] at e
      exact e
    have htm := List.mem_of_getElem? ht
    have eL : (momsL ps).getLastD 0 = t.moms.getLastD 0 := by
      rw [ep] at o7 ⊢
      exact momsL_last o7
    rw [eL] at q
    have ok := okL_mem o7 htm
    have tn := Nat.le_trans (nestL_mem htm) hnL
    have e : ((t.moms.getLastD 0 : Nat) : Int) + (((m : Nat) : Int) - 1) * ((s_ : Nat) : Int) = ((t.moms.getLastD 0 + (m - 1) * s_ : Nat) : Int) := by
      rw [Int.natCast_add, Int.natCast_mul, Int.natCast_sub (by omega)]
      rfl
    rw [← e] at q
    cases t with
    | «at» n =>
      unfold ShAt at hS
      obtain ⟨dy, h2⟩ := id hS
      unfold Tr.moms at q
      exact .inl ⟨_, rfl, a, _, dx, _, _, rfl, ha, T.c_Over, T.a_Over_kept, rfl, _, rfl, kp, _, _, _, rfl, rfl, sq_tup hk, aL, b, dy, _, rfl, h2, rfl, b, n, rfl, hS, _, rfl, a, _, dx, _, _, rfl, ha, T.c_Over, T.a_Over_many, rfl, _, _, rfl, rfl, _, rfl, a, _, dx, _, _, rfl, ha, T.c_Over, T.a_Over_step, rfl, _, _, rfl, rfl, .inl ⟨by omega, by omega⟩, _, _, rfl, rfl, q⟩
    | ov ps' m' s' =>
      obtain ⟨dy, kp', as', h2, _⟩ := (by unfold ShAt at hS; exact hS : ∃ dx kp as, H b = some (.ins (OverC K) dx (overF kp m' s')) ∧ H kp = some (.tup (as.map V.ref)) ∧ ShsAt K H ps' as)
      exact .inr ⟨_, rfl, a, _, dx, _, _, rfl, ha, T.c_Over, T.a_Over_kept, rfl, _, rfl, kp, _, _, _, rfl, rfl, sq_tup hk, aL, b, dy, _, rfl, h2, rfl, b, ps', m', s', rfl, hS, tn, ok, _, rfl, a, _, dx, _, _, rfl, ha, T.c_Over, T.a_Over_many, rfl, _, _, rfl, rfl, _, rfl, a, _, dx, _, _, rfl, ha, T.c_Over, T.a_Over_step, rfl, _, _, rfl, rfl, .inl ⟨by omega, by omega⟩, _, _, rfl, rfl, q⟩
theorem ok_Over_ends {P : Program} {w : World} {K : PySem.W.Frag} {mg : Str → Option Value} {base : Heap} (T : Env K mg) {d L : Nat} (hL : 40 ≤ L) (r_Over_ends : Fc P w K mg base L (He.ma K (He.ga K "Over") "ends") [] (sp_Over_ends K d)) : Fc P w K mg base (L + 1) (He.ma K (He.ga K "Over") "ends") [] (sp_Over_ends K (d + 1)) := by
  obtain ⟨fd, D, F⟩ := fb_Over_ends T hL r_Over_ends
  exact F.all (D.bindsN fun _ _ _ _ _ _ us hl => match us, hl with | [_], _ => rfl)
theorem all_Over_ends {P : Program} {w : World} {K : PySem.W.Frag} {mg : Str → Option Value} {base : Heap} (T : Env K mg) : ∀ d, Fc P w K mg base (40 + 1 * d) (He.ma K (He.ga K "Over") "ends") [] (sp_Over_ends K d)
  | 0 => fc_no fun vs H Q E h => by
    obtain ⟨a, ps, m, s, _, _, h, _⟩ := h
    unfold Tr.nest at h
    omega
  | d + 1 => ok_Over_ends T (Nat.le_add_right 40 _) (all_Over_ends T d)
end
section
def sp_At_begins (K : PySem.W.Frag) : Sp := fun vs H Q _ => ∃ a n, vs = [.ref a] ∧ AtAt K H a n ∧ Q (.int (n : Nat)) H
theorem fb_At_begins {P : Program} {w : World} {K : PySem.W.Frag} {mg : Str → Option Value} {base : Heap} (T : Env K mg) : ∃ fd, FunD K "begins" "At.begins" (defArgs s_At_begins) (defBody s_At_begins) (defScope s_At_begins) [] [] (He.ma K (He.ga K "At") "begins") fd ∧ Fb P w K mg base 1 (He.ma K (He.ga K "At") "begins") fd ["self"] (sp_At_begins K) := by
  obtain ⟨fd, F⟩ := T.f_At_begins
  refine ⟨fd, F, fb_of F sc_At_begins (fun vs H Q E h => ?_) (fun cdv A outer s H vs Q E hr h => ?_)⟩
  · obtain ⟨a, n, rfl, _⟩ := h
    rfl
  · obtain ⟨a, n, rfl, ⟨dx, ha⟩, q⟩ := h
    refine ⟨_, (pss_one (ps_ret (pe_fld (pv 0) (by rfl)))), ?_⟩
    exact ⟨_, rfl, a, _, dx, _, _, rfl, ha, T.c_At, T.a_At_moment, rfl, q⟩
theorem ok_At_begins {P : Program} {w : World} {K : PySem.W.Frag} {mg : Str → Option Value} {base : Heap} (T : Env K mg) : Fc P w K mg base 1 (He.ma K (He.ga K "At") "begins") [] (sp_At_begins K ) := by
  obtain ⟨fd, D, F⟩ := fb_At_begins T
  exact F.all (D.bindsN fun _ _ _ _ _ _ us hl => match us, hl with | [_], _ => rfl)
end
section
theorem fb_Over_begins {P : Program} {w : World} {K : PySem.W.Frag} {mg : Str → Option Value} {base : Heap} (T : Env K mg) {d L : Nat} (hL : 40 ≤ L) (r_Over_begins : Fc P w K mg base L (He.ma K (He.ga K "Over") "begins") [] (sp_Over_begins K d)) : ∃ fd, FunD K "begins" "Over.begins" (defArgs s_Over_begins) (defBody s_Over_begins) (defScope s_Over_begins) [] [] (He.ma K (He.ga K "Over") "begins") fd ∧ Fb P w K mg base (L + 1) (He.ma K (He.ga K "Over") "begins") fd ["self"] (sp_Over_begins K (d + 1)) := by
  obtain ⟨fd, F⟩ := T.f_Over_begins
  refine ⟨fd, F, fb_of F sc_Over_begins (fun vs H Q E h => ?_) (fun cdv A outer s H vs Q E hr h => ?_)⟩
  · obtain ⟨a, ps, m, s, rfl, _⟩ := h
    rfl
  · obtain ⟨a, ps, m, s_, rfl, hO, hn, hok, q⟩ := h
    refine ⟨_, (pss_one (ps_ret (pe_orE (c_meth0 (pe_ix ix_tup (pe_fld (pv 0) (by rfl)) pe_int (fun _ _ => rfl)) T.c_At T.m_At_begins (ok_At_begins T) (hr.mono (by omega)) takes0) (c_meth0 (pe_ix ix_tup (pe_fld (pv 0) (by rfl)) pe_int (fun _ _ => rfl)) T.c_Over T.m_Over_begins r_Over_begins (hr.mono (by omega)) takes0)))), ?_⟩
    have hnL := ov_nest hn
    obtain ⟨o1, o2, _, _, _, _, o7⟩ := ov_facts hok
    have nn := momsL_ne o7 o1
    unfold Tr.moms at q
    obtain ⟨dx, kp, as, ha, hk, hA⟩ := (by unfold ShAt at hO; exact hO : ∃ dx kp as, H a = some (.ins (OverC K) dx (overF kp m s_)) ∧ H kp = some (.tup (as.map V.ref)) ∧ ShsAt K H ps as)
    rw [overN_head nn m (by omega)] at q
    cases ps with
    | nil => exact absurd rfl o1
    | cons t ts =>
      rw [momsL_head o7] at q
      unfold ShsAt at hA
      obtain ⟨b, r, rfl, hS, _⟩ := hA
      have aF : atI ((b :: r).map V.ref) 0 = some (.ref b) := atI_nat (j := 0) rfl
      have ok := okL_mem o7 (List.mem_cons_self (a := t) (l := ts))
      have tn := Nat.le_trans (nestL_mem (List.mem_cons_self (a := t) (l := ts))) hnL
      cases t with
      | «at» n =>
        unfold ShAt at hS
        obtain ⟨dy, h2⟩ := id hS
        exact .inl ⟨_, rfl, a, _, dx, _, _, rfl, ha, T.c_Over, T.a_Over_kept, rfl, kp, _, _, _, rfl, rfl, sq_tup hk, aF, b, dy, _, rfl, h2, rfl, b, n, rfl, hS, by unfold Tr.moms at q; exact q⟩
      | ov ps' m' s' =>
        obtain ⟨dy, kp', as', h2, _⟩ := (by unfold ShAt at hS; exact hS : ∃ dx kp as, H b = some (.ins (OverC K) dx (overF kp m' s')) ∧ H kp = some (.tup (as.map V.ref)) ∧ ShsAt K H ps' as)
        exact .inr ⟨_, rfl, a, _, dx, _, _, rfl, ha, T.c_Over, T.a_Over_kept, rfl, kp, _, _, _, rfl, rfl, sq_tup hk, aF, b, dy, _, rfl, h2, rfl, b, ps', m', s', rfl, hS, tn, ok, q⟩
theorem ok_Over_begins {P : Program} {w : World} {K : PySem.W.Frag} {mg : Str → Option Value} {base : Heap} (T : Env K mg) {d L : Nat} (hL : 40 ≤ L) (r_Over_begins : Fc P w K mg base L (He.ma K (He.ga K "Over") "begins") [] (sp_Over_begins K d)) : Fc P w K mg base (L + 1) (He.ma K (He.ga K "Over") "begins") [] (sp_Over_begins K (d + 1)) := by
  obtain ⟨fd, D, F⟩ := fb_Over_begins T hL r_Over_begins
  exact F.all (D.bindsN fun _ _ _ _ _ _ us hl => match us, hl with | [_], _ => rfl)
theorem all_Over_begins {P : Program} {w : World} {K : PySem.W.Frag} {mg : Str → Option Value} {base : Heap} (T : Env K mg) : ∀ d, Fc P w K mg base (40 + 1 * d) (He.ma K (He.ga K "Over") "begins") [] (sp_Over_begins K d)
  | 0 => fc_no fun vs H Q E h => by
    obtain ⟨a, ps, m, s, _, _, h, _⟩ := h
    unfold Tr.nest at h
    omega
  | d + 1 => ok_Over_begins T (Nat.le_add_right 40 _) (all_Over_begins T d)
end
section
theorem sh_ends {K : PySem.W.Frag} {W : WX} {ta : TE} {σ : L2.St} {H : Hp} {Q : VK} {t : Tr} {a : Addr} {d : Nat} (hS : ShAt K H t a) (hok : t.ok) (hn : t.nest ≤ d) (hta : ∀ R : VK, R (.ref a) H → ta σ H R) (q : Q (.int ((t.moms.getLastD 0 : Nat) : Int)) H) : tOrE (tMt (He.ga K "At") "ends" (sp_At_ends K) W ta tNil) (tMt (He.ga K "Over") "ends" (sp_Over_ends K d) W ta tNil) σ H Q := by
  cases t with
  | «at» n =>
    unfold ShAt at hS
    obtain ⟨dy, h2⟩ := id hS
    unfold Tr.moms at q
    exact .inl (hta _ ⟨a, dy, _, rfl, h2, rfl, a, n, rfl, hS, q⟩)
  | ov ps' m' s' =>
    obtain ⟨dy, kp', as', h2, _⟩ := (by unfold ShAt at hS; exact hS : ∃ dx kp as, H a = some (.ins (OverC K) dx (overF kp m' s')) ∧ H kp = some (.tup (as.map V.ref)) ∧ ShsAt K H ps' as)
    exact .inr (hta _ ⟨a, dy, _, rfl, h2, rfl, a, ps', m', s', rfl, hS, hn, hok, q⟩)
theorem sh_begins {K : PySem.W.Frag} {W : WX} {ta : TE} {σ : L2.St} {H : Hp} {Q : VK} {t : Tr} {a : Addr} {d : Nat} (hS : ShAt K H t a) (hok : t.ok) (hn : t.nest ≤ d) (hta : ∀ R : VK, R (.ref a) H → ta σ H R) (q : Q (.int ((t.moms.headD 0 : Nat) : Int)) H) : tOrE (tMt (He.ga K "At") "begins" (sp_At_begins K) W ta tNil) (tMt (He.ga K "Over") "begins" (sp_Over_begins K d) W ta tNil) σ H Q := by
  cases t with
  | «at» n =>
    unfold ShAt at hS
    obtain ⟨dy, h2⟩ := id hS
    unfold Tr.moms at q
    exact .inl (hta _ ⟨a, dy, _, rfl, h2, rfl, a, n, rfl, hS, q⟩)
  | ov ps' m' s' =>
    obtain ⟨dy, kp', as', h2, _⟩ := (by unfold ShAt at hS; exact hS : ∃ dx kp as, H a = some (.ins (OverC K) dx (overF kp m' s')) ∧ H kp = some (.tup (as.map V.ref)) ∧ ShsAt K H ps' as)
    exact .inr (hta _ ⟨a, dy, _, rfl, h2, rfl, a, ps', m', s', rfl, hS, hn, hok, q⟩)
def sp_all_rising (K : PySem.W.Frag) : Sp := fun vs H Q _ => ∃ (p : Addr) (as : List Addr) (ts : List Tr), vs = [.ref p] ∧ H p = some (.tup (as.map V.ref)) ∧ ShsAt K H ts as ∧ nestL ts ≤ 9 ∧ okL_ ts ∧ ts.length ≤ 20000 ∧ ∀ H', Ex H H' → Q (.bl (risB ts)) H'
theorem fb_all_rising {P : Program} {w : World} {K : PySem.W.Frag} {mg : Str → Option Value} {base : Heap} (T : Env K mg) : ∃ fd, FunD K "all_rising" "all_rising" (defArgs s_all_rising) (defBody s_all_rising) (defScope s_all_rising) [] [] (He.ga K "all_rising") fd ∧ Fb P w K mg base 60 (He.ga K "all_rising") fd ["parts"] (sp_all_rising K) := by
  obtain ⟨fd, F⟩ := T.f_all_rising
  refine ⟨fd, F, fb_of F sc_all_rising (fun vs H Q E h => ?_) (fun cdv A outer s H vs Q E hr h => ?_)⟩
  · obtain ⟨p, as, ts, rfl, _⟩ := h
    rfl
  · obtain ⟨p, as, ts, rfl, hp, hA, hn, hok, hl, q⟩ := h
    refine ⟨_, (pss_one (ps_ret (pe_callB (cr_all rfl) (by rfl) T.n_all (by decide +kernel) (pa_cons (pe_lc (own := [("one", 1), ("other", 2)]) (by rfl) sc_all_rising.nd (RZ.pi_zipA (by rfl) T.n_zip (pa_cons (pv 0) (pa_cons (pe_slice sl_tupA (pv 0) (po_some pe_int) po_none) pa_nil))) (blkOk_by (own := [("one", 1), ("other", 2)]) (N := ["parts", "one", "other"]) (sc := defScope s_all_rising) (by decide +kernel)) (fun _ _ _ _ _ => (pg_tupK K (n := 2) rfl (pgs_cons (pg_name (i := 1) sc_all_rising.nd rfl (Or.inl rfl)) (pgs_cons (pg_name (i := 2) sc_all_rising.nd rfl (Or.inl rfl)) pgs_nil)))) (fun _ _ _ _ _ => pts_nil) (fun _ _ _ _ _ => (pe_cmpR op_lt (pe_orE (c_meth0 (pv 1) T.c_At T.m_At_ends (ok_At_ends T) (hr.mono (by decide)) takes0) (c_meth0 (pv 1) T.c_Over T.m_Over_ends (all_Over_ends T 9) (hr.mono (by decide)) takes0)) (pe_orE (c_meth0 (pv 2) T.c_At T.m_At_begins (ok_At_begins T) (hr.mono (by decide)) takes0) (c_meth0 (pv 2) T.c_Over T.m_Over_begins (all_Over_begins T 9) (hr.mono (by decide)) takes0)) (nomark _)))) pa_nil)))), ?_⟩
    refine ⟨_, rfl, _, rfl, _, rfl, ?_⟩
    dsimp only [tNoPart]
    refine slA_of (sq_tup hp) fun b2 H4 X4 hb2 => ?_
    rw [cut1] at hb2
    have ed : (as.map V.ref).drop 1 = (as.drop 1).map V.ref := by rw [List.map_drop]
    rw [ed] at hb2
    have hA4 := hA.mono X4
    have hl1 := hA.len
    have hz1 : (as.zip ts).map (fun p => V.ref p.1) = as.map V.ref := by
      show (as.zip ts).map (V.ref ∘ Prod.fst) = _
      rw [← List.map_map, List.map_fst_zip (by omega)]
    have hz1d : ((as.zip ts).drop 1).map (fun p => V.ref p.1) = (as.drop 1).map V.ref := by rw [List.map_drop, List.map_drop, hz1]
    have hz2 : (as.zip ts).map Prod.snd = ts := List.map_snd_zip (by omega)
    have zl : (as.zip ts).length ≤ 20000 := by rw [List.length_zip]; omega
    have hp4 : H4 p = some (.tup ((as.zip ts).map fun p => V.ref p.1)) := by rw [hz1]; exact X4 _ _ hp
    rw [← hz1d] at hb2
    refine ⟨p, b2, (as.zip ts).map (fun p => V.ref p.1), ((as.zip ts).drop 1).map (fun p => V.ref p.1), rfl, .inr ⟨sq_tup hp4, hb2, fun D nD => lc_zip (as.zip ts) ((as.zip ts).drop 1) (fun p => V.ref p.1) (fun p => V.ref p.1) (walk_zipT rfl) (by rw [List.length_map, List.length_map]) (fun x y => some (.bl (decide (x.2.moms.getLastD 0 < y.2.moms.headD 0)))) (fun H' => Ex H4 H') (fun H' z e => ex_mut e nD) (.refl _) (by omega) (fun H' e => ⟨sq_tup (e _ _ hp4), ex_sqt e hb2⟩) (fun i x y u H5 acc N hx hy X5 nu hD la k => ?_) fun H5 X5 d5 => ?_⟩⟩
    · have hD2 := fun o => ex_new (o := o) nu _ _ hD
      have Z := X5.trans (ex_new (o := .tup [.ref x.1, .ref y.1]) nu)
      rw [List.getElem?_drop] at hy
      obtain ⟨hx1, hx2⟩ := List.getElem?_zip_eq_some.mp hx
      obtain ⟨hy1, hy2⟩ := List.getElem?_zip_eq_some.mp hy
      have gx : ShAt K H4 x.2 x.1 := by
        obtain ⟨t, ht, h⟩ := hA4.get hx1
        rw [hx2] at ht
        cases ht
        exact h
      have gy : ShAt K H4 y.2 y.1 := by
        obtain ⟨t, ht, h⟩ := hA4.get hy1
        rw [hy2] at ht
        cases ht
        exact h
      have mx := List.mem_of_getElem? hx2
      have my := List.mem_of_getElem? hy2
      refine ⟨u, _, rfl, sq_tup upd_same, rfl, _, _, rfl, _, _, rfl, rfl, rfl, ?_⟩
      refine sh_ends (gx.mono Z) (okL_mem hok mx) (Nat.le_trans (nestL_mem mx) hn) (fun R r => ⟨_, rfl, r⟩) ?_
      refine sh_begins (gy.mono Z) (okL_mem hok my) (Nat.le_trans (nestL_mem my) hn) (fun R r => ⟨_, rfl, r⟩) ?_
      refine ⟨_, _, rfl, rfl, acc, hD2 _, la, ?_⟩
      have ei : decide (((x.2.moms.getLastD 0 : Nat) : Int) < ((y.2.moms.headD 0 : Nat) : Int)) = decide (x.2.moms.getLastD 0 < y.2.moms.headD 0) := decide_eq_decide.mpr ⟨fun z => by omega, fun z => by omega⟩
      show N (upd (upd H5 u (.tup [.ref x.1, .ref y.1])) D (.lst (acc ++ [.bl (decide (((x.2.moms.getLastD 0 : Nat) : Int) < ((y.2.moms.headD 0 : Nat) : Int)))])))
      rw [ei]
      exact k _ Z (hD2 _)
    · have ef : ((as.zip ts).zip ((as.zip ts).drop 1)).filterMap (fun p => some (V.bl (decide (p.1.2.moms.getLastD 0 < p.2.2.moms.headD 0)))) = ((ts.zip (ts.drop 1)).map fun p => decide (p.1.moms.getLastD 0 < p.2.moms.headD 0)).map V.bl := by
        rw [List.filterMap_eq_map', List.map_map]
        conv => rhs; rw [← hz2, ← List.map_drop, List.zip_map, List.map_map]
        rfl
      rw [ef] at d5
      refine ⟨D, _, rfl, sq_lst d5, ?_⟩
      rw [List.all_map]
      exact q _ (X4.trans X5)
theorem ok_all_rising {P : Program} {w : World} {K : PySem.W.Frag} {mg : Str → Option Value} {base : Heap} (T : Env K mg) : Fc P w K mg base 60 (He.ga K "all_rising") [] (sp_all_rising K ) := by
  obtain ⟨fd, D, F⟩ := fb_all_rising T
  exact F.all (D.bindsN fun _ _ _ _ _ _ us hl => match us, hl with | [_], _ => rfl)
end
section
/-- at p a list or a tuple -/
def SqA (H : Hp) (p : Addr) (xs : List V) : Prop := H p = some (.lst xs) ∨ H p = some (.tup xs)
def sp_shorts_in (K : PySem.W.Frag) : Sp := fun vs H Q E => ∃ (p : Addr) (as : List Addr) (ts : List Tr), vs = [.ref p] ∧ SqA H p (as.map V.ref) ∧ ShsAt K H ts as ∧ nestL ts ≤ 9 ∧ okL_ ts ∧ ts.length ≤ 20000 ∧ (risB ts = true → ∀ t H', Ex H H' → H' t = some (.tup (as.map V.ref)) → Q (.ref t) H') ∧ (risB ts = false → ∀ H', Ex H H' → E (.ref (He.ga K "NoPiece")) none H')
theorem fb_shorts_in {P : Program} {w : World} {K : PySem.W.Frag} {mg : Str → Option Value} {base : Heap} (T : Env K mg) : ∃ fd, FunD K "shorts_in" "shorts_in" (defArgs s_shorts_in) (defBody s_shorts_in) (defScope s_shorts_in) [] [] (He.ga K "shorts_in") fd ∧ Fb P w K mg base 61 (He.ga K "shorts_in") fd ["parts"] (sp_shorts_in K) := by
  obtain ⟨fd, F⟩ := T.f_shorts_in
  refine ⟨fd, F, fb_of F sc_shorts_in (fun vs H Q E h => ?_) (fun cdv A outer s H vs Q E hr h => ?_)⟩
  · obtain ⟨p, as, ts, rfl, _⟩ := h
    rfl
  · obtain ⟨p, as, ts, rfl, hp, hA, hn, hok, hl, q, qe⟩ := h
    refine ⟨_, (pss_cons (ps_if (pt_not (pt_val (pe_callB call_isiT (by rfl) T.n_isinstance (by decide +kernel) (pa_cons (pv 0) (pa_cons (pe_tup (pa_cons (pe_bltn (v := .ty "list") (by rfl) T.n_list (by decide +kernel) rfl) (pa_cons (pe_bltn (v := .ty "tuple") (by rfl) T.n_tuple (by decide +kernel) rfl) pa_nil))) pa_nil)))))
      (pss_one (ps_raise rfl (takes_of rfl rfl rfl rfl) (pmk_own PySem.F.excBase_ValueError T.x_NoPiece.x T.g_NoPiece T.x_NoPiece.kp (raises_own T.x_NoPiece.sub T.x_NoPiece.ty) rfl)))
      pss_nil)
      (pss_cons (ps_set (i := 1) sc_shorts_in.nd rfl (Or.inl rfl) (pe_callTy call_tuple_of (by rfl) T.n_tuple (by decide +kernel) (pa_cons (pv 0) pa_nil)))
      (pss_cons (ps_if (PW.pt (pw_or (pt_not (pt_val (pe_callB (cr_all rfl) (by rfl) T.n_all (by decide +kernel) (pa_cons (pe_lc (own := [("one", 2)]) (by rfl) sc_shorts_in.nd (pi_tup (pv 1)) (blkOk_by (own := [("one", 2)]) (N := ["parts", "found", "one"]) (sc := defScope s_shorts_in) (by decide +kernel)) (fun _ _ _ _ _ => (pg_name (i := 2) sc_shorts_in.nd rfl (Or.inl rfl))) (fun _ _ _ _ _ => pts_nil) (fun _ _ _ _ _ => (pe_callB (call_isiK K) (by rfl) T.n_isinstance (by decide +kernel) (pa_cons (pv 2) (pa_cons (pe_glob (v := .ref _) (by rfl) T.g_Short rfl) pa_nil))))) pa_nil)))) (pw_or1 (pt_not (pt_val (c_call (ok_all_rising T) (hr.mono (by decide)) T.g_all_rising T.k_all_rising (takes_of rfl rfl rfl rfl) (pa_cons (pv 1) pa_nil)))))))
      (pss_one (ps_raise rfl (takes_of rfl rfl rfl rfl) (pmk_own PySem.F.excBase_ValueError T.x_NoPiece.x T.g_NoPiece T.x_NoPiece.kp (raises_own T.x_NoPiece.sub T.x_NoPiece.ty) rfl)))
      pss_nil)
      (pss_one (ps_ret (pv 1)))))), ?_⟩
    have hl1 := hA.len
    refine ⟨_, rfl, by show 2 ≤ sizeLine; decide, fun tp ntp => ?_⟩
    have X1 := ex_new (o := .tup [.ty "list", .ty "tuple"]) ntp
    have ty : ∃ t, TyX K (upd H tp (.tup [.ty "list", .ty "tuple"])) (.ref p) t ∧ PySem.W.kitAny K t [.type "list", .type "tuple"] = some true := by
      rcases hp with h | h
      · exact ⟨_, .base (.lst (X1 _ _ h)), kitAny_cons (b := true) (kit_ty (by decide +kernel)) (fun z => nomatch z) (fun _ => rfl)⟩
      · exact ⟨_, .base (.tup (X1 _ _ h)), kitAny_cons (b := false) (kit_ty (by decide +kernel)) (fun _ => kitAny_cons (b := true) (kit_ty (by decide +kernel)) (fun z => nomatch z) (fun _ => rfl)) (by decide)⟩
    obtain ⟨t, ty, kt⟩ := ty
    refine ⟨.ref p, tp, _, t, _, true, rfl, upd_same, .cons (.ty "list") (.cons (.ty "tuple") .nil), ty, kt, true, rfl, iteF ?_⟩
    generalize upd H tp (.tup [.ty "list", .ty "tuple"]) = H1 at X1 ty ⊢
    refine ⟨_, rfl, p, as.map V.ref, rfl, ?_⟩
    have rest : ∀ t2 H2, Ex H1 H2 → H2 t2 = some (.tup (as.map V.ref)) → (tSeq (tIfS (tOr (tNot (tB (tCB (rAll K) (tCons (tLc (iTup K (tVar 1)) (gName 2) tYes (tCB (rIsi K) (tCons (tVar 2) (tCons (tC (V.ref (He.ga K "Short"))) tNil))) (List.map (fun x => x.snd) [(Str.ofString "one", 2)])) tNil)))) (tNot (tB (tFc (sp_all_rising K) (fun cls d x H => E cls d H) (tCons (tVar 1) tNil))))) (fun x σ H => (fun cls d H' => E cls d H') (Value.ref (He.ga K "NoPiece")) none H) tNext) (tRet (tVar 1))) { nx := fun _ H' => Q .non H', rt := Q } [some (.ref p), some (.ref t2), none] H2 := fun t2 H2 X2 h2 => by
      have X02 := X1.trans X2
      have hA2 := hA.mono X02
      refine ⟨_, rfl, t2, rfl, ⟨_, sq_tup h2⟩, fun A nA => lc_on as V.ref L2.walk_tup (fun _ => some (.bl true)) (fun H' => Ex H2 H') (fun H' z e => ex_mut e nA) (.refl _) (by omega) (fun H' e => sq_tup (e _ _ h2)) (fun i x H3 acc N hx X3 hD la k => ?_) fun H3 X3 d3 => ?_⟩
      · obtain ⟨t, ht, hS⟩ := hA2.get hx
        have hS3 := hS.mono X3
        cases t with
        | «at» n =>
          unfold ShAt at hS3
          obtain ⟨dx, h1⟩ := hS3
          exact ⟨rfl, _, rfl, .ref x, .ref (He.ga K "Short"), _, _, true, rfl, .own _, ty_ins T.i_At T.c_At h1, T.kit_At_Short, acc, hD, la, k H3 X3 hD⟩
        | ov ps m s =>
          unfold ShAt at hS3
          obtain ⟨dx, kp, as', h1, _⟩ := hS3
          exact ⟨rfl, _, rfl, .ref x, .ref (He.ga K "Short"), _, _, true, rfl, .own _, ty_ins T.i_Over T.c_Over h1, T.kit_Over_Short, acc, hD, la, k H3 X3 hD⟩
      · have ef : as.filterMap (fun _ => some (V.bl true)) = (List.replicate as.length true).map V.bl := by
          rw [List.map_replicate, ← List.map_const', List.filterMap_eq_map']
        rw [ef] at d3
        refine ⟨A, _, rfl, sq_lst d3, ?_⟩
        rw [all_repT]
        refine ⟨true, rfl, iteF ?_⟩
        refine ⟨_, rfl, t2, as, ts, rfl, X3 _ _ h2, hA2.mono X3, hn, hok, hl, fun H4 X4 => ⟨_, rfl, ?_⟩⟩
        cases hr2 : risB ts with
        | true =>
          refine iteF ?_
          exact ⟨_, rfl, q hr2 t2 H4 (X02.trans (X3.trans X4)) ((X3.trans X4) _ _ h2)⟩
        | false => exact iteT (qe hr2 H4 (X02.trans (X3.trans X4)))
    rcases hp with h | h
    · exact .inl ⟨sq_lst (X1 _ _ h), fun t2 nt2 => rest t2 _ (ex_new nt2) upd_same⟩
    · exact .inr ⟨sq_tup (X1 _ _ h), rest p _ (.refl _) (X1 _ _ h)⟩
theorem ok_shorts_in {P : Program} {w : World} {K : PySem.W.Frag} {mg : Str → Option Value} {base : Heap} (T : Env K mg) : Fc P w K mg base 61 (He.ga K "shorts_in") [] (sp_shorts_in K ) := by
  obtain ⟨fd, D, F⟩ := fb_shorts_in T
  exact F.all (D.bindsN fun _ _ _ _ _ _ us hl => match us, hl with | [_], _ => rfl)
end
section
def sp_At_moments (K : PySem.W.Frag) : Sp := fun vs H Q _ => ∃ a n, vs = [.ref a] ∧ AtAt K H a n ∧ ∀ p, H p = none → Q (.ref p) (upd H p (.lst [.int (n : Nat)]))
theorem fb_At_moments {P : Program} {w : World} {K : PySem.W.Frag} {mg : Str → Option Value} {base : Heap} (T : Env K mg) : ∃ fd, FunD K "moments" "At.moments" (defArgs s_At_moments) (defBody s_At_moments) (defScope s_At_moments) [] [] (He.ma K (He.ga K "At") "moments") fd ∧ Fb P w K mg base 1 (He.ma K (He.ga K "At") "moments") fd ["self"] (sp_At_moments K) := by
  obtain ⟨fd, F⟩ := T.f_At_moments
  refine ⟨fd, F, fb_of F sc_At_moments (fun vs H Q E h => ?_) (fun cdv A outer s H vs Q E hr h => ?_)⟩
  · obtain ⟨a, n, rfl, _⟩ := h
    rfl
  · obtain ⟨a, n, rfl, ⟨dx, ha⟩, q⟩ := h
    refine ⟨_, (pss_one (ps_ret (pe_lst (pa_cons (pe_fld (pv 0) (by rfl)) pa_nil)))), ?_⟩
    exact ⟨_, rfl, a, _, dx, _, _, rfl, ha, T.c_At, T.a_At_moment, rfl, by show 1 ≤ sizeLine; decide, q⟩
theorem ok_At_moments {P : Program} {w : World} {K : PySem.W.Frag} {mg : Str → Option Value} {base : Heap} (T : Env K mg) : Fc P w K mg base 1 (He.ma K (He.ga K "At") "moments") [] (sp_At_moments K ) := by
  obtain ⟨fd, D, F⟩ := fb_At_moments T
  exact F.all (D.bindsN fun _ _ _ _ _ _ us hl => match us, hl with | [_], _ => rfl)
end
section
def sp_row_moments (K : PySem.W.Frag) (d : Nat) : Sp := fun vs H Q _ => ∃ (p : Addr) (as : List Addr) (ts : List Tr), vs = [.ref p] ∧ H p = some (.tup (as.map V.ref)) ∧ ShsAt K H ts as ∧ nestL ts ≤ d ∧ okL_ ts ∧ (momsL ts).length ≤ 1440 ∧ ∀ t H', Ex H H' → H t = none → H' t = some (.lst (natV (momsL ts))) → Q (.ref t) H'
theorem fb_row_moments {P : Program} {w : World} {K : PySem.W.Frag} {mg : Str → Option Value} {base : Heap} (T : Env K mg) {d L : Nat} (hL : 40 ≤ L) (r_Over_moments : Fc P w K mg base L (He.ma K (He.ga K "Over") "moments") [] (sp_Over_moments K d)) : ∃ fd, FunD K "row_moments" "row_moments" (defArgs s_row_moments) (defBody s_row_moments) (defScope s_row_moments) [] [] (He.ga K "row_moments") fd ∧ Fb P w K mg base (L + 1) (He.ga K "row_moments") fd ["parts"] (sp_row_moments K (d)) := by
  obtain ⟨fd, F⟩ := T.f_row_moments
  refine ⟨fd, F, fb_of F sc_row_moments (fun vs H Q E h => ?_) (fun cdv A outer s H vs Q E hr h => ?_)⟩
  · obtain ⟨p, as, ts, rfl, _⟩ := h
    rfl
  · obtain ⟨p, as, ts, rfl, hp, hA, hn, hok, hl, q⟩ := h
    refine ⟨_, (pss_cons (ps_set (i := 1) sc_row_moments.nd rfl (Or.inl rfl) (pe_lst pa_nil))
      (pss_cons (ps_for (passes_of rfl) rfl (pi_tup (pv 0)) (pg_name (i := 2) sc_row_moments.nd rfl (Or.inl rfl))
      (pss_one (ps_expr (pe_bm PySem.F.plainAttrs_list PySem.F.slot_list_extend PySem.F.type_list_extend mt_extend (pv 1) (pa_cons (pe_orE (c_meth0 (pv 2) T.c_At T.m_At_moments (ok_At_moments T) (hr.mono (by omega)) takes0) (c_meth0 (pv 2) T.c_Over T.m_Over_moments r_Over_moments (hr.mono (by omega)) takes0)) pa_nil)))))
      (pss_one (ps_ret (pv 1))))), ?_⟩
    refine ⟨by show 0 ≤ sizeLine; decide, fun f nf => ?_⟩
    have X0 := ex_new (o := .lst []) nf
    have hl1 := hA.len
    have pf : p ≠ f := ne_of_none hp nf
    refine ⟨_, rfl, p, rfl, ⟨_, sq_tup (X0 _ _ hp)⟩, for_on as V.ref L2.walk_tup (fun i σ H' => Oth f H H' ∧ ∃ v2, σ = [some (.ref p), some (.ref f), v2] ∧ H' f = some (.lst (natV (momsL (ts.take i))))) ⟨ex_oth X0, _, rfl, upd_same⟩ (fun i σ H' z => sq_tup (z.1 _ _ pf hp)) ?_ ?_⟩
    · rintro i a σ H2 hx ⟨O2, v2, rfl, hf⟩
      obtain ⟨t, ht, hS⟩ := hA.get hx
      have htm := List.mem_of_getElem? ht
      have X2 : Ex H H2 := fun b o e => O2 b o (ne_of_none e nf) e
      have eT := momsL_take ht
      have bT := momsL_take_len ts (i + 1)
      rw [eT, List.length_append] at bT
      have hS2 := hS.mono X2
      have fin : ∀ (u : Addr) (H3 : Hp), Ex H2 H3 → H3 u = some (.lst (natV t.moms)) → rExtend (.ref f) [.ref u] H3 (fun _ H' => Oth f H H' ∧ ∃ v2', [some (V.ref p), some (V.ref f), some (V.ref a)] = [some (.ref p), some (.ref f), v2'] ∧ H' f = some (.lst (natV (momsL (ts.take (i + 1)))))) := fun u H3 X3 hu => by
        refine ⟨f, u, _, _, rfl, rfl, X3 _ _ hf, hu, sz_le (by rw [natV_len, natV_len]; omega), (O2.trans (ex_oth X3)).upd, _, rfl, ?_⟩
        rw [upd_same, eT]
        unfold natV
        rw [List.map_append]
      refine ⟨_, rfl, .inl ⟨rfl, _, sq_lst hf⟩, ?_⟩
      cases t with
      | «at» n =>
        unfold ShAt at hS2
        obtain ⟨dx, h2⟩ := id hS2
        exact .inl ⟨_, rfl, a, dx, _, rfl, h2, rfl, a, n, rfl, hS2, fun u nu => fin u _ (ex_new nu) (by rw [upd_same]; unfold Tr.moms; rfl)⟩
      | ov ps m s =>
        obtain ⟨dx, kp, as', h2, _⟩ := (by unfold ShAt at hS2; exact hS2 : ∃ dx kp as, H2 a = some (.ins (OverC K) dx (overF kp m s)) ∧ H2 kp = some (.tup (as.map V.ref)) ∧ ShsAt K H2 ps as)
        exact .inr ⟨_, rfl, a, dx, _, rfl, h2, rfl, a, ps, m, s, rfl, hS2, Nat.le_trans (nestL_mem htm) hn, okL_mem hok htm, fun u H3 X3 nu hu => fin u H3 X3 hu⟩
    · rintro σ H2 ⟨O2, v2, rfl, hf⟩
      rw [List.take_of_length_le (by omega)] at hf
      exact ⟨_, rfl, q f H2 (fun b o e => O2 b o (ne_of_none e nf) e) nf hf⟩
theorem ok_row_moments {P : Program} {w : World} {K : PySem.W.Frag} {mg : Str → Option Value} {base : Heap} (T : Env K mg) {d L : Nat} (hL : 40 ≤ L) (r_Over_moments : Fc P w K mg base L (He.ma K (He.ga K "Over") "moments") [] (sp_Over_moments K d)) : Fc P w K mg base (L + 1) (He.ga K "row_moments") [] (sp_row_moments K (d)) := by
  obtain ⟨fd, D, F⟩ := fb_row_moments T hL r_Over_moments
  exact F.all (D.bindsN fun _ _ _ _ _ _ us hl => match us, hl with | [_], _ => rfl)
end
section
def sp_At_means_many (K : PySem.W.Frag) : Sp := fun vs H Q _ => ∃ a n, vs = [.ref a] ∧ AtAt K H a n ∧ Q (.int 1) H
theorem fb_At_means_many {P : Program} {w : World} {K : PySem.W.Frag} {mg : Str → Option Value} {base : Heap} (T : Env K mg) : ∃ fd, FunD K "means_many" "At.means_many" (defArgs s_At_means_many) (defBody s_At_means_many) (defScope s_At_means_many) [] [] (He.ma K (He.ga K "At") "means_many") fd ∧ Fb P w K mg base 1 (He.ma K (He.ga K "At") "means_many") fd ["self"] (sp_At_means_many K) := by
  obtain ⟨fd, F⟩ := T.f_At_means_many
  refine ⟨fd, F, fb_of F sc_At_means_many (fun vs H Q E h => ?_) (fun cdv A outer s H vs Q E hr h => ?_)⟩
  · obtain ⟨a, n, rfl, _⟩ := h
    rfl
  · obtain ⟨a, n, rfl, ⟨dx, ha⟩, q⟩ := h
    refine ⟨_, (pss_one (ps_ret pe_int)), ?_⟩
    exact q
theorem ok_At_means_many {P : Program} {w : World} {K : PySem.W.Frag} {mg : Str → Option Value} {base : Heap} (T : Env K mg) : Fc P w K mg base 1 (He.ma K (He.ga K "At") "means_many") [] (sp_At_means_many K ) := by
  obtain ⟨fd, D, F⟩ := fb_At_means_many T
  exact F.all (D.bindsN fun _ _ _ _ _ _ us hl => match us, hl with | [_], _ => rfl)
end
section
theorem range_opt {α : Type} (ts : List α) (f : α → V) : (List.range ts.length).filterMap (fun i => (ts[i]?).map f) = ts.map f := by
  induction ts with
  | nil => rfl
  | cons t r ih =>
    rw [List.length_cons, List.range_succ_eq_map, List.filterMap_cons, List.filterMap_map]
    show f t :: List.filterMap (fun i => (r[i]?).map f) (List.range r.length) = f t :: r.map f
    rw [ih]
theorem sum_many : ∀ ts : List Tr, (ts.map fun t => ((t.moms.length : Nat) : Int)).sum = (((momsL ts).length : Nat) : Int)
  | [] => rfl
  | t :: r => by
    rw [List.map_cons, List.sum_cons, sum_many r]
    have e : momsL (t :: r) = t.moms ++ momsL r := by simp [momsL]
    rw [e, List.length_append]
    omega
def sp_row_many (K : PySem.W.Frag) (d : Nat) : Sp := fun vs H Q _ => ∃ (p : Addr) (as : List Addr) (ts : List Tr), vs = [.ref p] ∧ H p = some (.tup (as.map V.ref)) ∧ ShsAt K H ts as ∧ nestL ts ≤ d ∧ okL_ ts ∧ ts.length ≤ 20000 ∧ ∀ H', Ex H H' → Q (.int (((momsL ts).length : Nat) : Int)) H'
theorem fb_row_many {P : Program} {w : World} {K : PySem.W.Frag} {mg : Str → Option Value} {base : Heap} (T : Env K mg) {d L : Nat} (hL : 40 ≤ L) (r_Over_means_many : Fc P w K mg base L (He.ma K (He.ga K "Over") "means_many") [] (sp_Over_means_many K d)) : ∃ fd, FunD K "row_many" "row_many" (defArgs s_row_many) (defBody s_row_many) (defScope s_row_many) [] [] (He.ga K "row_many") fd ∧ Fb P w K mg base (L + 1) (He.ga K "row_many") fd ["parts"] (sp_row_many K (d)) := by
  obtain ⟨fd, F⟩ := T.f_row_many
  refine ⟨fd, F, fb_of F sc_row_many (fun vs H Q E h => ?_) (fun cdv A outer s H vs Q E hr h => ?_)⟩
  · obtain ⟨p, as, ts, rfl, _⟩ := h
    rfl
  · obtain ⟨p, as, ts, rfl, hp, hA, hn, hok, hl, q⟩ := h
    refine ⟨_, (pss_one (ps_ret (pe_callB (cr_sum rfl) (by rfl) T.n_sum (by decide +kernel) (pa_cons (pe_lc (own := [("one", 1)]) (by rfl) sc_row_many.nd (pi_tup (pv 0)) (blkOk_by (own := [("one", 1)]) (N := ["parts", "one"]) (sc := defScope s_row_many) (by decide +kernel)) (fun _ _ _ _ _ => (pg_name (i := 1) sc_row_many.nd rfl (Or.inl rfl))) (fun _ _ _ _ _ => pts_nil) (fun _ _ _ _ _ => (pe_orE (c_meth0 (pv 1) T.c_At T.m_At_means_many (ok_At_means_many T) (hr.mono (by omega)) takes0) (c_meth0 (pv 1) T.c_Over T.m_Over_means_many r_Over_means_many (hr.mono (by omega)) takes0)))) pa_nil)))), ?_⟩
    have hl1 := hA.len
    have hl2 := len_moms hok
    refine ⟨_, rfl, p, rfl, ⟨_, sq_tup hp⟩, fun A nA => lc_fm L2.walk_tup (fun i => (ts[i]?).map fun t => .int ((t.moms.length : Nat) : Int)) (fun H' => Ex H H') (fun H' z e => ex_mut e nA) (.refl _) (by rw [List.length_map]; omega) (fun H' e => sq_tup (e _ _ hp)) (fun i x H2 H3 acc N hi e hD la y k => ?_) fun H3 X3 d3 => ?_⟩
    · obtain ⟨rfl, y⟩ := y
      rw [List.getElem?_map] at y
      obtain ⟨a, ha, rfl⟩ := Option.map_eq_some_iff.mp y
      obtain ⟨t, ht, hS⟩ := hA.get ha
      have htm := List.mem_of_getElem? ht
      have hS2 := hS.mono e
      have k2 := fun H4 (X4 : Ex H3 H4) => k H4 (e.trans X4) (X4 _ _ hD)
      rw [ht] at k2
      have ok := okL_mem hok htm
      cases t with
      | «at» n =>
        unfold ShAt at hS2
        obtain ⟨dx, h2⟩ := id hS2
        exact ⟨rfl, .inl ⟨_, rfl, a, dx, _, rfl, h2, rfl, a, n, rfl, hS2, acc, hD, la, k2 H3 (.refl _)⟩⟩
      | ov ps m s =>
        obtain ⟨dx, kp, as', h2, _⟩ := (by unfold ShAt at hS2; exact hS2 : ∃ dx kp as, H3 a = some (.ins (OverC K) dx (overF kp m s)) ∧ H3 kp = some (.tup (as.map V.ref)) ∧ ShsAt K H3 ps as)
        obtain ⟨_, _, _, _, o5', _, o7⟩ := ov_facts ok
        have o5 : ps.length ≤ 20000 := by omega
        refine ⟨rfl, .inr ⟨_, rfl, a, dx, _, rfl, h2, rfl, a, ps, m, s, rfl, hS2, Nat.le_trans (nestL_mem htm) hn, o7, o5, fun H4 X4 => ⟨acc, X4 _ _ hD, la, ?_⟩⟩⟩
        have k3 : N (upd H4 A (.lst (acc ++ [.int (((Tr.ov ps m s).moms.length : Nat) : Int)]))) := k2 H4 X4
        rw [show (Tr.ov ps m s).moms.length = m * (momsL ps).length from by unfold Tr.moms; exact overN_len _ _ _] at k3
        exact k3
    · rw [List.length_map, hl1, range_opt ts (fun t => V.int ((t.moms.length : Nat) : Int))] at d3
      have e1 : ts.map (fun t => V.int ((t.moms.length : Nat) : Int)) = (ts.map fun t => ((t.moms.length : Nat) : Int)).map V.int := by
        rw [List.map_map]
        rfl
      rw [e1] at d3
      refine ⟨A, _, rfl, sq_lst d3, ?_⟩
      rw [sum_many]
      exact q _ X3
theorem ok_row_many {P : Program} {w : World} {K : PySem.W.Frag} {mg : Str → Option Value} {base : Heap} (T : Env K mg) {d L : Nat} (hL : 40 ≤ L) (r_Over_means_many : Fc P w K mg base L (He.ma K (He.ga K "Over") "means_many") [] (sp_Over_means_many K d)) : Fc P w K mg base (L + 1) (He.ga K "row_many") [] (sp_row_many K (d)) := by
  obtain ⟨fd, D, F⟩ := fb_row_many T hL r_Over_means_many
  exact F.all (D.bindsN fun _ _ _ _ _ _ us hl => match us, hl with | [_], _ => rfl)
end
section
def rowT (ws : List (List Nat)) : List Nat := if ws = [] then [45] else TL.joinL [44, 32] ws
mutual
/-- a short as it is written -/
def Tr.txt : Tr → List Nat
  | .at n => Mo.shw n
  | .ov ps m s => [40] ++ rowT (txtL ps) ++ [41, 32, 120] ++ TL.numL m ++ [32, 43] ++ TL.numL s
def txtL : List Tr → List (List Nat)
  | [] => []
  | t :: ts => t.txt :: txtL ts
end
mutual
def Tr.fit : Tr → Prop
  | .at n => n < 10 ^ 255
  | .ov ps m s => m < 10 ^ 255 ∧ s < 10 ^ 255 ∧ fitL ps
def fitL : List Tr → Prop
  | [] => True
  | t :: ts => t.fit ∧ fitL ts
end
theorem txtL_map (ts : List Tr) : txtL ts = ts.map Tr.txt := by
  induction ts with
  | nil => simp [txtL]
  | cons t r ih => simp [txtL, ih]
theorem fitL_mem {t : Tr} : ∀ {ts : List Tr}, fitL ts → t ∈ ts → t.fit
  | x :: r, h, hm => by
    unfold fitL at h
    rcases List.mem_cons.mp hm with rfl | hm
    · exact h.1
    · exact fitL_mem h.2 hm
theorem pcsL_mem {t : Tr} : ∀ {ts : List Tr}, t ∈ ts → t.pcs ≤ pcsL ts
  | x :: r, hm => by
    unfold pcsL
    rcases List.mem_cons.mp hm with rfl | hm
    · omega
    · have := pcsL_mem hm
      omega
theorem pcs_pos (t : Tr) : 1 ≤ t.pcs := by
  cases t <;> unfold Tr.pcs <;> omega
theorem len_pcsL (ts : List Tr) : ts.length ≤ pcsL ts := by
  induction ts with
  | nil => exact Nat.zero_le _
  | cons t r ih =>
    have := pcs_pos t
    unfold pcsL
    rw [List.length_cons]
    omega
mutual
theorem txt_len : ∀ {t : Tr}, t.fit → t.txt.length + 2 ≤ 600 * t.pcs
  | .at n, h => by
    unfold Tr.fit at h
    have := Mo.shw_len (by decide) h
    unfold Tr.txt Tr.pcs
    omega
  | .ov ps m s, h => by
    unfold Tr.fit at h
    obtain ⟨h1, h2, h3⟩ := h
    have l1 := TL.numL_len (by decide) h1
    have l2 := TL.numL_len (by decide) h2
    have l3 := row_len h3
    have l4 : (rowT (txtL ps)).length ≤ 600 * pcsL ps + 1 := by
      unfold rowT
      split
      · show 1 ≤ _
        omega
      · omega
    unfold Tr.txt Tr.pcs
    simp only [List.length_append, List.length_cons, List.length_nil]
    omega
theorem row_len : ∀ {ts : List Tr}, fitL ts → (TL.joinL [44, 32] (txtL ts)).length ≤ 600 * pcsL ts
  | [], _ => by
    unfold txtL
    exact Nat.zero_le _
  | [t], h => by
    unfold fitL at h
    have := txt_len h.1
    have e : txtL [t] = [t.txt] := by simp [txtL]
    rw [e]
    show t.txt.length ≤ _
    have e2 : pcsL [t] = t.pcs := by simp [pcsL]
    omega
  | t :: x :: r, h => by
    unfold fitL at h
    have h1 := txt_len h.1
    have h2 := row_len h.2
    have e : txtL (t :: x :: r) = t.txt :: x.txt :: txtL r := by simp [txtL]
    have e3 : txtL (x :: r) = x.txt :: txtL r := by simp [txtL]
    rw [e3] at h2
    rw [e]
    show (t.txt ++ ([44, 32] ++ TL.joinL [44, 32] (x.txt :: txtL r))).length ≤ _
    have e2 : pcsL (t :: x :: r) = t.pcs + pcsL (x :: r) := by rw [pcsL]
    simp only [List.length_append, List.length_cons, List.length_nil]
    omega
end
theorem rowT_len {ts : List Tr} (h : fitL ts) : (rowT (txtL ts)).length ≤ 600 * pcsL ts + 1 := by
  have := row_len h
  unfold rowT
  split
  · show 1 ≤ _
    omega
  · omega
theorem sum_txt : ∀ {ts : List Tr}, fitL ts → ((txtL ts).map (·.length)).sum + 2 * ts.length ≤ 600 * pcsL ts
  | [], _ => by simp [txtL, pcsL]
  | t :: r, h => by
    unfold fitL at h
    have h1 := txt_len h.1
    have h2 := sum_txt h.2
    unfold txtL pcsL
    simp only [List.map_cons, List.sum_cons, List.length_cons]
    omega
mutual
theorem fit_of : ∀ {t : Tr}, t.ok → (∀ n ∈ t.moms, n < 10 ^ 80) → t.fit
  | .at n, _, h => by
    unfold Tr.fit
    unfold Tr.moms at h
    exact Nat.lt_trans (h n List.mem_cons_self) (by decide +kernel)
  | .ov ps m s, ho, h => by
    have hf := ov_facts ho
    unfold Tr.ok at ho
    obtain ⟨h1, h2, h3, h4, h5, h6, h7⟩ := ho
    unfold Tr.moms at h
    obtain ⟨n, hn⟩ : ∃ n, n ∈ momsL ps := ⟨_, headD_mem (momsL_ne h7 h1)⟩
    have hs := h (n + 1 * s) (mem_overN.mpr ⟨1, n, by omega, hn, rfl⟩)
    unfold Tr.fit
    refine ⟨Nat.lt_of_le_of_lt hf.2.2.1 (by decide +kernel), Nat.lt_trans (show s < 10 ^ 80 by omega) (by decide +kernel), fitL_of h7 fun k hk => ?_⟩
    have := h (k + 0 * s) (mem_overN.mpr ⟨0, k, by omega, hk, rfl⟩)
    omega
theorem fitL_of : ∀ {ts : List Tr}, okL_ ts → (∀ n ∈ momsL ts, n < 10 ^ 80) → fitL ts
  | [], _, _ => by
    unfold fitL
    trivial
  | t :: r, ho, h => by
    unfold okL_ at ho
    unfold momsL at h
    unfold fitL
    exact ⟨fit_of ho.1 fun n hn => h n (List.mem_append_left _ hn), fitL_of ho.2 fun n hn => h n (List.mem_append_right _ hn)⟩
end
def sp_Over_str (K : PySem.W.Frag) (d : Nat) : Sp := fun vs H Q _ => ∃ a ps m s, vs = [.ref a] ∧ ShAt K H (.ov ps m s) a ∧ (Tr.ov ps m s).nest ≤ d ∧ (Tr.ov ps m s).fit ∧ (Tr.ov ps m s).pcs ≤ 10000 ∧ ∀ H', Ex H H' → Q (.str (SX.S (Tr.ov ps m s).txt)) H'
end
section
def sp_At_str (K : PySem.W.Frag) : Sp := fun vs H Q _ => ∃ a n, vs = [.ref a] ∧ AtAt K H a n ∧ n < 10 ^ 255 ∧ ∀ H', Ex H H' → Q (.str (SX.S (Mo.shw n))) H'
theorem fb_At_str {P : Program} {w : World} {K : PySem.W.Frag} {mg : Str → Option Value} {base : Heap} (T : Env K mg) : ∃ fd, FunD K "__str__" "At.__str__" (defArgs s_At_str) (defBody s_At_str) (defScope s_At_str) [] [] (He.ma K (He.ga K "At") "__str__") fd ∧ Fb P w K mg base 6 (He.ma K (He.ga K "At") "__str__") fd ["self"] (sp_At_str K) := by
  obtain ⟨fd, F⟩ := T.f_At_str
  refine ⟨fd, F, fb_of F sc_At_str (fun vs H Q E h => ?_) (fun cdv A outer s H vs Q E hr h => ?_)⟩
  · obtain ⟨a, n, rfl, _⟩ := h
    rfl
  · obtain ⟨a, n, rfl, ⟨dx, ha⟩, hn, q⟩ := h
    refine ⟨_, (pss_one (ps_ret (pe_joined1 (pe_fmt (c_call (ok_show_moment T) (hr.mono (by decide)) T.g_show_moment T.k_show_moment takes0 (pa_cons (pe_fld (pv 0) (by rfl)) pa_nil)))))), ?_⟩
    have hl := Mo.shw_len (by decide) hn

    refine ⟨_, rfl, _, _, _, _, _, rfl, ha, T.c_At, T.a_At_moment, rfl, ?_⟩
    dsimp only [tNil]
    refine sm_good hn fun H1 X1 => ?_
    refine .inl ⟨_, rfl, sz_le (by rw [SX.S_len]; omega), q H1 X1⟩
theorem ok_At_str {P : Program} {w : World} {K : PySem.W.Frag} {mg : Str → Option Value} {base : Heap} (T : Env K mg) : Fc P w K mg base 6 (He.ma K (He.ga K "At") "__str__") [] (sp_At_str K ) := by
  obtain ⟨fd, D, F⟩ := fb_At_str T
  exact F.all (D.bindsN fun _ _ _ _ _ _ us hl => match us, hl with | [_], _ => rfl)
end
section
def sp_row_text (K : PySem.W.Frag) (d : Nat) : Sp := fun vs H Q _ => ∃ (p : Addr) (as : List Addr) (ts : List Tr), vs = [.ref p] ∧ H p = some (.tup (as.map V.ref)) ∧ ShsAt K H ts as ∧ nestL ts ≤ d ∧ fitL ts ∧ pcsL ts ≤ 10000 ∧ ∀ H', Ex H H' → Q (.str (SX.S (rowT (txtL ts)))) H'
theorem fb_row_text {P : Program} {w : World} {K : PySem.W.Frag} {mg : Str → Option Value} {base : Heap} (T : Env K mg) {d L : Nat} (hL : 40 ≤ L) (r_Over_str : Fc P w K mg base L (He.ma K (He.ga K "Over") "__str__") [] (sp_Over_str K d)) : ∃ fd, FunD K "row_text" "row_text" (defArgs s_row_text) (defBody s_row_text) (defScope s_row_text) [] [] (He.ga K "row_text") fd ∧ Fb P w K mg base (L + 3) (He.ga K "row_text") fd ["parts"] (sp_row_text K (d)) := by
  obtain ⟨fd, F⟩ := T.f_row_text
  refine ⟨fd, F, fb_of F sc_row_text (fun vs H Q E h => ?_) (fun cdv A outer s H vs Q E hr h => ?_)⟩
  · obtain ⟨p, as, ts, rfl, _⟩ := h
    rfl
  · obtain ⟨p, as, ts, rfl, hp, hA, hn, hf, hc, q⟩ := h
    refine ⟨_, (pss_cons (ps_if (pt_cmpR op_eq (pe_callB call_len (by rfl) T.n_len (by decide +kernel) (pa_cons (pv 0) pa_nil)) pe_int (nomark _))
      (pss_one (ps_ret (pe_k T.v_NO_PARTS)))
      pss_nil)
      (pss_one (ps_ret (pe_join pe_str (pe_lc (own := [("one", 1)]) (by rfl) sc_row_text.nd (pi_tup (pv 0)) (blkOk_by (own := [("one", 1)]) (N := ["parts", "one"]) (sc := defScope s_row_text) (by decide +kernel)) (fun _ _ _ _ _ => (pg_name (i := 1) sc_row_text.nd rfl (Or.inl rfl))) (fun _ _ _ _ _ => pts_nil) (fun _ _ _ _ _ => (pe_orE (pe_callTy (call_strO T.m_At_str (ok_At_str T) (hr.mono (by omega))) (by rfl) T.n_str (by decide +kernel) (pa_cons (pv 1) pa_nil)) (pe_callTy (call_strO T.m_Over_str r_Over_str (hr.mono (by omega))) (by rfl) T.n_str (by decide +kernel) (pa_cons (pv 1) pa_nil))))))))), ?_⟩
    have hl1 := hA.len
    have hl2 := len_pcsL ts
    refine ⟨_, rfl, _, _, rfl, (.inr ⟨_, ⟨(sq_tup hp), rfl⟩⟩), rfl, _, rfl, ?_⟩
    by_cases h0 : ts = []
    · refine ifP (by rw [List.length_map, hl1, h0]; rfl) ?_
      rw [h0] at q
      exact q H (.refl _)
    · refine ifN (by rw [List.length_map, hl1]; exact vint_ne (by have := List.length_pos_iff.mpr h0; omega)) ?_
      refine ⟨⟨_, rfl⟩, _, rfl, _, rfl, ⟨_, (sq_tup hp)⟩, fun A nA => lc_fm L2.walk_tup (fun i => (ts[i]?).map fun t => .str (SX.S t.txt)) (fun H' => Ex H H') (fun H' z e => ex_mut e nA) (.refl _) (by rw [List.length_map]; omega) (fun H' e => sq_tup (e _ _ hp)) (fun i x H2 H3 acc N hi e hD la y k => ?_) fun H3 X3 d3 => ?_⟩
      · obtain ⟨rfl, y⟩ := y
        rw [List.getElem?_map] at y
        obtain ⟨b, hb, rfl⟩ := Option.map_eq_some_iff.mp y
        obtain ⟨t, ht, hS⟩ := hA.get hb
        have htm := List.mem_of_getElem? ht
        have hS2 := hS.mono e
        have k2 := fun H4 (X4 : Ex H3 H4) => k H4 (e.trans X4) (X4 _ _ hD)
        rw [ht] at k2
        have ft := fitL_mem hf htm
        have pt := pcsL_mem htm
        have nt := nestL_mem htm
        cases t with
        | «at» n =>
          unfold ShAt at hS2
          obtain ⟨dy, h2⟩ := id hS2
          unfold Tr.fit at ft
          refine ⟨rfl, .inl ⟨_, rfl, _, dy, _, rfl, h2, b, n, rfl, hS2, ft, fun H4 X4 => ⟨trivial, acc, X4 _ _ hD, la, ?_⟩⟩⟩
          unfold Tr.txt at k2
          exact k2 H4 X4
        | ov ps' m' s' =>
          obtain ⟨dy, kp', as', h2, _⟩ := (by unfold ShAt at hS2; exact hS2 : ∃ dx kp as, H3 b = some (.ins (OverC K) dx (overF kp m' s')) ∧ H3 kp = some (.tup (as.map V.ref)) ∧ ShsAt K H3 ps' as)
          exact ⟨rfl, .inr ⟨_, rfl, b, dy, _, rfl, h2, b, ps', m', s', rfl, hS2, by omega, ft, by omega, fun H4 X4 => ⟨trivial, acc, X4 _ _ hD, la, k2 H4 X4⟩⟩⟩
      · rw [List.length_map, hl1, range_opt ts (fun t => V.str (SX.S t.txt))] at d3
        have e1 : ts.map (fun t => V.str (SX.S t.txt)) = ((txtL ts).map SX.S).map V.str := by
          rw [txtL_map, List.map_map, List.map_map]
          rfl
        rw [e1] at d3
        have sl := sum_txt hf
        refine ⟨_, A, _, rfl, rfl, .inl (sq_lst d3), ?_, ?_⟩
        · rw [SX.lens, List.length_map, txtL_map, List.length_map]
          rw [txtL_map] at sl
          have z : (Str.ofString ", ").length = 2 := rfl
          rw [z]
          omega
        · rw [show Str.ofString ", " = SX.S [44, 32] from rfl, SX.join_S]
          have e2 : rowT (txtL ts) = TL.joinL [44, 32] (txtL ts) := if_neg (by rw [txtL_map]; intro z; exact h0 (List.map_eq_nil_iff.mp z))
          rw [e2] at q
          exact q H3 X3
theorem ok_row_text {P : Program} {w : World} {K : PySem.W.Frag} {mg : Str → Option Value} {base : Heap} (T : Env K mg) {d L : Nat} (hL : 40 ≤ L) (r_Over_str : Fc P w K mg base L (He.ma K (He.ga K "Over") "__str__") [] (sp_Over_str K d)) : Fc P w K mg base (L + 3) (He.ga K "row_text") [] (sp_row_text K (d)) := by
  obtain ⟨fd, D, F⟩ := fb_row_text T hL r_Over_str
  exact F.all (D.bindsN fun _ _ _ _ _ _ us hl => match us, hl with | [_], _ => rfl)
end
section
def sp_At_nested (K : PySem.W.Frag) : Sp := fun vs H Q _ => ∃ a n, vs = [.ref a] ∧ AtAt K H a n ∧ Q (.int 0) H
theorem fb_At_nested {P : Program} {w : World} {K : PySem.W.Frag} {mg : Str → Option Value} {base : Heap} (T : Env K mg) : ∃ fd, FunD K "nested" "At.nested" (defArgs s_At_nested) (defBody s_At_nested) (defScope s_At_nested) [] [] (He.ma K (He.ga K "At") "nested") fd ∧ Fb P w K mg base 1 (He.ma K (He.ga K "At") "nested") fd ["self"] (sp_At_nested K) := by
  obtain ⟨fd, F⟩ := T.f_At_nested
  refine ⟨fd, F, fb_of F sc_At_nested (fun vs H Q E h => ?_) (fun cdv A outer s H vs Q E hr h => ?_)⟩
  · obtain ⟨a, n, rfl, _⟩ := h
    rfl
  · obtain ⟨a, n, rfl, ⟨dx, ha⟩, q⟩ := h
    refine ⟨_, (pss_one (ps_ret pe_int)), ?_⟩
    exact q
theorem ok_At_nested {P : Program} {w : World} {K : PySem.W.Frag} {mg : Str → Option Value} {base : Heap} (T : Env K mg) : Fc P w K mg base 1 (He.ma K (He.ga K "At") "nested") [] (sp_At_nested K ) := by
  obtain ⟨fd, D, F⟩ := fb_At_nested T
  exact F.all (D.bindsN fun _ _ _ _ _ _ us hl => match us, hl with | [_], _ => rfl)
end
section
theorem fb_Over_means_many {P : Program} {w : World} {K : PySem.W.Frag} {mg : Str → Option Value} {base : Heap} (T : Env K mg) {d L : Nat} (hL : 40 ≤ L) (r_Over_means_many : Fc P w K mg base L (He.ma K (He.ga K "Over") "means_many") [] (sp_Over_means_many K d)) : ∃ fd, FunD K "means_many" "Over.means_many" (defArgs s_Over_means_many) (defBody s_Over_means_many) (defScope s_Over_means_many) [] [] (He.ma K (He.ga K "Over") "means_many") fd ∧ Fb P w K mg base (L + 2) (He.ma K (He.ga K "Over") "means_many") fd ["self"] (sp_Over_means_many K (d + 1)) := by
  obtain ⟨fd, F⟩ := T.f_Over_means_many
  refine ⟨fd, F, fb_of F sc_Over_means_many (fun vs H Q E h => ?_) (fun cdv A outer s H vs Q E hr h => ?_)⟩
  · obtain ⟨a, ps, m, s, rfl, _⟩ := h
    rfl
  · obtain ⟨a, ps, m, s_, rfl, hO, hn, hok, hl, q⟩ := h
    refine ⟨_, (pss_one (ps_ret (pe_op op_mul (pe_fld (pv 0) (by rfl)) (c_call (ok_row_many T hL r_Over_means_many) (hr.mono (by omega)) T.g_row_many T.k_row_many takes0 (pa_cons (pe_fld (pv 0) (by rfl)) pa_nil))))), ?_⟩
    have hfew := momsL_few hok
    have hnL := ov_nest hn
    obtain ⟨dx, kp, as, ha, hk, hA⟩ := (by unfold ShAt at hO; exact hO : ∃ dx kp as, H a = some (.ins (OverC K) dx (overF kp m s_)) ∧ H kp = some (.tup (as.map V.ref)) ∧ ShsAt K H ps as)
    refine ⟨_, rfl, a, _, dx, _, _, rfl, ha, T.c_Over, T.a_Over_many, rfl, _, rfl, a, _, dx, _, _, rfl, ha, T.c_Over, T.a_Over_kept, rfl, kp, as, ps, rfl, hk, hA, hnL, hok, hl, fun H1 X1 => ⟨_, _, rfl, rfl, .inr ⟨by omega, by omega⟩, ?_⟩⟩
    have e : ((m : Nat) : Int) * (((momsL ps).length : Nat) : Int) = ((m * (momsL ps).length : Nat) : Int) := by simp
    show Q (.int (((m : Nat) : Int) * (((momsL ps).length : Nat) : Int))) H1
    rw [e]
    exact q H1 X1
theorem ok_Over_means_many {P : Program} {w : World} {K : PySem.W.Frag} {mg : Str → Option Value} {base : Heap} (T : Env K mg) {d L : Nat} (hL : 40 ≤ L) (r_Over_means_many : Fc P w K mg base L (He.ma K (He.ga K "Over") "means_many") [] (sp_Over_means_many K d)) : Fc P w K mg base (L + 2) (He.ma K (He.ga K "Over") "means_many") [] (sp_Over_means_many K (d + 1)) := by
  obtain ⟨fd, D, F⟩ := fb_Over_means_many T hL r_Over_means_many
  exact F.all (D.bindsN fun _ _ _ _ _ _ us hl => match us, hl with | [_], _ => rfl)
theorem all_Over_means_many {P : Program} {w : World} {K : PySem.W.Frag} {mg : Str → Option Value} {base : Heap} (T : Env K mg) : ∀ d, Fc P w K mg base (40 + 2 * d) (He.ma K (He.ga K "Over") "means_many") [] (sp_Over_means_many K d)
  | 0 => fc_no fun vs H Q E h => by
    obtain ⟨a, ps, m, s, _, _, h, _⟩ := h
    unfold Tr.nest at h
    omega
  | d + 1 => ok_Over_means_many T (Nat.le_add_right 40 _) (all_Over_means_many T d)
end
section
theorem fb_Over_nested {P : Program} {w : World} {K : PySem.W.Frag} {mg : Str → Option Value} {base : Heap} (T : Env K mg) {d L : Nat} (hL : 40 ≤ L) (r_Over_nested : Fc P w K mg base L (He.ma K (He.ga K "Over") "nested") [] (sp_Over_nested K d)) : ∃ fd, FunD K "nested" "Over.nested" (defArgs s_Over_nested) (defBody s_Over_nested) (defScope s_Over_nested) [] [] (He.ma K (He.ga K "Over") "nested") fd ∧ Fb P w K mg base (L + 1) (He.ma K (He.ga K "Over") "nested") fd ["self"] (sp_Over_nested K (d + 1)) := by
  obtain ⟨fd, F⟩ := T.f_Over_nested
  refine ⟨fd, F, fb_of F sc_Over_nested (fun vs H Q E h => ?_) (fun cdv A outer s H vs Q E hr h => ?_)⟩
  · obtain ⟨a, ps, m, s, rfl, _⟩ := h
    rfl
  · obtain ⟨a, ps, m, s_, rfl, hO, hn, h0, hok, hl, q⟩ := h
    refine ⟨_, (pss_one (ps_ret (pe_op op_add pe_int (pe_callB (cr_max rfl) (by rfl) T.n_max (by decide +kernel) (pa_cons (pe_lc (own := [("one", 1)]) (by rfl) sc_Over_nested.nd (pi_tup (pe_fld (pv 0) (by rfl))) (blkOk_by (own := [("one", 1)]) (N := ["self", "one"]) (sc := defScope s_Over_nested) (by decide +kernel)) (fun _ _ _ _ _ => (pg_name (i := 1) sc_Over_nested.nd rfl (Or.inl rfl))) (fun _ _ _ _ _ => pts_nil) (fun _ _ _ _ _ => (pe_orE (c_meth0 (pv 1) T.c_At T.m_At_nested (ok_At_nested T) (hr.mono (by omega)) takes0) (c_meth0 (pv 1) T.c_Over T.m_Over_nested r_Over_nested (hr.mono (by omega)) takes0)))) pa_nil))))), ?_⟩
    have hnL := ov_nest hn
    obtain ⟨dx, kp, as, ha, hk, hA⟩ := (by unfold ShAt at hO; exact hO : ∃ dx kp as, H a = some (.ins (OverC K) dx (overF kp m s_)) ∧ H kp = some (.tup (as.map V.ref)) ∧ ShsAt K H ps as)
    have hl1 := hA.len
    have hl2 := len_moms hok
    refine ⟨_, rfl, a, _, dx, _, _, rfl, ha, T.c_Over, T.a_Over_kept, rfl, kp, rfl, ⟨_, sq_tup hk⟩, fun A nA => lc_fm L2.walk_tup (fun i => (ps[i]?).map fun t => .int ((t.nest : Nat) : Int)) (fun H' => Ex H H') (fun H' z e => ex_mut e nA) (.refl _) (by rw [List.length_map]; omega) (fun H' e => sq_tup (e _ _ hk)) (fun i x H2 H3 acc N hi e hD la y k => ?_) fun H3 X3 d3 => ?_⟩
    · obtain ⟨rfl, y⟩ := y
      rw [List.getElem?_map] at y
      obtain ⟨b, hb, rfl⟩ := Option.map_eq_some_iff.mp y
      obtain ⟨t, ht, hS⟩ := hA.get hb
      have htm := List.mem_of_getElem? ht
      have hS2 := hS.mono e
      have k2 := fun H4 (X4 : Ex H3 H4) => k H4 (e.trans X4) (X4 _ _ hD)
      rw [ht] at k2
      have ok := okL_mem hok htm
      cases t with
      | «at» n =>
        unfold ShAt at hS2
        obtain ⟨dy, h2⟩ := id hS2
        exact ⟨rfl, .inl ⟨_, rfl, b, dy, _, rfl, h2, rfl, b, n, rfl, hS2, acc, hD, la, k2 H3 (.refl _)⟩⟩
      | ov ps' m' s' =>
        obtain ⟨dy, kp', as', h2, _⟩ := (by unfold ShAt at hS2; exact hS2 : ∃ dx kp as, H3 b = some (.ins (OverC K) dx (overF kp m' s')) ∧ H3 kp = some (.tup (as.map V.ref)) ∧ ShsAt K H3 ps' as)
        obtain ⟨o1, _, _, _, o5', _, o7⟩ := ov_facts ok
        have o5 : ps'.length ≤ 20000 := by omega
        exact ⟨rfl, .inr ⟨_, rfl, b, dy, _, rfl, h2, rfl, b, ps', m', s', rfl, hS2, Nat.le_trans (nestL_mem htm) hnL, o1, o7, o5, fun H4 X4 => ⟨acc, X4 _ _ hD, la, k2 H4 X4⟩⟩⟩
    · rw [List.length_map, hl1, range_opt ps (fun t => V.int ((t.nest : Nat) : Int))] at d3
      have e1 : ps.map (fun t => V.int ((t.nest : Nat) : Int)) = (ps.map fun t => ((t.nest : Nat) : Int)).map V.int := by
        rw [List.map_map]
        rfl
      rw [e1] at d3
      refine ⟨A, _, rfl, sq_lst d3, by rw [List.length_map]; exact List.length_pos_iff.mpr h0, fun mx hm hall => ⟨_, _, rfl, rfl, ?_⟩⟩
      have em : mx = ((nestL ps : Nat) : Int) := by
        obtain ⟨t, ht, e⟩ := List.mem_map.mp hm
        have h1 := nestL_mem ht
        obtain ⟨t2, ht2, e2⟩ := nestL_max h0
        have h2 := hall _ (List.mem_map.mpr ⟨t2, ht2, rfl⟩)
        omega
      have e : (1 : Int) + mx = (((Tr.ov ps m s_).nest : Nat) : Int) := by
        unfold Tr.nest
        omega
      show Q (.int (1 + mx)) H3
      rw [e]
      exact q H3 X3
theorem ok_Over_nested {P : Program} {w : World} {K : PySem.W.Frag} {mg : Str → Option Value} {base : Heap} (T : Env K mg) {d L : Nat} (hL : 40 ≤ L) (r_Over_nested : Fc P w K mg base L (He.ma K (He.ga K "Over") "nested") [] (sp_Over_nested K d)) : Fc P w K mg base (L + 1) (He.ma K (He.ga K "Over") "nested") [] (sp_Over_nested K (d + 1)) := by
  obtain ⟨fd, D, F⟩ := fb_Over_nested T hL r_Over_nested
  exact F.all (D.bindsN fun _ _ _ _ _ _ us hl => match us, hl with | [_], _ => rfl)
theorem all_Over_nested {P : Program} {w : World} {K : PySem.W.Frag} {mg : Str → Option Value} {base : Heap} (T : Env K mg) : ∀ d, Fc P w K mg base (40 + 1 * d) (He.ma K (He.ga K "Over") "nested") [] (sp_Over_nested K d)
  | 0 => fc_no fun vs H Q E h => by
    obtain ⟨a, ps, m, s, _, _, h, _⟩ := h
    unfold Tr.nest at h
    omega
  | d + 1 => ok_Over_nested T (Nat.le_add_right 40 _) (all_Over_nested T d)
end
section
theorem isN_nat_of {n : Int} {x : V} (h0 : 0 ≤ n) (h : isN n x = true) : ∃ m : Nat, x = .int (m : Nat) ∧ n ≤ (m : Int) := by
  unfold isN at h
  obtain ⟨_, h2⟩ := Bool.and_eq_true_iff.mp h
  cases x with
  | int i =>
    have h3 : n ≤ i := of_decide_eq_true h2
    obtain ⟨m, rfl⟩ := Int.eq_ofNat_of_zero_le (Int.le_trans h0 h3)
    exact ⟨m, rfl, h3⟩
  | _ => cases h2
/-- whether an Over may be made -/
def ovB (ts : List Tr) (xm xs : V) : Bool := risB ts && (decide (ts ≠ []) && (isN 2 xm && (isN 1 xs && (match xm, xs with
  | .int m, .int s => decide (((momsL ts).getLastD 0 : Int) < s + ((momsL ts).headD 0 : Int)) && (decide (m * ((momsL ts).length : Int) ≤ 1440) && decide (nestL ts ≤ 7))
  | _, _ => false))))
def sp_Over_init (K : PySem.W.Frag) : Sp := fun vs H Q E => ∃ (a dx p : Addr) (as : List Addr) (ts : List Tr) (xm xs : V) (H0 : Hp), vs = [.ref a, .ref p, xm, xs] ∧ H a = some (.ins (OverC K) dx []) ∧ H0 a = none ∧ Ex H0 H ∧ SqA H0 p (as.map V.ref) ∧ ShsAt K H0 ts as ∧ nestL ts ≤ 8 ∧ okL_ ts ∧ ts.length ≤ 20000 ∧ ts.length ≤ 20000 ∧ Cl K H0 xm ∧ Cl K H0 xs ∧ (∀ m s : Nat, ovB ts xm xs = true → xm = .int (m : Nat) → xs = .int (s : Nat) → ∀ H', Oth a H H' → ShAt K H' (.ov ts m s) a → Q .non H') ∧ (ovB ts xm xs = false → ∀ H', Oth a H H' → E (.ref (He.ga K "NoPiece")) none H')
theorem fb_Over_init {P : Program} {w : World} {K : PySem.W.Frag} {mg : Str → Option Value} {base : Heap} (T : Env K mg) : ∃ fd, FunD K "__init__" "Over.__init__" (defArgs s_Over_init) (defBody s_Over_init) (defScope s_Over_init) [.int (2), .int (60)] [] (He.ma K (He.ga K "Over") "__init__") fd ∧ Fb P w K mg base 64 (He.ma K (He.ga K "Over") "__init__") fd ["self", "parts", "many", "step"] (sp_Over_init K) := by
  obtain ⟨fd, F⟩ := T.f_Over_init
  refine ⟨fd, F, fb_of F sc_Over_init (fun vs H Q E h => ?_) (fun cdv A outer s H vs Q E hr h => ?_)⟩
  · obtain ⟨a, dx, p, as, ts, xm, xs, H0, rfl, _⟩ := h
    rfl
  · obtain ⟨a, dx, p, as, ts, xm, xs, H0, rfl, ha, na0, X0, hp, hA, hn, hok, hlm, hlt, cm, cs, q, qe⟩ := h
    refine ⟨_, (pss_cons (ps_fld (pv 0) (c_call (ok_shorts_in T) (hr.mono (by decide)) T.g_shorts_in T.k_shorts_in (takes_of rfl rfl rfl rfl) (pa_cons (pv 1) pa_nil)) rfl)
      (pss_cons (ps_if (PW.pt (pw_or (pt_cmpR op_eq (pe_callB call_len (by rfl) T.n_len (by decide +kernel) (pa_cons (pe_fld (pv 0) (by rfl)) pa_nil)) pe_int (nomark _)) (pw_or (pt_not (pt_val (c_call (ok_is_number T) (hr.mono (by decide)) T.g_is_number T.k_is_number (takes_of rfl rfl rfl rfl) (pa_cons (pv 2) (pa_cons pe_int pa_nil))))) (pw_or1 (pt_not (pt_val (c_call (ok_is_number T) (hr.mono (by decide)) T.g_is_number T.k_is_number (takes_of rfl rfl rfl rfl) (pa_cons (pv 3) (pa_cons pe_int pa_nil)))))))))
      (pss_one (ps_raise rfl (takes_of rfl rfl rfl rfl) (pmk_own PySem.F.excBase_ValueError T.x_NoPiece.x T.g_NoPiece T.x_NoPiece.kp (raises_own T.x_NoPiece.sub T.x_NoPiece.ty) rfl)))
      pss_nil)
      (pss_cons (ps_if (pt_cmpR op_le (pv 3) (pe_op op_sub (pe_orE (c_meth0 (pe_ix ix_tup (pe_fld (pv 0) (by rfl)) (pe_un un_neg pe_int) (fun _ _ => rfl)) T.c_At T.m_At_ends (ok_At_ends T) (hr.mono (by decide)) (takes_of rfl rfl rfl rfl)) (c_meth0 (pe_ix ix_tup (pe_fld (pv 0) (by rfl)) (pe_un un_neg pe_int) (fun _ _ => rfl)) T.c_Over T.m_Over_ends (all_Over_ends T 9) (hr.mono (by decide)) (takes_of rfl rfl rfl rfl))) (pe_orE (c_meth0 (pe_ix ix_tup (pe_fld (pv 0) (by rfl)) pe_int (fun _ _ => rfl)) T.c_At T.m_At_begins (ok_At_begins T) (hr.mono (by decide)) (takes_of rfl rfl rfl rfl)) (c_meth0 (pe_ix ix_tup (pe_fld (pv 0) (by rfl)) pe_int (fun _ _ => rfl)) T.c_Over T.m_Over_begins (all_Over_begins T 9) (hr.mono (by decide)) (takes_of rfl rfl rfl rfl)))) (nomark _))
      (pss_one (ps_raise rfl (takes_of rfl rfl rfl rfl) (pmk_own PySem.F.excBase_ValueError T.x_NoPiece.x T.g_NoPiece T.x_NoPiece.kp (raises_own T.x_NoPiece.sub T.x_NoPiece.ty) rfl)))
      pss_nil)
      (pss_cons (ps_fld (pv 0) (pv 2) rfl)
      (pss_cons (ps_fld (pv 0) (pv 3) rfl)
      (pss_one (ps_if (PW.pt (pw_or (pt_cmpR op_gt (c_meth0 (pv 0) T.c_Over T.m_Over_means_many (all_Over_means_many T 9) (hr.mono (by decide)) (takes_of rfl rfl rfl rfl)) (pe_k T.v_MOST_MOMENTS) (nomark _)) (pw_or1 (pt_cmpR op_gt (c_meth0 (pv 0) T.c_Over T.m_Over_nested (all_Over_nested T 9) (hr.mono (by decide)) (takes_of rfl rfl rfl rfl)) (pe_k T.v_MOST_NESTED) (nomark _)))))
      (pss_one (ps_raise rfl (takes_of rfl rfl rfl rfl) (pmk_own PySem.F.excBase_ValueError T.x_NoPiece.x T.g_NoPiece T.x_NoPiece.kp (raises_own T.x_NoPiece.sub T.x_NoPiece.ty) rfl)))
      pss_nil))))))), ?_⟩
    have hl1 := hA.len
    have hpH : SqA H p (as.map V.ref) := hp.imp (fun h => X0 _ _ h) (fun h => X0 _ _ h)
    refine ⟨_, rfl, p, as, ts, rfl, hpH, hA.mono X0, by omega, hok, hlt, fun hr2 t H1 X1 ht => ?_, fun hr2 H1 X1 => qe (by unfold ovB; rw [hr2]; rfl) H1 (ex_oth X1)⟩
    refine ⟨_, rfl, a, _, dx, [], rfl, X1 _ _ ha, T.c_Over, T.a_Over_kept, by decide, ?_⟩
    have ta : t ≠ a := fun z => by rw [z, X1 _ _ ha] at ht; cases ht
    have O1 : Oth a H (upd H1 a (.ins (OverC K) dx (putF "kept" (.ref t) []))) := (ex_oth X1).upd
    have h2 : upd H1 a (.ins (OverC K) dx (putF "kept" (.ref t) [])) a = some (.ins (OverC K) dx [("kept", .ref t)]) := upd_same
    have ht2 : upd H1 a (.ins (OverC K) dx (putF "kept" (.ref t) [])) t = some (.tup (as.map V.ref)) := by rw [upd_ne ta]; exact ht
    generalize upd H1 a (.ins (OverC K) dx (putF "kept" (.ref t) [])) = H2 at O1 h2 ht2 ⊢
    have X02 : Ex H0 H2 := Oth.ex X0 na0 O1
    have hA2 : ShsAt K H2 ts as := hA.mono X02
    refine ⟨_, rfl, a, _, dx, _, _, rfl, h2, T.c_Over, T.a_Over_kept, rfl, _, as.length, rfl, .inr ⟨_, sq_tup ht2, (List.length_map _).symm⟩, rfl, _, rfl, ?_⟩
    by_cases h0 : ts = []
    · rw [decide_eq_true (show V.int ((as.length : Nat) : Int) = V.int 0 by rw [hl1, h0]; rfl)]
      refine iteT ?_
      refine qe ?_ H2 O1
      unfold ovB
      rw [hr2, decide_eq_false (fun z => z h0)]
      rfl
    have pos : 0 < ts.length := List.length_pos_iff.mpr h0
    rw [decide_eq_false (show ¬ V.int ((as.length : Nat) : Int) = V.int 0 from fun z => by injection z with z; omega)]
    refine iteF ?_
    refine ⟨_, rfl, xm, 2, rfl, cm.mono X02, _, rfl, ?_⟩
    cases hm2 : isN 2 xm with
    | false =>
      refine iteT ?_
      refine qe ?_ H2 O1
      unfold ovB
      rw [hr2, decide_eq_true h0, hm2]
      rfl
    | true =>
    refine iteF ?_
    refine ⟨_, rfl, xs, 1, rfl, cs.mono X02, _, rfl, ?_⟩
    cases hs2 : isN 1 xs with
    | false =>
      refine iteT ?_
      refine qe ?_ H2 O1
      unfold ovB
      rw [hr2, decide_eq_true h0, hm2, hs2]
      rfl
    | true =>
    refine iteF ?_
    obtain ⟨m, rfl, hm⟩ := isN_nat_of (by decide) hm2
    obtain ⟨s_, rfl, hs1⟩ := isN_nat_of (by decide) hs2
    have eB : ovB ts (.int (m : Nat)) (.int (s_ : Nat)) = (decide (((momsL ts).getLastD 0 : Int) < ((s_ : Nat) : Int) + ((momsL ts).headD 0 : Int)) && (decide (((m : Nat) : Int) * ((momsL ts).length : Int) ≤ 1440) && decide (nestL ts ≤ 7))) := by
      unfold ovB
      rw [hr2, decide_eq_true h0, hm2, hs2]
      rfl
    have nn := momsL_ne hok h0
    obtain ⟨zf, rf, tf, rt, eas, ets, hSf⟩ : ∃ z r t u, as = z :: r ∧ ts = t :: u ∧ ShAt K H2 t z := by
      cases ts with
      | nil => exact absurd rfl h0
      | cons t u =>
        unfold ShsAt at hA2
        obtain ⟨z, r, e, h1, _⟩ := hA2
        exact ⟨z, r, t, u, e, rfl, h1⟩
    have as0 : as ≠ [] := fun z => by rw [z] at eas; cases eas
    obtain ⟨zl, gl, aL⟩ := last_ref as0
    obtain ⟨tl, htl, hSl⟩ := hA2.get gl
    have ep : ts = ts.dropLast ++ [tl] := by
      have e := (List.dropLast_concat_getLast h0).symm
      have e2 : ts.getLast h0 = tl := by
        rw [List.getLast_eq_getElem]
        rw [hl1] at htl
        obtain ⟨_, e⟩ := List.getElem?_eq_some_iff.mp htl
        exact e
      rw [e2] at e
      exact e
    have eL : (momsL ts).getLastD 0 = tl.moms.getLastD 0 := by
      have o7 := hok
      rw [ep] at o7 ⊢
      exact momsL_last o7
    have eF : (momsL ts).headD 0 = tf.moms.headD 0 := by
      have o7 := hok
      rw [ets] at o7 ⊢
      exact momsL_head o7
    have mf : tf ∈ ts := by rw [ets]; exact List.mem_cons_self
    have ml := List.mem_of_getElem? htl
    have aF : atI (as.map V.ref) 0 = some (.ref zf) := by rw [eas]; exact atI_nat (j := 0) rfl
    refine ⟨_, rfl, ?_⟩
    refine sh_ends hSl (okL_mem hok ml) (Nat.le_trans (nestL_mem ml) (by omega)) (fun R r => ⟨_, rfl, a, _, dx, _, _, rfl, h2, T.c_Over, T.a_Over_kept, rfl, _, rfl, t, _, _, _, rfl, rfl, sq_tup ht2, aL, r⟩) ?_
    refine sh_begins hSf (okL_mem hok mf) (Nat.le_trans (nestL_mem mf) (by omega)) (fun R r => ⟨_, rfl, a, _, dx, _, _, rfl, h2, T.c_Over, T.a_Over_kept, rfl, t, _, _, _, rfl, rfl, sq_tup ht2, aF, r⟩) ?_
    refine ⟨_, _, rfl, rfl, _, _, rfl, rfl, _, rfl, ?_⟩
    rw [← eL, ← eF]
    by_cases c1 : ((momsL ts).getLastD 0 : Int) < ((s_ : Nat) : Int) + ((momsL ts).headD 0 : Int)
    · rw [decide_eq_false (show ¬ ((s_ : Nat) : Int) ≤ (((momsL ts).getLastD 0 : Nat) : Int) - (((momsL ts).headD 0 : Nat) : Int) by omega)]
      refine iteF ?_
      refine ⟨_, rfl, _, rfl, a, _, dx, _, rfl, h2, T.c_Over, T.a_Over_many, Nat.le_of_ble_eq_true rfl, ?_⟩
      refine ⟨_, rfl, _, rfl, a, _, dx, _, rfl, upd_same, T.c_Over, T.a_Over_step, Nat.le_of_ble_eq_true rfl, ?_⟩
      rw [upd_upd]
      rw [show putF "step" (V.int (s_ : Nat)) (putF "many" (V.int (m : Nat)) [("kept", V.ref t)]) = overF t m s_ from rfl]
      have O3 : Oth a H (upd H2 a (.ins (OverC K) dx (overF t m s_))) := O1.upd
      have X03 : Ex H0 (upd H2 a (.ins (OverC K) dx (overF t m s_))) := Oth.ex X0 na0 O3
      have h3 : upd H2 a (.ins (OverC K) dx (overF t m s_)) a = some (.ins (OverC K) dx (overF t m s_)) := upd_same
      have hO : ShAt K (upd H2 a (.ins (OverC K) dx (overF t m s_))) (.ov ts m s_) a := by
        unfold ShAt
        exact ⟨dx, t, as, h3, by rw [upd_ne ta]; exact ht2, hA.mono X03⟩
      generalize upd H2 a (.ins (OverC K) dx (overF t m s_)) = H3 at O3 X03 hO h3 ⊢
      have hn9 : (Tr.ov ts m s_).nest ≤ 9 := by
        unfold Tr.nest
        omega
      refine ⟨_, rfl, a, dx, _, rfl, h3, rfl, a, ts, m, s_, rfl, hO, hn9, hok, hlm, fun H4 X4 => ⟨_, _, rfl, rfl, _, rfl, ?_⟩⟩
      have em : ((m * (momsL ts).length : Nat) : Int) = ((m : Nat) : Int) * ((momsL ts).length : Int) := by simp
      by_cases c2 : ((m : Nat) : Int) * ((momsL ts).length : Int) ≤ 1440
      · rw [decide_eq_false (show ¬ (1440 : Int) < ((m * (momsL ts).length : Nat) : Int) by omega)]
        refine iteF ?_
        refine ⟨_, rfl, a, dx, _, rfl, X4 _ _ h3, rfl, a, ts, m, s_, rfl, hO.mono X4, hn9, h0, hok, hlm, fun H5 X5 => ⟨_, _, rfl, rfl, _, rfl, ?_⟩⟩
        have O5 := O3.trans (ex_oth (X4.trans X5))
        by_cases c3 : nestL ts ≤ 7
        · rw [decide_eq_false (show ¬ (8 : Int) < (((Tr.ov ts m s_).nest : Nat) : Int) by unfold Tr.nest; omega)]
          refine iteF ?_
          exact q m s_ (by rw [eB, decide_eq_true c1, decide_eq_true c2, decide_eq_true c3]; rfl) rfl rfl H5 O5 (hO.mono (X4.trans X5))
        · rw [decide_eq_true (show (8 : Int) < (((Tr.ov ts m s_).nest : Nat) : Int) by unfold Tr.nest; omega)]
          refine iteT ?_
          exact qe (by rw [eB, decide_eq_false c3, Bool.and_false, Bool.and_false]) H5 O5
      · rw [decide_eq_true (show (1440 : Int) < ((m * (momsL ts).length : Nat) : Int) by omega)]
        exact iteT (qe (by rw [eB, decide_eq_false c2, Bool.false_and, Bool.and_false]) H4 (O3.trans (ex_oth X4)))
    · rw [decide_eq_true (show ((s_ : Nat) : Int) ≤ (((momsL ts).getLastD 0 : Nat) : Int) - (((momsL ts).headD 0 : Nat) : Int) by omega)]
      refine iteT ?_
      exact qe (by rw [eB, decide_eq_false c1]; rfl) H2 O1
theorem ovB_of {ts : List Tr} {m s : Nat} (h : (Tr.ov ts m s).ok) (hn : (Tr.ov ts m s).nest ≤ 8) : ovB ts (.int (m : Nat)) (.int (s : Nat)) = true := by
  unfold Tr.ok at h
  obtain ⟨h1, h2, h3, h4, h5, h6, h7⟩ := h
  unfold Tr.nest at hn
  have e4 : ((m : Nat) : Int) * ((momsL ts).length : Int) ≤ 1440 := by
    have : ((m * (momsL ts).length : Nat) : Int) ≤ 1440 := by omega
    rw [Int.natCast_mul] at this
    exact this
  unfold ovB
  rw [ris_of h7 h6, decide_eq_true h1, show isN 2 (.int (m : Nat)) = true from isN_nat (m := 2) h2, show isN 1 (.int (s : Nat)) = true from isN_nat (m := 1) h3]
  show (decide _ && (decide _ && decide _)) = true
  rw [decide_eq_true (by omega), decide_eq_true e4, decide_eq_true (by omega)]
  rfl
theorem over_newT {K : PySem.W.Frag} {H : Hp} {x dx p : Addr} {as : List Addr} {ts : List Tr} {m s : Nat} {Q : VK} {E : XK} (nx : H x = none) (nd : H dx = none) (ne : dx ≠ x) (hp : SqA H p (as.map V.ref)) (hA : ShsAt K H ts as) (hok : (Tr.ov ts m s).ok) (hn : (Tr.ov ts m s).nest ≤ 8) (q : ∀ H', Ex H H' → ShAt K H' (.ov ts m s) x → Q .non H') :
    sp_Over_init K [.ref x, .ref p, .int (m : Nat), .int (s : Nat)] (upd (upd H dx (.own x)) x (.ins (OverC K) dx [])) Q E := by
  have X1 := ex_made (o1 := .own x) (o2 := .ins (OverC K) dx []) nx nd ne
  have hb := ovB_of hok hn
  obtain ⟨o1, m2, hm, hml, hl2, hpl, hokL⟩ := ov_facts hok
  unfold Tr.nest at hn
  refine ⟨x, dx, p, as, ts, _, _, H, rfl, upd_same, nx, X1, hp, hA, by omega, hokL, by omega, by omega, cl_int _, cl_int _, fun m' s' _ em es H' k d => ?_, fun z => by rw [hb] at z; cases z⟩
  have e1 : m = m' := by injection em with em; omega
  have e2 : s = s' := by injection es with es; omega
  subst e1 e2
  exact q H' (fun b o e => k b o (ne_of_none e nx) (X1 _ _ e)) d
theorem ok_Over_init {P : Program} {w : World} {K : PySem.W.Frag} {mg : Str → Option Value} {base : Heap} (T : Env K mg) : Fc P w K mg base 64 (He.ma K (He.ga K "Over") "__init__") [] (fun vs H Q E => vs.length = 4 + ([] : List Str).length ∧ sp_Over_init K  (pick [.inl 0, .inl 1, .inl 2, .inl 3] vs [.int (2), .int (60)]) H Q E) := by
  obtain ⟨fd, D, F⟩ := fb_Over_init T
  exact Fb.shape D F 4 [] (fun us its => pick [.inl 0, .inl 1, .inl 2, .inl 3] us its) (by decide) (fun r1 r2 => pick_vals _ r1 r2) (fun T kV doc pm an cdv ct us ws its h1 h2 h3 => match us, ws, its, h1, h2, h3 with | [_, _, _, _], [], [_, _], _, _, _ => ⟨_, rfl, rfl⟩)
end
section
theorem fb_Over_moments {P : Program} {w : World} {K : PySem.W.Frag} {mg : Str → Option Value} {base : Heap} (T : Env K mg) {d L : Nat} (hL : 40 ≤ L) (r_Over_moments : Fc P w K mg base L (He.ma K (He.ga K "Over") "moments") [] (sp_Over_moments K d)) : ∃ fd, FunD K "moments" "Over.moments" (defArgs s_Over_moments) (defBody s_Over_moments) (defScope s_Over_moments) [] [] (He.ma K (He.ga K "Over") "moments") fd ∧ Fb P w K mg base (L + 2) (He.ma K (He.ga K "Over") "moments") fd ["self"] (sp_Over_moments K (d + 1)) := by
  obtain ⟨fd, F⟩ := T.f_Over_moments
  refine ⟨fd, F, fb_of F sc_Over_moments (fun vs H Q E h => ?_) (fun cdv A outer s H vs Q E hr h => ?_)⟩
  · obtain ⟨a, ps, m, s, rfl, _⟩ := h
    rfl
  · obtain ⟨a, ps, m, s_, rfl, hO, hn, hok, q⟩ := h
    refine ⟨_, (pss_cons (ps_set (i := 1) sc_Over_moments.nd rfl (Or.inl rfl) (c_call (ok_row_moments T hL r_Over_moments) (hr.mono (by omega)) T.g_row_moments T.k_row_moments takes0 (pa_cons (pe_fld (pv 0) (by rfl)) pa_nil)))
      (pss_cons (ps_set (i := 2) sc_Over_moments.nd rfl (Or.inl rfl) (pe_lst pa_nil))
      (pss_cons (ps_for (passes_of rfl) rfl (pi_range1 (by rfl) T.n_range (pa_cons (pe_fld (pv 0) (by rfl)) pa_nil)) (pg_name (i := 3) sc_Over_moments.nd rfl (Or.inr rfl))
      (pss_one (ps_expr (pe_bm PySem.F.plainAttrs_list PySem.F.slot_list_extend PySem.F.type_list_extend mt_extend (pv 2) (pa_cons (pe_lc (own := [("moment", 4)]) (by rfl) sc_Over_moments.nd (pi_list (pv 1)) (blkOk_by (own := [("moment", 4)]) (N := ["self", "own", "found", "time", "moment"]) (sc := defScope s_Over_moments) (by decide +kernel)) (fun _ _ _ _ _ => (pg_name (i := 4) sc_Over_moments.nd rfl (Or.inl rfl))) (fun _ _ _ _ _ => pts_nil) (fun _ _ _ _ _ => (pe_op op_add (pv 4) (pe_op op_mul (pv 3) (pe_fldK K (pv 0) (by rfl)))))) pa_nil)))))
      (pss_one (ps_ret (pv 2)))))), ?_⟩
    obtain ⟨_, m2, hm, hml, hl, hpl, hokL⟩ := ov_facts hok
    have hnL := ov_nest hn
    unfold Tr.moms at q
    unfold ShAt at hO
    obtain ⟨dx, kp, as, ha, hk, hA⟩ := hO
    generalize hns : momsL ps = ns at *
    refine ⟨_, rfl, a, _, dx, _, _, rfl, ha, T.c_Over, T.a_Over_kept, rfl, kp, as, ps, rfl, hk, hA, hnL, hokL, by rw [hns]; exact hl, fun w H1 X1 nw hw => ?_⟩
    rw [hns] at hw
    refine ⟨by show 0 ≤ sizeLine; decide, fun f nf => ?_⟩
    have nf0 := ex_fresh X1 nf
    have X2 := X1.trans (ex_new (o := .lst []) nf)
    have wf : w ≠ f := ne_of_none hw nf
    have af : a ≠ f := ne_of_none ha nf0
    have ha2 := X2 _ _ ha
    have hw2 := ex_new (o := .lst []) nf _ _ hw
    have hf2 : upd H1 f (.lst []) f = some (.lst []) := upd_same
    generalize upd H1 f (.lst []) = H2 at X2 ha2 hw2 hf2 ⊢
    refine ⟨_, rfl, a, _, dx, _, _, rfl, ha2, T.c_Over, T.a_Over_many, rfl, _, rfl, by omega, by omega, for_range (fun i σ H' => Oth f H2 H' ∧ ∃ v3 v4, σ = [some (.ref a), some (.ref w), some (.ref f), v3, v4] ∧ H' f = some (.lst (natV (overN ns i s_)))) ⟨Oth.refl _ _, _, _, rfl, hf2⟩ ?_ ?_⟩
    · rintro i σ H3 hi ⟨O3, v3, v4, rfl, hf3⟩
      have hi2 : i < m := by omega
      have hw3 := O3 _ _ wf hw2
      have ha3 := O3 _ _ af ha2
      have ll : (overN ns i s_).length = i * ns.length := overN_len ns i s_
      have l2 : i * ns.length ≤ m * ns.length := Nat.mul_le_mul_right _ (by omega)
      refine ⟨_, rfl, .inl ⟨rfl, _, sq_lst hf3⟩, _, rfl, w, rfl, ⟨_, sq_lst hw3⟩, fun A nA => lc_on ns (fun n : Nat => V.int n) L2.walk_list (fun n => some (.int ((n + i * s_ : Nat) : Int))) (fun H' => Ex H3 H') (fun H' z e => ex_mut e nA) (.refl _) (by omega) (fun H' e => sq_lst (e _ _ hw3)) (fun j n H4 acc N hn X4 hD la k => ?_) fun H4 X4 d4 => ?_⟩
      · refine ⟨rfl, _, rfl, _, rfl, _, rfl, a, _, dx, _, _, rfl, X4 _ _ ha3, T.c_Over, T.a_Over_step, rfl, _, _, rfl, rfl, .inl ⟨by omega, by omega⟩, _, _, rfl, rfl, acc, hD, la, ?_⟩
        have e : ((n : Nat) : Int) + (0 + ((i : Nat) : Int)) * ((s_ : Nat) : Int) = ((n + i * s_ : Nat) : Int) := by simp
        show N (upd H4 A (.lst (acc ++ [.int (((n : Nat) : Int) + (0 + ((i : Nat) : Int)) * ((s_ : Nat) : Int))])))
        rw [e]
        exact k H4 X4 hD
      · have ed : ns.filterMap (fun n => some (V.int ((n + i * s_ : Nat) : Int))) = natV (ns.map fun n => n + i * s_) := by
          unfold natV
          rw [List.filterMap_eq_map', List.map_map]
          rfl
        rw [ed] at d4
        refine ⟨f, A, _, _, rfl, rfl, X4 _ _ hf3, d4, sz_le (by rw [natV_len, natV_len, List.length_map, ll]; omega), (O3.trans (ex_oth X4)).upd, _, _, rfl, ?_⟩
        rw [upd_same, overN_succ]
        unfold natV
        rw [List.map_append]
    · rintro σ H3 ⟨O3, v3, v4, rfl, hf3⟩
      rw [show ((m : Nat) : Int).toNat = m by omega] at hf3
      exact ⟨_, rfl, q f H3 (Oth.ex X2 nf0 O3) nf0 hf3⟩
theorem ok_Over_moments {P : Program} {w : World} {K : PySem.W.Frag} {mg : Str → Option Value} {base : Heap} (T : Env K mg) {d L : Nat} (hL : 40 ≤ L) (r_Over_moments : Fc P w K mg base L (He.ma K (He.ga K "Over") "moments") [] (sp_Over_moments K d)) : Fc P w K mg base (L + 2) (He.ma K (He.ga K "Over") "moments") [] (sp_Over_moments K (d + 1)) := by
  obtain ⟨fd, D, F⟩ := fb_Over_moments T hL r_Over_moments
  exact F.all (D.bindsN fun _ _ _ _ _ _ us hl => match us, hl with | [_], _ => rfl)
theorem all_Over_moments {P : Program} {w : World} {K : PySem.W.Frag} {mg : Str → Option Value} {base : Heap} (T : Env K mg) : ∀ d, Fc P w K mg base (40 + 2 * d) (He.ma K (He.ga K "Over") "moments") [] (sp_Over_moments K d)
  | 0 => fc_no fun vs H Q E h => by
    obtain ⟨a, ps, m, s, _, _, h, _⟩ := h
    unfold Tr.nest at h
    omega
  | d + 1 => ok_Over_moments T (Nat.le_add_right 40 _) (all_Over_moments T d)
end
section
theorem fb_Over_str {P : Program} {w : World} {K : PySem.W.Frag} {mg : Str → Option Value} {base : Heap} (T : Env K mg) {d L : Nat} (hL : 40 ≤ L) (r_Over_str : Fc P w K mg base L (He.ma K (He.ga K "Over") "__str__") [] (sp_Over_str K d)) : ∃ fd, FunD K "__str__" "Over.__str__" (defArgs s_Over_str) (defBody s_Over_str) (defScope s_Over_str) [] [] (He.ma K (He.ga K "Over") "__str__") fd ∧ Fb P w K mg base (L + 4) (He.ma K (He.ga K "Over") "__str__") fd ["self"] (sp_Over_str K (d + 1)) := by
  obtain ⟨fd, F⟩ := T.f_Over_str
  refine ⟨fd, F, fb_of F sc_Over_str (fun vs H Q E h => ?_) (fun cdv A outer s H vs Q E hr h => ?_)⟩
  · obtain ⟨a, ps, m, s, rfl, _⟩ := h
    rfl
  · obtain ⟨a, ps, m, s_, rfl, hO, hn, hf, hc, q⟩ := h
    refine ⟨_, (pss_one (ps_ret (pe_joined (PJ.cons pe_str (PJ.cons (pe_fmt (c_call (ok_row_text T hL r_Over_str) (hr.mono (by omega)) T.g_row_text T.k_row_text takes0 (pa_cons (pe_fld (pv 0) (by rfl)) pa_nil))) (PJ.cons pe_str (PJ.cons (pe_fmt (pe_fld (pv 0) (by rfl))) (PJ.cons pe_str (PJ.cons (pe_fmt (pe_fld (pv 0) (by rfl))) PJ.nil))))))))), ?_⟩
    have hnL := ov_nest hn
    have htl := txt_len hf
    unfold Tr.pcs at hc htl
    unfold Tr.fit at hf
    unfold Tr.txt at q htl
    obtain ⟨f1, f2, f3⟩ := hf
    have rl := rowT_len f3
    unfold ShAt at hO
    obtain ⟨dx, kp, as, ha, hk, hA⟩ := hO
    have b1 := log_small f1
    have b2 := log_small f2
    have hpl : pcsL ps ≤ 10000 := by omega
    refine ⟨_, rfl, (by decide), _, rfl, _, _, _, _, _, rfl, ha, T.c_Over, T.a_Over_kept, rfl, _, _, _, rfl, hk, hA, hnL, f3, hpl, ?_⟩
    intro H1 X1
    have ha1 := X1 _ _ ha
    rw [show Str.empty ++ Str.ofString "(" = SX.S [40] from rfl]
    refine .inl ⟨_, rfl, sz_big (by rw [SX.S_len]; omega), _, rfl, ?_⟩
    rw [SX.S_cat]
    refine ⟨sz_big (by rw [SX.S_len, List.length_append]; show 1 + _ ≤ _; omega), _, rfl, ?_⟩
    rw [show Str.ofString ") x" = SX.S [41, 32, 120] from rfl, SX.S_cat]
    refine ⟨sz_big (by rw [SX.S_len]; simp only [List.length_append, List.length_cons, List.length_nil]; omega), ?_⟩
    refine ⟨_, rfl, _, _, _, _, _, rfl, ha1, T.c_Over, T.a_Over_many, rfl, .inr ⟨_, rfl, b1, _, rfl, ?_⟩⟩
    rw [SX.num_S, SX.S_cat]
    have l1 := TL.numL_len (by decide) f1
    have l2 := TL.numL_len (by decide) f2
    refine ⟨sz_big (by rw [SX.S_len]; simp only [List.length_append, List.length_cons, List.length_nil]; omega), _, rfl, ?_⟩
    rw [show Str.ofString " +" = SX.S [32, 43] from rfl, SX.S_cat]
    refine ⟨sz_big (by rw [SX.S_len]; simp only [List.length_append, List.length_cons, List.length_nil]; omega), ?_⟩
    refine ⟨_, rfl, _, _, _, _, _, rfl, ha1, T.c_Over, T.a_Over_step, rfl, .inr ⟨_, rfl, b2, _, rfl, ?_⟩⟩
    rw [SX.num_S, SX.S_cat]
    refine ⟨sz_big (by rw [SX.S_len]; simp only [List.length_append, List.length_cons, List.length_nil]; omega), ?_⟩
    exact q H1 X1
theorem ok_Over_str {P : Program} {w : World} {K : PySem.W.Frag} {mg : Str → Option Value} {base : Heap} (T : Env K mg) {d L : Nat} (hL : 40 ≤ L) (r_Over_str : Fc P w K mg base L (He.ma K (He.ga K "Over") "__str__") [] (sp_Over_str K d)) : Fc P w K mg base (L + 4) (He.ma K (He.ga K "Over") "__str__") [] (sp_Over_str K (d + 1)) := by
  obtain ⟨fd, D, F⟩ := fb_Over_str T hL r_Over_str
  exact F.all (D.bindsN fun _ _ _ _ _ _ us hl => match us, hl with | [_], _ => rfl)
theorem all_Over_str {P : Program} {w : World} {K : PySem.W.Frag} {mg : Str → Option Value} {base : Heap} (T : Env K mg) : ∀ d, Fc P w K mg base (40 + 4 * d) (He.ma K (He.ga K "Over") "__str__") [] (sp_Over_str K d)
  | 0 => fc_no fun vs H Q E h => by
    obtain ⟨a, ps, m, s, _, _, h, _⟩ := h
    unfold Tr.nest at h
    omega
  | d + 1 => ok_Over_str T (Nat.le_add_right 40 _) (all_Over_str T d)
end
section
abbrev SpreadC (K : PySem.W.Frag) : Addr := He.ga K "Spread"
def sprF (kp hd : Addr) : List (Str × V) := [("kept", .ref kp), ("held", .ref hd)]
/-- at a a spread of these shorts -/
def SprAt (K : PySem.W.Frag) (H : Hp) (a : Addr) (ts : List Tr) : Prop := ∃ dx kp hd as, H a = some (.ins (SpreadC K) dx (sprF kp hd)) ∧ H kp = some (.tup (as.map V.ref)) ∧ H hd = some (.lst (natV (momsL ts))) ∧ ShsAt K H ts as
theorem SprAt.mono {K : PySem.W.Frag} {H H' : Hp} {a : Addr} {ts : List Tr} (h : SprAt K H a ts) (e : Ex H H') : SprAt K H' a ts := let ⟨dx, kp, hd, as, h1, h2, h3, h4⟩ := h; ⟨dx, kp, hd, as, e _ _ h1, e _ _ h2, e _ _ h3, h4.mono e⟩
theorem sprF_inj {a b c d : Addr} (h : sprF a b = sprF c d) : a = c ∧ b = d := by
  unfold sprF at h
  simpa using h
theorem ins_inj {C dx dy : Addr} {fs gs : List (Str × V)} (h : some (HO.ins C dx fs) = some (HO.ins C dy gs)) : dx = dy ∧ fs = gs := by
  cases h
  exact ⟨rfl, rfl⟩
/-- the list that a spread holds stands at a place that N tells -/
def HeldN (K : PySem.W.Frag) (N : Addr → Prop) (H : Hp) (a : Addr) : Prop := ∀ dx kp hd, H a = some (.ins (SpreadC K) dx (sprF kp hd)) → N hd
theorem HeldN.ex {K : PySem.W.Frag} {N : Addr → Prop} {H H' : Hp} {a : Addr} {ts : List Tr} (h : HeldN K N H a) (s : SprAt K H a ts) (e : ∀ o, H a = some o → H' a = some o) : HeldN K N H' a := fun dx kp hd z => by
  obtain ⟨dx2, kp2, hd2, as2, h2, _⟩ := s
  obtain ⟨_, e5⟩ := ins_inj ((e _ h2).symm.trans z)
  obtain ⟨e6, e7⟩ := sprF_inj e5
  rw [← e7]
  exact h _ _ _ h2
theorem SprAt.put {K : PySem.W.Frag} {N : Addr → Prop} {H : Hp} {a f : Addr} {ts : List Tr} {xs ys : List V} (s : SprAt K H a ts) (h : HeldN K N H a) (n : ∀ b, N b → b ≠ f) (hf : H f = some (.lst xs)) : SprAt K (upd H f (.lst ys)) a ts ∧ HeldN K N (upd H f (.lst ys)) a := by
  have keep : ∀ b o, H b = some o → (∀ zs, o ≠ .lst zs) → upd H f (.lst ys) b = some o := fun b o hb ho => by
    rw [upd_ne (fun z => by rw [z, hf] at hb; cases hb; exact ho _ rfl)]
    exact hb
  obtain ⟨dx, kp, hd, as, h1, h2, h3, h4⟩ := id s
  refine ⟨⟨dx, kp, hd, as, keep _ _ h1 (fun _ z => nomatch z), keep _ _ h2 (fun _ z => nomatch z), ?_, h4.oth ((Oth.refl f H).upd) fun ob ho => ?_⟩, h.ex s fun o ho => ?_⟩
  · rw [upd_ne (n _ (h _ _ _ h1))]
    exact h3
  · rw [hf] at ho
    cases ho
    exact ⟨_, rfl⟩
  · rw [h1] at ho
    cases ho
    exact keep _ _ h1 (fun _ z => nomatch z)
def sprB (ts : List Tr) : Bool := risB ts && decide ((momsL ts).length ≤ 1440)
def sp_Spread_init (K : PySem.W.Frag) : Sp := fun vs H Q E => ∃ (a dx p : Addr) (as : List Addr) (ts : List Tr) (H0 : Hp), vs = [.ref a, .ref p] ∧ H a = some (.ins (SpreadC K) dx []) ∧ H0 a = none ∧ Ex H0 H ∧ SqA H0 p (as.map V.ref) ∧ ShsAt K H0 ts as ∧ nestL ts ≤ 8 ∧ okL_ ts ∧ ts.length ≤ 20000 ∧ ts.length ≤ 20000 ∧ (sprB ts = true → ∀ H', Oth a H H' → SprAt K H' a ts → HeldN K (fun b => H0 b = none) H' a → Q .non H') ∧ (sprB ts = false → ∀ H', Oth a H H' → E (.ref (He.ga K "NoPiece")) none H')
theorem fb_Spread_init {P : Program} {w : World} {K : PySem.W.Frag} {mg : Str → Option Value} {base : Heap} (T : Env K mg) : ∃ fd, FunD K "__init__" "Spread.__init__" (defArgs s_Spread_init) (defBody s_Spread_init) (defScope s_Spread_init) [] [] (He.ma K (He.ga K "Spread") "__init__") fd ∧ Fb P w K mg base 64 (He.ma K (He.ga K "Spread") "__init__") fd ["self", "parts"] (sp_Spread_init K) := by
  obtain ⟨fd, F⟩ := T.f_Spread_init
  refine ⟨fd, F, fb_of F sc_Spread_init (fun vs H Q E h => ?_) (fun cdv A outer s H vs Q E hr h => ?_)⟩
  · obtain ⟨a, dx, p, as, ts, H0, rfl, _⟩ := h
    rfl
  · obtain ⟨a, dx, p, as, ts, H0, rfl, ha, na0, X0, hp, hA, hn, hok, hlm, hlt, q, qe⟩ := h
    refine ⟨_, (pss_cons (ps_fld (pv 0) (c_call (ok_shorts_in T) (hr.mono (by decide)) T.g_shorts_in T.k_shorts_in (takes_of rfl rfl rfl rfl) (pa_cons (pv 1) pa_nil)) rfl)
      (pss_cons (ps_if (pt_cmpR op_gt (c_call (ok_row_many T (Nat.le_add_right 40 _) (all_Over_means_many T 9)) (hr.mono (by decide)) T.g_row_many T.k_row_many (takes_of rfl rfl rfl rfl) (pa_cons (pe_fld (pv 0) (by rfl)) pa_nil)) (pe_k T.v_MOST_MOMENTS) (nomark _))
      (pss_one (ps_raise rfl (takes_of rfl rfl rfl rfl) (pmk_own PySem.F.excBase_ValueError T.x_NoPiece.x T.g_NoPiece T.x_NoPiece.kp (raises_own T.x_NoPiece.sub T.x_NoPiece.ty) rfl)))
      pss_nil)
      (pss_one (ps_fld (pv 0) (c_call (ok_row_moments T (Nat.le_add_right 40 _) (all_Over_moments T 9)) (hr.mono (by decide)) T.g_row_moments T.k_row_moments (takes_of rfl rfl rfl rfl) (pa_cons (pe_fld (pv 0) (by rfl)) pa_nil)) rfl)))), ?_⟩
    have hpH : SqA H p (as.map V.ref) := hp.imp (fun h => X0 _ _ h) (fun h => X0 _ _ h)
    refine ⟨_, rfl, p, as, ts, rfl, hpH, hA.mono X0, by omega, hok, hlt, fun hr2 t H1 X1 ht => ?_, fun hr2 H1 X1 => qe (by unfold sprB; rw [hr2]; rfl) H1 (ex_oth X1)⟩
    refine ⟨_, rfl, a, _, dx, [], rfl, X1 _ _ ha, T.c_Spread, T.a_Spread_kept, by decide, ?_⟩
    have ta : t ≠ a := fun z => by rw [z, X1 _ _ ha] at ht; cases ht
    have O1 : Oth a H (upd H1 a (.ins (SpreadC K) dx (putF "kept" (.ref t) []))) := (ex_oth X1).upd
    have h2 : upd H1 a (.ins (SpreadC K) dx (putF "kept" (.ref t) [])) a = some (.ins (SpreadC K) dx [("kept", .ref t)]) := upd_same
    have ht2 : upd H1 a (.ins (SpreadC K) dx (putF "kept" (.ref t) [])) t = some (.tup (as.map V.ref)) := by rw [upd_ne ta]; exact ht
    generalize upd H1 a (.ins (SpreadC K) dx (putF "kept" (.ref t) [])) = H2 at O1 h2 ht2 ⊢
    have X02 : Ex H0 H2 := Oth.ex X0 na0 O1
    have hA2 : ShsAt K H2 ts as := hA.mono X02
    refine ⟨_, rfl, a, _, dx, _, _, rfl, h2, T.c_Spread, T.a_Spread_kept, rfl, t, as, ts, rfl, ht2, hA2, by omega, hok, hlm, fun H3 X3 => ⟨_, _, rfl, rfl, _, rfl, ?_⟩⟩
    by_cases c : (momsL ts).length ≤ 1440
    · rw [decide_eq_false (show ¬ (1440 : Int) < (((momsL ts).length : Nat) : Int) by omega)]
      refine iteF ?_
      refine ⟨_, rfl, a, _, dx, _, _, rfl, X3 _ _ h2, T.c_Spread, T.a_Spread_kept, rfl, t, as, ts, rfl, X3 _ _ ht2, hA2.mono X3, by omega, hok, c, fun hd H4 X4 nhd hhd => ?_⟩
      have X34 := X3.trans X4
      have hda : hd ≠ a := fun z => by rw [z, X34 _ _ h2] at hhd; cases hhd
      refine ⟨_, rfl, a, _, dx, _, rfl, X34 _ _ h2, T.c_Spread, T.a_Spread_held, Nat.le_of_ble_eq_true rfl, ?_⟩
      have O4 : Oth a H (upd H4 a (.ins (SpreadC K) dx (sprF t hd))) := (O1.trans (ex_oth X34)).upd
      refine q (by unfold sprB; rw [hr2, decide_eq_true c]; rfl) _ O4 ⟨dx, t, hd, as, upd_same, by rw [upd_ne ta]; exact X34 _ _ ht2, by rw [upd_ne hda]; exact hhd, hA.mono (Oth.ex X0 na0 O4)⟩ fun dx' kp' hd' e => ?_
      rw [upd_same] at e
      rw [← (sprF_inj (ins_inj e).2).2]
      exact ex_fresh (X02.trans X3) nhd
    · rw [decide_eq_true (show (1440 : Int) < (((momsL ts).length : Nat) : Int) by omega)]
      exact iteT (qe (by unfold sprB; rw [decide_eq_false c, Bool.and_false]) H3 (O1.trans (ex_oth X3)))
theorem spread_new {K : PySem.W.Frag} {H : Hp} {x dx p : Addr} {as : List Addr} {ts : List Tr} {Q : VK} {E : XK} (nx : H x = none) (nd : H dx = none) (ne : dx ≠ x) (hp : SqA H p (as.map V.ref)) (hA : ShsAt K H ts as) (hn : nestL ts ≤ 8) (hok : okL_ ts) (hb : sprB ts = true) (q : ∀ H', Ex H H' → SprAt K H' x ts → Q .non H') :
    sp_Spread_init K [.ref x, .ref p] (upd (upd H dx (.own x)) x (.ins (SpreadC K) dx [])) Q E := by
  have X1 := ex_made (o1 := .own x) (o2 := .ins (SpreadC K) dx []) nx nd ne
  have hl : (momsL ts).length ≤ 1440 := of_decide_eq_true (Bool.and_eq_true_iff.mp hb).2
  have h2 := len_moms hok
  refine ⟨x, dx, p, as, ts, H, rfl, upd_same, nx, X1, hp, hA, hn, hok, by omega, by omega, fun _ H' k d _ => ?_, fun z => by rw [hb] at z; cases z⟩
  exact q H' (fun b o e => k b o (ne_of_none e nx) (X1 _ _ e)) d
theorem spread_newH {K : PySem.W.Frag} {H : Hp} {x dx p : Addr} {as : List Addr} {ts : List Tr} {Q : VK} {E : XK} (nx : H x = none) (nd : H dx = none) (ne : dx ≠ x) (hp : SqA H p (as.map V.ref)) (hA : ShsAt K H ts as) (hn : nestL ts ≤ 8) (hok : okL_ ts) (hb : sprB ts = true) (q : ∀ H', Ex H H' → SprAt K H' x ts → HeldN K (fun b => H b = none) H' x → Q .non H') :
    sp_Spread_init K [.ref x, .ref p] (upd (upd H dx (.own x)) x (.ins (SpreadC K) dx [])) Q E := by
  have X1 := ex_made (o1 := .own x) (o2 := .ins (SpreadC K) dx []) nx nd ne
  have hl : (momsL ts).length ≤ 1440 := of_decide_eq_true (Bool.and_eq_true_iff.mp hb).2
  have h2 := len_moms hok
  refine ⟨x, dx, p, as, ts, H, rfl, upd_same, nx, X1, hp, hA, hn, hok, by omega, by omega, fun _ H' k d e => ?_, fun z => by rw [hb] at z; cases z⟩
  exact q H' (fun b o e => k b o (ne_of_none e nx) (X1 _ _ e)) d e
theorem ok_Spread_init {P : Program} {w : World} {K : PySem.W.Frag} {mg : Str → Option Value} {base : Heap} (T : Env K mg) : Fc P w K mg base 64 (He.ma K (He.ga K "Spread") "__init__") [] (sp_Spread_init K ) := by
  obtain ⟨fd, D, F⟩ := fb_Spread_init T
  exact F.all (D.bindsN fun _ _ _ _ _ _ us hl => match us, hl with | [_, _], _ => rfl)
theorem ok_Spread_init_1_parts {P : Program} {w : World} {K : PySem.W.Frag} {mg : Str → Option Value} {base : Heap} (T : Env K mg) : Fc P w K mg base 64 (He.ma K (He.ga K "Spread") "__init__") ["parts"] (fun vs H Q E => vs.length = 1 + (["parts"] : List Str).length ∧ sp_Spread_init K  (pick [.inl 0, .inl 1] vs []) H Q E) := by
  obtain ⟨fd, D, F⟩ := fb_Spread_init T
  exact Fb.names D F 1 ["parts"] (fun us => pick [.inl 0, .inl 1] us []) (fun r1 => pick_vals _ r1 .nil) (fun kV doc pm an cdv ct us ws h1 h2 => match us, ws, h1, h2 with | [_], [_], _, _ => rfl)
end
section
def natD (ns : List Nat) : List PyData := ns.map fun n : Nat => PyData.int (n : Int)
theorem dp_nat (K : PySem.W.Frag) (H : Hp) : ∀ ns : List Nat, DpAll K H (natV ns) (natD ns)
  | [] => .nil
  | n :: ns => .cons (.int _) (dp_nat K H ns)
theorem natD_lay : ∀ ns : List Nat, PyData.canLayAll0 (natD ns) = true
  | [] => rfl
  | n :: ns => by
    show (true && PyData.canLayAll0 (natD ns)) = true
    rw [natD_lay ns]
    rfl
theorem natD_dep : ∀ ns : List Nat, PyData.depthAll (natD ns) = 0
  | [] => rfl
  | n :: ns => by
    show max 0 (PyData.depthAll (natD ns)) = 0
    rw [natD_dep ns]
    rfl
theorem shaped_nat (ns : List Nat) : SeqAt.shaped (.list (natD ns)) = true := by
  show (PyData.canLayAll0 (natD ns) && decide (PyData.depthAll (natD ns) + 1 ≤ 64)) = true
  rw [natD_lay, natD_dep]
  rfl
end
section
theorem eqv_natD : ∀ a b : List Nat, PyData.eqvAll (natD a) (natD b) = decide (a = b)
  | [], [] => rfl
  | [], _ :: _ => rfl
  | _ :: _, [] => rfl
  | x :: a, y :: b => by
    show (decide (((x : Nat) : Int) = ((y : Nat) : Int)) && PyData.eqvAll (natD a) (natD b)) = _
    rw [eqv_natD a b]
    by_cases h : x = y
    · subst h
      simp
    · have : ¬ ((x : Nat) : Int) = ((y : Nat) : Int) := fun z => h (by omega)
      simp [this, h]
end
section
def sp_Spread_eq (K : PySem.W.Frag) : Sp := fun vs H Q _ => ∃ a x, vs = [.ref a, x] ∧ ((∃ ts b us, SprAt K H a ts ∧ x = .ref b ∧ SprAt K H b us ∧ Q (.bl (decide (momsL ts = momsL us))) H) ∨ (∃ t, TyX K H x t ∧ PySem.W.kitOne K t (.ref (SpreadC K)) = some false ∧ Q (.bl false) H))
theorem fb_Spread_eq {P : Program} {w : World} {K : PySem.W.Frag} {mg : Str → Option Value} {base : Heap} (T : Env K mg) : ∃ fd, FunD K "__eq__" "Spread.__eq__" (defArgs s_Spread_eq) (defBody s_Spread_eq) (defScope s_Spread_eq) [] [] (He.ma K (He.ga K "Spread") "__eq__") fd ∧ Fb P w K mg base 1 (He.ma K (He.ga K "Spread") "__eq__") fd ["self", "other"] (sp_Spread_eq K) := by
  obtain ⟨fd, F⟩ := T.f_Spread_eq
  refine ⟨fd, F, fb_of F sc_Spread_eq (fun vs H Q E h => ?_) (fun cdv A outer s H vs Q E hr h => ?_)⟩
  · obtain ⟨a, x, rfl, _⟩ := h
    rfl
  · obtain ⟨a, x, rfl, q⟩ := h
    refine ⟨_, (pss_one (ps_ret (pe_and (pe_callB call_isi (by rfl) T.n_isinstance (by decide +kernel) (pa_cons (pv 1) (pa_cons (pe_glob (v := .ref _) (by rfl) T.g_Spread rfl) pa_nil))) (pe_one (pe_cmpR (op_eqD hr.rm.units) (pe_fld (pv 0) (by rfl)) (pe_fld (pv 1) (by rfl)) (nomark _)))))), ?_⟩
    rcases q with ⟨ts, b, us, hO, rfl, hb, q⟩ | ⟨t, ty, kt, q⟩
    · obtain ⟨dx, kp, hd, as, ha, hk, hh, hA⟩ := id hO
      obtain ⟨dy, kq, he, bs, hb1, hb2, hb3, hb4⟩ := id hb
      refine ⟨_, rfl, _, _, _, _, _, rfl, .own _, ty_ins T.i_Spread T.c_Spread hb1, T.kit_Spread_Spread, _, rfl, _, rfl, _, _, _, _, _, rfl, ha, T.c_Spread, T.a_Spread_held, rfl, _, rfl, _, _, _, _, _, rfl, hb1, T.c_Spread, T.a_Spread_held, rfl, ?_⟩
      refine ⟨_, _, .lst (sq_lst hh) (dp_nat K _ _), .lst (sq_lst hb3) (dp_nat K _ _), shaped_nat _, shaped_nat _, ?_⟩
      have e1 : PyData.eqv (.list (natD (momsL ts))) (.list (natD (momsL us))) = decide (momsL ts = momsL us) := by
        show PyData.eqvAll (natD (momsL ts)) (natD (momsL us)) = _
        rw [eqv_natD]
      rw [e1]
      exact q
    · exact ⟨_, rfl, _, _, _, _, false, rfl, .own _, ty, kt, _, rfl, iteF q⟩
theorem ok_Spread_eq {P : Program} {w : World} {K : PySem.W.Frag} {mg : Str → Option Value} {base : Heap} (T : Env K mg) : Fc P w K mg base 1 (He.ma K (He.ga K "Spread") "__eq__") [] (sp_Spread_eq K ) := by
  obtain ⟨fd, D, F⟩ := fb_Spread_eq T
  exact F.all (D.bindsN fun _ _ _ _ _ _ us hl => match us, hl with | [_, _], _ => rfl)
end
section
def sp_Spread_len (K : PySem.W.Frag) : Sp := fun vs H Q _ => ∃ a ts, vs = [.ref a] ∧ SprAt K H a ts ∧ Q (.int (((momsL ts).length : Nat) : Int)) H
theorem fb_Spread_len {P : Program} {w : World} {K : PySem.W.Frag} {mg : Str → Option Value} {base : Heap} (T : Env K mg) : ∃ fd, FunD K "__len__" "Spread.__len__" (defArgs s_Spread_len) (defBody s_Spread_len) (defScope s_Spread_len) [] [] (He.ma K (He.ga K "Spread") "__len__") fd ∧ Fb P w K mg base 1 (He.ma K (He.ga K "Spread") "__len__") fd ["self"] (sp_Spread_len K) := by
  obtain ⟨fd, F⟩ := T.f_Spread_len
  refine ⟨fd, F, fb_of F sc_Spread_len (fun vs H Q E h => ?_) (fun cdv A outer s H vs Q E hr h => ?_)⟩
  · obtain ⟨a, ts, rfl, _⟩ := h
    rfl
  · obtain ⟨a, ts, rfl, hO, q⟩ := h
    refine ⟨_, (pss_one (ps_ret (pe_callB call_len (by rfl) T.n_len (by decide +kernel) (pa_cons (pe_fld (pv 0) (by rfl)) pa_nil)))), ?_⟩
    obtain ⟨dx, kp, hd, as, ha, hk, hh, hA⟩ := id hO
    exact ⟨_, rfl, a, _, dx, _, _, rfl, ha, T.c_Spread, T.a_Spread_held, rfl, _, (momsL ts).length, rfl, .inl ⟨_, sq_lst hh, (natV_len _).symm⟩, q⟩
theorem ok_Spread_len {P : Program} {w : World} {K : PySem.W.Frag} {mg : Str → Option Value} {base : Heap} (T : Env K mg) : Fc P w K mg base 1 (He.ma K (He.ga K "Spread") "__len__") [] (sp_Spread_len K ) := by
  obtain ⟨fd, D, F⟩ := fb_Spread_len T
  exact F.all (D.bindsN fun _ _ _ _ _ _ us hl => match us, hl with | [_], _ => rfl)
end
section
def sp_Spread_str (K : PySem.W.Frag) : Sp := fun vs H Q _ => ∃ a ts, vs = [.ref a] ∧ SprAt K H a ts ∧ nestL ts ≤ 9 ∧ fitL ts ∧ pcsL ts ≤ 10000 ∧ ∀ H', Ex H H' → Q (.str (SX.S (rowT (txtL ts)))) H'
theorem fb_Spread_str {P : Program} {w : World} {K : PySem.W.Frag} {mg : Str → Option Value} {base : Heap} (T : Env K mg) : ∃ fd, FunD K "__str__" "Spread.__str__" (defArgs s_Spread_str) (defBody s_Spread_str) (defScope s_Spread_str) [] [] (He.ma K (He.ga K "Spread") "__str__") fd ∧ Fb P w K mg base 80 (He.ma K (He.ga K "Spread") "__str__") fd ["self"] (sp_Spread_str K) := by
  obtain ⟨fd, F⟩ := T.f_Spread_str
  refine ⟨fd, F, fb_of F sc_Spread_str (fun vs H Q E h => ?_) (fun cdv A outer s H vs Q E hr h => ?_)⟩
  · obtain ⟨a, ts, rfl, _⟩ := h
    rfl
  · obtain ⟨a, ts, rfl, hO, hn, hf, hc, q⟩ := h
    refine ⟨_, (pss_one (ps_ret (pe_joined1 (pe_fmt (c_call (ok_row_text T (Nat.le_add_right 40 _) (all_Over_str T 9)) (hr.mono (by decide)) T.g_row_text T.k_row_text takes0 (pa_cons (pe_fld (pv 0) (by rfl)) pa_nil)))))), ?_⟩
    have rl := rowT_len hf
    obtain ⟨dx, kp, hd, as, ha, hk, hA, hh⟩ := hO
    refine ⟨_, rfl, _, _, _, _, _, rfl, ha, T.c_Spread, T.a_Spread_kept, rfl, _, _, _, rfl, hk, hh, hn, hf, hc, ?_⟩
    intro H1 X1
    exact .inl ⟨_, rfl, sz_big (by rw [SX.S_len]; omega), q H1 X1⟩
theorem ok_Spread_str {P : Program} {w : World} {K : PySem.W.Frag} {mg : Str → Option Value} {base : Heap} (T : Env K mg) : Fc P w K mg base 80 (He.ma K (He.ga K "Spread") "__str__") [] (sp_Spread_str K ) := by
  obtain ⟨fd, D, F⟩ := fb_Spread_str T
  exact F.all (D.bindsN fun _ _ _ _ _ _ us hl => match us, hl with | [_], _ => rfl)
end
section
def isSep (c : Nat) : Bool := c == 44 || (c == 40 || c == 41)
def itm (r : List Nat) : List Nat := r.takeWhile fun c => !isSep c
def numIn (l : List Nat) : Option Nat := if Mo.figs l then some (Mo.val l) else none
def ovWords : List (List Nat) → Option (Nat × Nat)
  | [w0, w1, w2] => if w0 = [] ∧ w1.take 1 = [120] ∧ w2.take 1 = [43] then (match numIn (w1.drop 1), numIn (w2.drop 1) with
    | some m, some s => some (m, s)
    | _, _ => none) else none
  | _ => none
def ovTail (l : List Nat) : Option (Nat × Nat) := ovWords (TL.spl [32] 0 [] l)
theorem itm_len (r : List Nat) : (itm r).length ≤ r.length := (List.takeWhile_sublist _).length_le
theorem itm_take (r : List Nat) : r.take (itm r).length = itm r := (List.prefix_iff_eq_take.mp (List.takeWhile_prefix _)).symm
/-- at r a list of these shorts -/
def RowAt (K : PySem.W.Frag) (H : Hp) (ts : List Tr) (r : Addr) : Prop := ∃ as, H r = some (.lst (as.map V.ref)) ∧ ShsAt K H ts as
/-- open rows, the last one first -/
def RowsAt (K : PySem.W.Frag) (H : Hp) : List (List Tr) → List Addr → Prop
  | [], rs => rs = []
  | ts :: st, rs => ∃ r q, rs = r :: q ∧ RowAt K H ts r ∧ RowsAt K H st q
theorem RowAt.mono {K : PySem.W.Frag} {H H' : Hp} {ts : List Tr} {r : Addr} (h : RowAt K H ts r) (e : Ex H H') : RowAt K H' ts r := let ⟨as, h1, h2⟩ := h; ⟨as, e _ _ h1, h2.mono e⟩
theorem RowsAt.mono {K : PySem.W.Frag} {H H' : Hp} (e : Ex H H') : ∀ {st : List (List Tr)} {rs : List Addr}, RowsAt K H st rs → RowsAt K H' st rs
  | [], rs, h => h
  | ts :: st, rs, h => by
    obtain ⟨r, q, h1, h2, h3⟩ := h
    exact ⟨r, q, h1, h2.mono e, RowsAt.mono e h3⟩
theorem RowsAt.oth {K : PySem.W.Frag} {H H' : Hp} {d : Addr} (o : Oth d H H') (hd : ∀ ob, H d = some ob → (∃ xs, ob = .lst xs)) : ∀ {st : List (List Tr)} {rs : List Addr}, d ∉ rs → RowsAt K H st rs → RowsAt K H' st rs
  | [], rs, _, h => h
  | ts :: st, rs, nd, h => by
    obtain ⟨r, q, rfl, ⟨as, h1, h2⟩, h3⟩ := h
    refine ⟨r, q, rfl, ⟨as, o _ _ (fun z => nd (by rw [z]; exact List.mem_cons_self)) h1, h2.oth o hd⟩, RowsAt.oth o hd (fun z => nd (List.mem_cons_of_mem _ z)) h3⟩
theorem RowsAt.len {K : PySem.W.Frag} {H : Hp} : ∀ {st : List (List Tr)} {rs : List Addr}, RowsAt K H st rs → rs.length = st.length
  | [], rs, h => by
    rw [show rs = [] from h]
    rfl
  | ts :: st, rs, h => by
    obtain ⟨r, q, rfl, _, h3⟩ := h
    rw [List.length_cons, List.length_cons, RowsAt.len h3]
theorem RowsAt.some {K : PySem.W.Frag} {H : Hp} {r : Addr} : ∀ {st : List (List Tr)} {rs : List Addr}, RowsAt K H st rs → r ∈ rs → ∃ xs, H r = some (.lst xs)
  | [], rs, h, hr => by
    rw [show rs = [] from h] at hr
    cases hr
  | ts :: st, rs, h, hr => by
    obtain ⟨r', q, rfl, ⟨as, h1, _⟩, h3⟩ := h
    rcases List.mem_cons.mp hr with rfl | hr
    · exact ⟨_, h1⟩
    · exact RowsAt.some h3 hr
/-- all but these lists is as it was -/
def Rch (R : Addr) (rs : List Addr) (H H' : Hp) : Prop := ∀ b o, b ≠ R → b ∉ rs → H b = some o → H' b = some o
def goodRow (ts : List Tr) : Prop := okL_ ts ∧ nestL ts ≤ 8 ∧ ts.length ≤ 10000
/-- one step of the reading -/
def stp (c : Nat) (r : List Nat) (st : List (List Tr)) : Option (Nat × List (List Tr)) :=
  if c = 44 ∨ c = 32 then some (1, st)
  else if c = 40 then (if 8 < st.length then none else some (1, [] :: st))
  else if c = 41 then (match st with
    | top :: nxt :: rest => (match ovTail (itm r) with
        | some (m, s) => if ovB top (.int (m : Nat)) (.int (s : Nat)) = true then some (1 + (itm r).length, (nxt ++ [.ov top m s]) :: rest) else none
        | none => none)
    | _ => none)
  else match st with
    | top :: rest => (match Mo.momOf (c :: itm r) with
        | some n => some (1 + (itm r).length, (top ++ [.at n]) :: rest)
        | none => none)
    | [] => none
theorem put_row {K : PySem.W.Frag} {H Hk : Hp} {R r0 a : Addr} {rq as : List Addr} {top : List Tr} {stq : List (List Tr)} {t : Tr} (X : Ex H Hk) (hR : H R = some (.lst ((r0 :: rq).reverse.map V.ref))) (hr0 : H r0 = some (.lst (as.map V.ref))) (hS : ShsAt K H top as) (hrq : RowsAt K H stq rq) (nd : (R :: r0 :: rq).Nodup) (hA : ShAt K Hk t a) :
    Rch R (r0 :: rq) H (upd Hk r0 (.lst (as.map V.ref ++ [.ref a]))) ∧ upd Hk r0 (.lst (as.map V.ref ++ [.ref a])) R = some (.lst ((r0 :: rq).reverse.map V.ref)) ∧ RowsAt K (upd Hk r0 (.lst (as.map V.ref ++ [.ref a]))) ((top ++ [t]) :: stq) (r0 :: rq) := by
  have O1 : Oth r0 Hk (upd Hk r0 (.lst (as.map V.ref ++ [.ref a]))) := (Oth.refl _ _).upd
  have nR : R ≠ r0 := fun z => (List.nodup_cons.mp nd).1 (by rw [z]; exact List.mem_cons_self)
  have n02 : r0 ∉ rq := (List.nodup_cons.mp (List.nodup_cons.mp nd).2).1
  have hl : ∀ ob, Hk r0 = some ob → ∃ xs, ob = .lst xs := fun ob e => by
    rw [X _ _ hr0] at e
    cases e
    exact ⟨_, rfl⟩
  refine ⟨fun b o hb hb2 e => O1 _ _ (fun z => hb2 (by rw [z]; exact List.mem_cons_self)) (X _ _ e), O1 _ _ nR (X _ _ hR), ⟨r0, rq, rfl, ⟨as ++ [a], ?_, ((hS.mono X).oth O1 hl).snoc (hA.oth O1 hl)⟩, (hrq.mono X).oth O1 hl n02⟩⟩
  rw [upd_same, List.map_append]
  rfl
end
section
def sp_number_in (K : PySem.W.Frag) : Sp := fun vs H Q E => ∃ l : List Nat, vs = [.str (SX.S l)] ∧ l.length ≤ 600 ∧ (∀ n : Nat, numIn l = some n → ∀ H', Ex H H' → Q (.int n) H') ∧ (numIn l = none → ∀ H', Ex H H' → E (.ref (He.ga K "NoPiece")) none H')
theorem fb_number_in {P : Program} {w : World} {K : PySem.W.Frag} {mg : Str → Option Value} {base : Heap} (T : Env K mg) : ∃ fd, FunD K "number_in" "number_in" (defArgs s_number_in) (defBody s_number_in) (defScope s_number_in) [] [] (He.ga K "number_in") fd ∧ Fb P w K mg base 1 (He.ga K "number_in") fd ["word"] (sp_number_in K) := by
  obtain ⟨fd, F⟩ := T.f_number_in
  refine ⟨fd, F, fb_of F sc_number_in (fun vs H Q E h => ?_) (fun cdv A outer s H vs Q E hr h => ?_)⟩
  · obtain ⟨l, rfl, _⟩ := h
    rfl
  · obtain ⟨l, rfl, hl, q, qe⟩ := h
    refine ⟨_, (pss_cons (ps_if (PW.pt (pw_or (pt_cmpR op_eq (pv 0) pe_str (nomark _)) (pw_or1 (pt_not (pt_val (pe_callB (cr_all rfl) (by rfl) T.n_all (by decide +kernel) (pa_cons (pe_lc (own := [("sign", 1)]) (by rfl) sc_number_in.nd (pi_str (pv 0)) (blkOk_by (own := [("sign", 1)]) (N := ["word", "sign"]) (sc := defScope s_number_in) (by decide +kernel)) (fun _ _ _ _ _ => (pg_name (i := 1) sc_number_in.nd rfl (Or.inl rfl))) (fun _ _ _ _ _ => pts_nil) (fun _ _ _ _ _ => (pe_cmpR op_in_sign (pv 1) (pe_k T.v_FIGURES_spreads) (by rfl)))) pa_nil)))))))
      (pss_one (ps_raise rfl (takes_of rfl rfl rfl rfl) (pmk_own PySem.F.excBase_ValueError T.x_NoPiece.x T.g_NoPiece T.x_NoPiece.kp (raises_own T.x_NoPiece.sub T.x_NoPiece.ty) rfl)))
      pss_nil)
      (pss_one (ps_ret (pe_callTy call_int_str (by rfl) T.n_int (by decide +kernel) (pa_cons (pv 0) pa_nil))))), ?_⟩
    refine ⟨_, rfl, rfl, _, rfl, ?_⟩
    by_cases h0 : l = []
    · subst h0
      exact ifP rfl (iteT (qe rfl H (.refl H)))
    refine ifN (fun z => h0 (by injection z with z; exact SX.S_inj z)) ?_
    refine ⟨_, rfl, _, rfl, fun D nD => lc_fm L2.walk_str (fun i => some (.bl (Mo.isFig (l.getD i 0)))) (fun H' => Ex H H') (fun H' z e => ex_mut e nD) (.refl H) (by show l.toArray.size ≤ 100000; simp; omega) (fun _ _ => trivial) (fun i x H1 H2 acc N hi e hD la y k => ?_) fun H1 e1 d1 => ?_⟩
    · obtain ⟨rfl, c, hc, rfl⟩ := y
      refine ⟨rfl, _, rfl, c, _, rfl, rfl, acc, hD, la, ?_⟩
      rw [fig_in]
      have e2 : l.getD i 0 = c := by
        have hc2 : l[i]? = some c := by simpa using hc
        rw [List.getD_eq_getElem?_getD, hc2]
        rfl
      have k2 := k H2 e hD
      rw [e2] at k2
      exact k2
    have hd : H1 D = some (.lst ((l.map Mo.isFig).map V.bl)) := by
      rw [d1]
      have e3 := range_map_get l 0 (fun c => V.bl (Mo.isFig c))
      have e4 : l.toArray.size = l.length := by simp
      show some (HO.lst (List.filterMap _ (List.range l.toArray.size))) = _
      rw [e4, e3, List.map_map]
      rfl
    refine ⟨D, l.map Mo.isFig, rfl, sq_lst hd, ?_⟩
    have e5 : (l.map Mo.isFig).all id = Mo.figs l := by
      unfold Mo.figs
      rw [List.all_map]
      cases l with
      | nil => exact absurd rfl h0
      | cons a r => rfl
    rw [e5]
    refine ⟨_, rfl, ?_⟩
    cases hf : Mo.figs l with
    | false => exact iteT (qe (by unfold numIn; rw [hf]; rfl) H1 e1)
    | true =>
      refine iteF ?_
      obtain ⟨_, hdg⟩ := Mo.figs_iff.mp hf
      refine ⟨_, rfl, _, _, rfl, SX.int_S (Mo.all_fig hdg) h0 (by omega), by rw [SX.S_len]; omega, ?_⟩
      exact q (Mo.val l) (by unfold numIn; rw [hf]; rfl) H1 e1
theorem ok_number_in {P : Program} {w : World} {K : PySem.W.Frag} {mg : Str → Option Value} {base : Heap} (T : Env K mg) : Fc P w K mg base 1 (He.ga K "number_in") [] (sp_number_in K ) := by
  obtain ⟨fd, D, F⟩ := fb_number_in T
  exact F.all (D.bindsN fun _ _ _ _ _ _ us hl => match us, hl with | [_], _ => rfl)
end
section
def sp_at_in (K : PySem.W.Frag) : Sp := fun vs H Q E => ∃ l : List Nat, vs = [.str (SX.S l)] ∧ l.length ≤ 600 ∧ (∀ n : Nat, Mo.momOf l = some n → ∀ a H', Ex H H' → H a = none → ShAt K H' (.at n) a → Q (.ref a) H') ∧ (Mo.momOf l = none → ∀ H', Ex H H' → E (.ref (He.ga K "NoPiece")) none H')
theorem fb_at_in {P : Program} {w : World} {K : PySem.W.Frag} {mg : Str → Option Value} {base : Heap} (T : Env K mg) : ∃ fd, FunD K "at_in" "at_in" (defArgs s_at_in) (defBody s_at_in) (defScope s_at_in) [] [] (He.ga K "at_in") fd ∧ Fb P w K mg base 7 (He.ga K "at_in") fd ["text"] (sp_at_in K) := by
  obtain ⟨fd, F⟩ := T.f_at_in
  refine ⟨fd, F, fb_of F sc_at_in (fun vs H Q E h => ?_) (fun cdv A outer s H vs Q E hr h => ?_)⟩
  · obtain ⟨l, rfl, _⟩ := h
    rfl
  · obtain ⟨l, rfl, hl, q, qe⟩ := h
    refine ⟨_, (pss_cons (ps_try_from (i := 2) rfl rfl sc_at_in.nd rfl rfl rfl ⟨by rfl, by decide, .inl T.g_NoTime⟩ (fun hd => L2H.passesAt_of rfl hd) (takes_of rfl rfl rfl rfl) (fun W pn xe tk po => (pss_one (ps_set (i := 1) sc_at_in.nd rfl (Or.inl rfl) (c_callN (okN_read_moment T) (hr.mono (by decide)) T.g_read_moment T.k_read_moment tk (pa_cons (pv 0) pa_nil))))) (fun a pn xe => pmk5_own PySem.F.excBase_ValueError T.x_NoPiece.x T.g_NoPiece T.x_NoPiece.kp (raises_own T.x_NoPiece.sub T.x_NoPiece.ty) rfl))
      (pss_one (ps_ret (c_make T.mk_At (ok_At_init T) (hr.mono (by decide)) T.g_At (takes_of rfl rfl rfl rfl) (pa_cons (pv 1) pa_nil))))), ?_⟩
    refine ⟨_, rfl, _, rfl, ?_⟩
    refine .inl ⟨l, rfl, hl, fun n hn H1 X1 => ?_, fun hn H1 X1 => ?_⟩
    · refine ⟨_, rfl, fun x dx nx nd ne => at_new nx nd ne fun H2 X2 hA => ⟨rfl, ?_⟩⟩
      exact q n hn x H2 (X1.trans X2) (ex_fresh X1 nx) (by unfold ShAt; exact hA)
    · exact ⟨T.exm_NoTime_NoTime, raises_own T.x_NoTime.sub T.x_NoTime.ty, fun a na => qe hn H1 X1⟩
theorem ok_at_in {P : Program} {w : World} {K : PySem.W.Frag} {mg : Str → Option Value} {base : Heap} (T : Env K mg) : Fc P w K mg base 7 (He.ga K "at_in") [] (sp_at_in K ) := by
  obtain ⟨fd, D, F⟩ := fb_at_in T
  exact F.all (D.bindsN fun _ _ _ _ _ _ us hl => match us, hl with | [_], _ => rfl)
end
section
theorem sep_in (c : Nat) : (!decide (c ∈ (Str.ofString ",()").cps.toList)) = !isSep c := by
  have e : (Str.ofString ",()").cps.toList = [44, 40, 41] := rfl
  rw [e]
  unfold isSep
  simp only [List.mem_cons, List.not_mem_nil, or_false, Bool.decide_or]
  rfl
def sp_item_end (K : PySem.W.Frag) : Sp := fun vs H Q _ => ∃ (l : List Nat) (i : Nat), vs = [.str (SX.S l), .int i] ∧ i ≤ l.length ∧ l.length ≤ 20000 ∧ Q (.int ((i + (itm (l.drop i)).length : Nat) : Int)) H
theorem fb_item_end {P : Program} {w : World} {K : PySem.W.Frag} {mg : Str → Option Value} {base : Heap} (T : Env K mg) : ∃ fd, FunD K "item_end" "item_end" (defArgs s_item_end) (defBody s_item_end) (defScope s_item_end) [] [] (He.ga K "item_end") fd ∧ Fb P w K mg base 1 (He.ga K "item_end") fd ["text", "at"] (sp_item_end K) := by
  obtain ⟨fd, F⟩ := T.f_item_end
  refine ⟨fd, F, fb_of F sc_item_end (fun vs H Q E h => ?_) (fun cdv A outer s H vs Q E hr h => ?_)⟩
  · obtain ⟨l, i, rfl, _⟩ := h
    rfl
  · obtain ⟨l, i, rfl, hi, hl, q⟩ := h
    refine ⟨_, (pss_cons (ps_set (i := 2) sc_item_end.nd rfl (Or.inl rfl) (pv 1))
      (pss_cons (ps_while (passes_of rfl) (PW.pt (pw_and (pt_cmpR op_lt (pv 2) (pe_callB call_len (by rfl) T.n_len (by decide +kernel) (pa_cons (pv 0) pa_nil)) (nomark _)) (pw_and1 (pt_cmpR op_notIn_sign (pe_ix ix_str (pv 0) (pv 2) (fun _ _ => rfl)) pe_str (by rfl)))))
      (pss_one (ps_aug (i := 2) sc_item_end.nd rfl (Or.inl rfl) pe_int ip_add)))
      (pss_one (ps_ret (pv 2))))), ?_⟩
    refine ⟨_, rfl, fun m σ H' => H' = H ∧ ∃ j, σ = [some (.str (SX.S l)), some (.int i), some (.int ((i + j : Nat) : Int))] ∧ (itm (l.drop i)).length = j + (itm (l.drop (i + j))).length ∧ i + j ≤ l.length ∧ m = l.length - (i + j), ⟨_, rfl, 0, rfl, by rw [Nat.zero_add, Nat.add_zero], hi, rfl⟩, ?_⟩
    rintro m σ H1 ⟨rfl, j, rfl, hj, hle, rfl⟩
    have ls : (SX.S l).length ≤ sizeLine := sz_big (by rw [SX.S_len]; omega)
    refine ⟨_, rfl, _, rfl, _, _, rfl, ⟨ls, rfl⟩, _, _, rfl, rfl, _, rfl, ?_⟩
    rw [SX.S_len]
    by_cases c : i + j < l.length
    · refine ifP (by omega) ?_
      have hg : l[i + j]? = some l[i + j] := List.getElem?_eq_getElem c
      refine ⟨_, rfl, _, rfl, _, _, _, rfl, rfl, ls, atI_nat hg, _, _, rfl, rfl, _, rfl, ?_⟩
      rw [sep_in]
      have ed : l.drop (i + j) = l[i + j] :: l.drop (i + j + 1) := List.drop_eq_getElem_cons c
      cases hsep : isSep l[i + j] with
      | true =>
        refine iteF ?_
        have e0 : (itm (l.drop (i + j))).length = 0 := by
          rw [ed]
          unfold itm
          rw [List.takeWhile_cons, hsep]
          rfl
        rw [hj, e0] at q
        exact ⟨_, rfl, q⟩
      | false =>
        refine iteT ?_
        have e1 : (itm (l.drop (i + j))).length = 1 + (itm (l.drop (i + (j + 1)))).length := by
          rw [ed]
          unfold itm
          rw [List.takeWhile_cons, hsep]
          show _ + 1 = _
          rw [show i + j + 1 = i + (j + 1) by omega]
          omega
        refine ⟨fun σ' H' => H' = H1 ∧ σ' = [some (.str (SX.S l)), some (.int i), some (.int ((i + (j + 1) : Nat) : Int))], ?_, ?_⟩
        · rintro σ' H' ⟨rfl, rfl⟩
          exact ⟨l.length - (i + (j + 1)), by omega, rfl, j + 1, rfl, by omega, by omega, rfl⟩
        · refine ⟨_, rfl, _, _, rfl, rfl, rfl, ?_⟩
          show [_, _, some (V.int (((i + j : Nat) : Int) + 1))] = _
          rw [show ((i + j : Nat) : Int) + 1 = ((i + (j + 1) : Nat) : Int) by omega]
    · refine ifN (by omega) ?_
      have e0 : l.drop (i + j) = [] := List.drop_eq_nil_of_le (by omega)
      rw [hj, e0] at q
      exact ⟨_, rfl, q⟩
theorem ok_item_end {P : Program} {w : World} {K : PySem.W.Frag} {mg : Str → Option Value} {base : Heap} (T : Env K mg) : Fc P w K mg base 1 (He.ga K "item_end") [] (sp_item_end K ) := by
  obtain ⟨fd, D, F⟩ := fb_item_end T
  exact F.all (D.bindsN fun _ _ _ _ _ _ us hl => match us, hl with | [_, _], _ => rfl)
end
section
theorem cut_one (l : List Nat) : cutS (SX.S l) none (some 1) = SX.S (l.take 1) := Mo.cut_to l 1
theorem cut_rest (l : List Nat) : cutS (SX.S l) (some 1) none = SX.S (l.drop 1) := Mo.cut_from l 1
theorem ovW3 (w0 w1 w2 : List Nat) : ovWords [w0, w1, w2] = if w0 = [] ∧ w1.take 1 = [120] ∧ w2.take 1 = [43] then (match numIn (w1.drop 1), numIn (w2.drop 1) with
    | some m, some s => some (m, s)
    | _, _ => none) else none := rfl
def sp_over_in (K : PySem.W.Frag) : Sp := fun vs H Q E => ∃ (p : Addr) (as : List Addr) (ts : List Tr) (l : List Nat), vs = [.ref p, .str (SX.S l)] ∧ H p = some (.lst (as.map V.ref)) ∧ ShsAt K H ts as ∧ nestL ts ≤ 8 ∧ okL_ ts ∧ ts.length ≤ 20000 ∧ l.length ≤ 600 ∧
  (∀ m s : Nat, ovTail l = some (m, s) → ovB ts (.int (m : Nat)) (.int (s : Nat)) = true → ∀ a H', Ex H H' → H a = none → ShAt K H' (.ov ts m s) a → Q (.ref a) H') ∧ ((∀ m s : Nat, ovTail l = some (m, s) → ovB ts (.int (m : Nat)) (.int (s : Nat)) = false) → ∀ H', Ex H H' → E (.ref (He.ga K "NoPiece")) none H')
theorem fb_over_in {P : Program} {w : World} {K : PySem.W.Frag} {mg : Str → Option Value} {base : Heap} (T : Env K mg) : ∃ fd, FunD K "over_in" "over_in" (defArgs s_over_in) (defBody s_over_in) (defScope s_over_in) [] [] (He.ga K "over_in") fd ∧ Fb P w K mg base 70 (He.ga K "over_in") fd ["parts", "tail"] (sp_over_in K) := by
  obtain ⟨fd, F⟩ := T.f_over_in
  refine ⟨fd, F, fb_of F sc_over_in (fun vs H Q E h => ?_) (fun cdv A outer s H vs Q E hr h => ?_)⟩
  · obtain ⟨p, as, ts, l, rfl, _⟩ := h
    rfl
  · obtain ⟨p, as, ts, l, rfl, hp, hA, hn, hok, hlt, hl, q, qe⟩ := h
    refine ⟨_, (pss_cons (ps_set (i := 2) sc_over_in.nd rfl (Or.inl rfl) (pe_split (pv 1) pe_str))
      (pss_cons (ps_if (PW.pt (pw_or (pt_cmpR op_ne (pe_callB call_len (by rfl) T.n_len (by decide +kernel) (pa_cons (pv 2) pa_nil)) pe_int (nomark _)) (pw_or (pt_cmpR op_ne (pe_ix ix_list (pv 2) pe_int (fun _ _ => rfl)) pe_str (nomark _)) (pw_or (pt_cmpR op_ne (pe_slice sl_str (pe_ix ix_list (pv 2) pe_int (fun _ _ => rfl)) po_none (po_some pe_int)) pe_str (nomark _)) (pw_or1 (pt_cmpR op_ne (pe_slice sl_str (pe_ix ix_list (pv 2) pe_int (fun _ _ => rfl)) po_none (po_some pe_int)) pe_str (nomark _)))))))
      (pss_one (ps_raise rfl (takes_of rfl rfl rfl rfl) (pmk_own PySem.F.excBase_ValueError T.x_NoPiece.x T.g_NoPiece T.x_NoPiece.kp (raises_own T.x_NoPiece.sub T.x_NoPiece.ty) rfl)))
      pss_nil)
      (pss_one (ps_ret (c_make T.mk_Over (ok_Over_init T) (hr.mono (by decide)) T.g_Over (takes_of rfl rfl rfl rfl) (pa_cons (pv 0) (pa_cons (c_call (ok_number_in T) (hr.mono (by decide)) T.g_number_in T.k_number_in (takes_of rfl rfl rfl rfl) (pa_cons (pe_slice sl_str (pe_ix ix_list (pv 2) pe_int (fun _ _ => rfl)) (po_some pe_int) po_none) pa_nil)) (pa_cons (c_call (ok_number_in T) (hr.mono (by decide)) T.g_number_in T.k_number_in (takes_of rfl rfl rfl rfl) (pa_cons (pe_slice sl_str (pe_ix ix_list (pv 2) pe_int (fun _ _ => rfl)) (po_some pe_int) po_none) pa_nil)) pa_nil)))))))), ?_⟩
    have ls : (SX.S l).length ≤ sizeLine := sz_big (by rw [SX.S_len]; omega)
    refine ⟨_, rfl, ⟨_, rfl⟩, _, _, rfl, rfl, rfl, (sz_big (by rw [SX.S_len]; omega)), ?_⟩
    rw [show Str.ofString " " = SX.S [32] from rfl, SX.split_S (by decide) (by decide)]
    obtain ⟨wl, wn⟩ := Mo.spl_le 32 l.length l (Nat.le_refl _)
    unfold ovTail at q qe
    generalize TL.spl [32] 0 [] l = ws at wl wn q qe ⊢
    refine fun w nw => ?_
    have X1 := ex_new (o := .lst ((ws.map SX.S).map V.str)) nw
    have hw : upd H w (.lst ((ws.map SX.S).map V.str)) w = some (.lst ((ws.map SX.S).map V.str)) := upd_same
    have hp1 := X1 _ _ hp
    have hA1 := hA.mono X1
    generalize upd H w (.lst ((ws.map SX.S).map V.str)) = H1 at X1 hw hp1 hA1 ⊢
    refine ⟨_, rfl, _, _, rfl, .inl ⟨_, sq_lst hw, rfl⟩, rfl, _, rfl, ?_⟩
    by_cases c3 : ws.length = 3
    · refine ifnP (vint_eq (by simp [c3])) ?_
      obtain ⟨w0, w1, w2, rfl⟩ : ∃ a b c, ws = [a, b, c] := by
        match ws, c3 with
        | [a, b, c], _ => exact ⟨a, b, c, rfl⟩
      have l1 := wl w1 (by simp)
      have l2 := wl w2 (by simp)
      have g0 : atI ((List.map SX.S [w0, w1, w2]).map V.str) 0 = some (.str (SX.S w0)) := atI_nat (j := 0) rfl
      have g1 : atI ((List.map SX.S [w0, w1, w2]).map V.str) 1 = some (.str (SX.S w1)) := atI_nat (j := 1) rfl
      have g2 : atI ((List.map SX.S [w0, w1, w2]).map V.str) 2 = some (.str (SX.S w2)) := atI_nat (j := 2) rfl
      have s1 : (SX.S w1).length ≤ sizeLine := sz_big (by rw [SX.S_len]; omega)
      have s2 : (SX.S w2).length ≤ sizeLine := sz_big (by rw [SX.S_len]; omega)
      refine ⟨_, rfl, _, _, _, _, rfl, rfl, (sq_lst hw), rfl, rfl, _, rfl, ?_⟩
      try dsimp only [tNil]
      by_cases d0 : w0 = []
      · refine ifnP (by rw [d0]; rfl) ?_
        refine ⟨_, rfl, _, _, _, _, rfl, rfl, (sq_lst hw), rfl, _, rfl, _, rfl, s1, rfl, _, rfl, ?_⟩
        try dsimp only [tNil]
        rw [cut_one]
        by_cases d1 : w1.take 1 = [120]
        · refine ifnP (by rw [d1]; rfl) ?_
          refine ⟨_, rfl, _, _, _, _, rfl, rfl, (sq_lst hw), rfl, _, rfl, _, rfl, s2, rfl, _, rfl, ?_⟩
          try dsimp only [tNil]
          rw [cut_one]
          by_cases d2 : w2.take 1 = [43]
          · refine ifnP (by rw [d2]; rfl) ?_
            rw [ovW3, if_pos ⟨d0, d1, d2⟩] at q qe
            refine ⟨_, rfl, _, rfl, _, _, _, _, rfl, rfl, (sq_lst hw), rfl, _, rfl, _, rfl, s1, ?_⟩
            try dsimp only [tNil]
            rw [cut_rest]
            refine ⟨_, rfl, ?_⟩
            try dsimp only [tNil]
            refine ⟨by rw [List.length_drop]; omega, fun m em H2 X2 => ?_, fun em H2 X2 => qe (fun m s e => by rw [em] at e; cases e) H2 (X1.trans X2)⟩
            have X02 := X1.trans X2
            refine ⟨_, rfl, _, _, _, _, rfl, rfl, (sq_lst (X2 _ _ hw)), rfl, _, rfl, _, rfl, s2, ?_⟩
            try dsimp only [tNil]
            rw [cut_rest]
            refine ⟨_, rfl, by rw [List.length_drop]; omega, fun n en H3 X3 => ?_, fun en H3 X3 => qe (fun m s e => by rw [em, en] at e; cases e) H3 (X02.trans X3)⟩
            rw [em, en] at q qe
            have X03 := X02.trans X3
            refine fun x dx nx nd ne => ⟨rfl, x, dx, p, as, ts, .int (m : Nat), .int (n : Nat), H3, rfl, upd_same, nx, ex_made nx nd ne, .inl (X03 _ _ hp), hA.mono X03, hn, hok, by omega, by omega, cl_int _, cl_int _, fun m' s' hb em' es' H4 O4 hS => ⟨rfl, ?_⟩, fun hb H4 O4 => ?_⟩
            · have X4 : Ex H3 H4 := fun b o e => O4 b o (ne_of_none e nx) (ex_made nx nd ne _ _ e)
              have e1 : m = m' := by injection em' with em'; omega
              have e2 : n = s' := by injection es' with es'; omega
              subst e1 e2
              exact q m n rfl hb x H4 (X03.trans X4) (ex_fresh X03 nx) hS
            · have X4 : Ex H3 H4 := fun b o e => O4 b o (ne_of_none e nx) (ex_made nx nd ne _ _ e)
              refine qe (fun m' s' e => ?_) H4 (X03.trans X4)
              cases e
              exact hb
          · refine ifnN (vstr_ne (b := [43]) d2) ?_
            refine qe (fun m s e => ?_) H1 X1
            rw [ovW3, if_neg (fun z => d2 z.2.2)] at e
            cases e
        · refine ifnN (vstr_ne (b := [120]) d1) ?_
          refine iteT (qe (fun m s e => ?_) H1 X1)
          rw [ovW3, if_neg (fun z => d1 z.2.1)] at e
          cases e
      · refine ifnN (vstr_ne (b := []) d0) ?_
        refine iteT (qe (fun m s e => ?_) H1 X1)
        rw [ovW3, if_neg (fun z => d0 z.1)] at e
        cases e
    · refine ifnN (vint_ne (by simp; omega)) ?_
      refine iteT (qe (fun m s e => ?_) H1 X1)
      unfold ovWords at e
      split at e
      · exact absurd rfl c3
      · cases e
theorem ok_over_in {P : Program} {w : World} {K : PySem.W.Frag} {mg : Str → Option Value} {base : Heap} (T : Env K mg) : Fc P w K mg base 70 (He.ga K "over_in") [] (sp_over_in K ) := by
  obtain ⟨fd, D, F⟩ := fb_over_in T
  exact F.all (D.bindsN fun _ _ _ _ _ _ us hl => match us, hl with | [_, _], _ => rfl)
end
section
theorem sep2_in (c : Nat) : decide (c ∈ (Str.ofString ", ").cps.toList) = decide (c = 44 ∨ c = 32) := by
  have e : (Str.ofString ", ").cps.toList = [44, 32] := rfl
  rw [e]
  apply decide_eq_decide.mpr
  simp
def sp_read_on (K : PySem.W.Frag) : Sp := fun vs H Q E => ∃ (l : List Nat) (i c : Nat) (R : Addr) (rs : List Addr) (st : List (List Tr)), vs = [.str (SX.S l), .int i, .ref R] ∧ l[i]? = some c ∧ l.length ≤ 10000 ∧ (itm (l.drop (i + 1))).length ≤ 500 ∧
  H R = some (.lst (rs.reverse.map V.ref)) ∧ RowsAt K H st rs ∧ (R :: rs).Nodup ∧ st ≠ [] ∧ st.length ≤ 20 ∧ (∀ row ∈ st, goodRow row) ∧
  (∀ k st', stp c (l.drop (i + 1)) st = some (k, st') → ∀ rs' H', Rch R rs H H' → H' R = some (.lst (rs'.reverse.map V.ref)) → RowsAt K H' st' rs' → (R :: rs').Nodup → (∀ r ∈ rs', r ∈ rs ∨ H r = none) → Q (.int ((i + k : Nat) : Int)) H') ∧
  (stp c (l.drop (i + 1)) st = none → ∀ H', Rch R rs H H' → E (.ref (He.ga K "NoPiece")) none H')
theorem fb_read_on {P : Program} {w : World} {K : PySem.W.Frag} {mg : Str → Option Value} {base : Heap} (T : Env K mg) : ∃ fd, FunD K "read_on" "read_on" (defArgs s_read_on) (defBody s_read_on) (defScope s_read_on) [] [] (He.ga K "read_on") fd ∧ Fb P w K mg base 75 (He.ga K "read_on") fd ["text", "at", "rows"] (sp_read_on K) := by
  obtain ⟨fd, F⟩ := T.f_read_on
  refine ⟨fd, F, fb_of F sc_read_on (fun vs H Q E h => ?_) (fun cdv A outer s H vs Q E hr h => ?_)⟩
  · obtain ⟨l, i, c, R, rs, st, rfl, _⟩ := h
    rfl
  · obtain ⟨l, i, c, R, rs, st, rfl, hc, hl, hit, hR, hrs, nd, ne, hst, hgood, q, qe⟩ := h
    refine ⟨_, (pss_cons (ps_if (pt_cmpR op_in_sign (pe_ix ix_str (pv 0) (pv 1) (fun _ _ => rfl)) pe_str (by rfl))
      (pss_one (ps_ret (pe_op op_add (pv 1) pe_int)))
      pss_nil)
      (pss_cons (ps_if (pt_cmpR op_eq (pe_ix ix_str (pv 0) (pv 1) (fun _ _ => rfl)) pe_str (nomark _))
      (pss_cons (ps_if (pt_cmpR op_gt (pe_callB call_len (by rfl) T.n_len (by decide +kernel) (pa_cons (pv 2) pa_nil)) (pe_k T.v_MOST_NESTED) (nomark _))
      (pss_one (ps_raise rfl (takes_of rfl rfl rfl rfl) (pmk_own PySem.F.excBase_ValueError T.x_NoPiece.x T.g_NoPiece T.x_NoPiece.kp (raises_own T.x_NoPiece.sub T.x_NoPiece.ty) rfl)))
      pss_nil)
      (pss_cons (ps_expr (pe_bm PySem.F.plainAttrs_list PySem.F.slot_list_append PySem.F.type_list_append mt_append (pv 2) (pa_cons (pe_lst pa_nil) pa_nil)))
      (pss_one (ps_ret (pe_op op_add (pv 1) pe_int)))))
      pss_nil)
      (pss_cons (ps_set (i := 3) sc_read_on.nd rfl (Or.inl rfl) (c_call (ok_item_end T) (hr.mono (by decide)) T.g_item_end T.k_item_end (takes_of rfl rfl rfl rfl) (pa_cons (pv 0) (pa_cons (pe_op op_add (pv 1) pe_int) pa_nil))))
      (Evl.pss_cut (ps_if (pt_cmpR op_eq (pe_ix ix_str (pv 0) (pv 1) (fun _ _ => rfl)) pe_str (nomark _))
      (pss_cons (ps_if (pt_cmpR op_eq (pe_callB call_len (by rfl) T.n_len (by decide +kernel) (pa_cons (pv 2) pa_nil)) pe_int (nomark _))
      (pss_one (ps_raise rfl (takes_of rfl rfl rfl rfl) (pmk_own PySem.F.excBase_ValueError T.x_NoPiece.x T.g_NoPiece T.x_NoPiece.kp (raises_own T.x_NoPiece.sub T.x_NoPiece.ty) rfl)))
      pss_nil)
      (pss_cons (ps_set (i := 4) sc_read_on.nd rfl (Or.inl rfl) (pe_bm0 PySem.F.plainAttrs_list PySem.F.slot_list_pop PySem.F.type_list_pop mt_pop (pv 2)))
      (pss_one (ps_expr (pe_bm PySem.F.plainAttrs_list PySem.F.slot_list_append PySem.F.type_list_append mt_append (pe_ix ix_list (pv 2) (pe_un un_neg pe_int) (fun _ _ => rfl)) (pa_cons (c_call (ok_over_in T) (hr.mono (by decide)) T.g_over_in T.k_over_in (takes_of rfl rfl rfl rfl) (pa_cons (pv 4) (pa_cons (pe_slice sl_str (pv 0) (po_some (pe_op op_add (pv 1) pe_int)) (po_some (pv 3))) pa_nil))) pa_nil))))))
      (pss_one (ps_expr (pe_bm PySem.F.plainAttrs_list PySem.F.slot_list_append PySem.F.type_list_append mt_append (pe_ix ix_list (pv 2) (pe_un un_neg pe_int) (fun _ _ => rfl)) (pa_cons (c_call (ok_at_in T) (hr.mono (by decide)) T.g_at_in T.k_at_in (takes_of rfl rfl rfl rfl) (pa_cons (pe_slice sl_str (pv 0) (po_some (pv 1)) (po_some (pv 3))) pa_nil)) pa_nil)))))
      (pss_one (ps_ret (pv 3))))))), ?_⟩
    have ls : (SX.S l).length ≤ sizeLine := sz_big (by rw [SX.S_len]; omega)
    have hi : i < l.length := (List.getElem?_eq_some_iff.mp hc).1
    have hat : atI l ((i : Nat) : Int) = some c := atI_nat hc
    have hlen := hrs.len
    refine ⟨_, rfl, _, rfl, _, _, _, rfl, rfl, ls, hat, _, _, rfl, rfl, _, rfl, ?_⟩
    rw [sep2_in]
    unfold stp at q qe
    by_cases c1 : c = 44 ∨ c = 32
    · refine ifP c1 ?_
      rw [if_pos c1] at q
      refine ⟨_, rfl, _, _, rfl, rfl, ?_⟩
      exact q 1 st rfl rs H (fun b o _ _ e => e) hR hrs nd (fun r hr => .inl hr)
    refine ifN c1 ?_
    rw [if_neg c1] at q qe
    refine ⟨_, rfl, _, rfl, _, _, _, rfl, rfl, ls, hat, rfl, _, rfl, ?_⟩
    by_cases c2 : c = 40
    · refine ifP (by rw [c2]; rfl) ?_
      rw [if_pos c2] at q qe
      refine ⟨_, rfl, _, _, rfl, (.inl ⟨_, ⟨(sq_lst hR), rfl⟩⟩), _, _, rfl, rfl, _, rfl, ?_⟩
      try dsimp only [tNil]
      by_cases c3 : 8 < st.length
      · refine ifP (by simp; omega) ?_
        exact qe (if_pos c3) H (fun b o _ _ e => e)
      refine ifN (by simp; omega) ?_
      rw [if_neg c3] at q
      refine ⟨_, rfl, (.inl ⟨rfl, ⟨_, (sq_lst hR)⟩⟩), (by decide), ?_⟩
      intro n nn
      have X1 := ex_new (o := .lst []) nn
      have hR1 := X1 _ _ hR
      have Rn : R ≠ n := ne_of_none hR nn
      have hl2 : (List.map V.ref rs.reverse).length ≤ 16000000 := by simp; omega
      refine ⟨_, _, _, rfl, rfl, hR1, sz_lt hl2, _, rfl, _, _, rfl, rfl, ?_⟩
      have O1 : Oth R (upd H n (.lst [])) (upd (upd H n (.lst [])) R (.lst (rs.reverse.map V.ref ++ [.ref n]))) := (Oth.refl _ _).upd
      have nrs : n ∉ rs := fun z => by
        obtain ⟨xs, e⟩ := hrs.some z
        rw [nn] at e
        cases e
      refine q 1 ([] :: st) rfl (n :: rs) _ (fun b o hb hb2 e => ?_) ?_ ⟨n, rs, rfl, ⟨[], ?_, ?_⟩, ?_⟩ ?_ (fun r hr => ?_)
      · exact O1 _ _ hb (X1 _ _ e)
      · rw [upd_same, List.reverse_cons, List.map_append]
        rfl
      · exact O1 _ _ Rn.symm upd_same
      · unfold ShsAt
        rfl
      · exact (hrs.mono X1).oth O1 (fun ob e => by rw [hR1] at e; cases e; exact ⟨_, rfl⟩) (List.nodup_cons.mp nd).1
      · refine List.nodup_cons.mpr ⟨fun z => ?_, List.nodup_cons.mpr ⟨nrs, (List.nodup_cons.mp nd).2⟩⟩
        rcases List.mem_cons.mp z with z | z
        · exact Rn z
        · exact (List.nodup_cons.mp nd).1 z
      · rcases List.mem_cons.mp hr with rfl | hr
        · exact .inr nn
        · exact .inl hr
    refine ifN (vch_ne (d := 40) c2) ?_
    rw [if_neg c2] at q qe
    refine ⟨_, rfl, _, rfl, _, _, rfl, rfl, _, _, rfl, ?_⟩
    try dsimp only [tNil]
    refine ⟨by omega, by omega, ?_⟩
    have ei : i + 1 + (itm (l.drop (i + 1))).length = i + (1 + (itm (l.drop (i + 1))).length) := by omega
    rw [ei]
    have hbound : i + (1 + (itm (l.drop (i + 1))).length) ≤ l.length := by
      have := itm_len (l.drop (i + 1))
      rw [List.length_drop] at this
      omega
    obtain ⟨top, stq, rfl⟩ := List.exists_cons_of_ne_nil ne
    obtain ⟨r0, rq, rfl, ⟨as, hr0, hS⟩, hrq⟩ := id hrs
    have hg0 := hgood top List.mem_cons_self
    have atl : atI ((r0 :: rq).reverse.map V.ref) (-1) = some (.ref r0) := by
      rw [List.reverse_cons, List.map_append]
      exact atI_last _ _
    have nR : R ≠ r0 := fun z => (List.nodup_cons.mp nd).1 (by rw [z]; exact List.mem_cons_self)
    have nR2 : R ∉ rq := fun z => (List.nodup_cons.mp nd).1 (List.mem_cons_of_mem _ z)
    have n02 : r0 ∉ rq := (List.nodup_cons.mp (List.nodup_cons.mp nd).2).1
    refine ⟨fun σ' H' => ∃ st' rs' v4, stp c (l.drop (i + 1)) (top :: stq) = some (1 + (itm (l.drop (i + 1))).length, st') ∧ σ' = [some (.str (SX.S l)), some (.int i), some (.ref R), some (.int ((i + (1 + (itm (l.drop (i + 1))).length) : Nat) : Int)), v4] ∧ Rch R (r0 :: rq) H H' ∧ H' R = some (.lst (rs'.reverse.map V.ref)) ∧ RowsAt K H' st' rs' ∧ (R :: rs').Nodup ∧ ∀ r ∈ rs', r ∈ r0 :: rq ∨ H r = none, ?_, ?_⟩
    · refine ⟨_, rfl, _, rfl, _, _, _, rfl, rfl, ls, hat, rfl, _, rfl, ?_⟩
      try dsimp only [tNil]
      by_cases c4 : c = 41
      · refine ifP (by rw [c4]; rfl) ?_
        rw [if_pos c4] at q qe
        refine ⟨_, rfl, _, _, rfl, (.inl ⟨_, ⟨(sq_lst hR), rfl⟩⟩), rfl, _, rfl, ?_⟩
        dsimp only [tNil]
        cases stq with
        | nil =>
          have eq0 : rq = [] := hrq
          subst eq0
          exact ifP rfl (qe rfl H fun b o _ _ e => e)
        | cons nxt rest =>
        obtain ⟨r1, rq2, rfl, ⟨as1, hr1, hS1⟩, hrq2⟩ := id hrq
        refine ifN (vint_ne (by simp; omega)) ?_
        have el : (r0 :: r1 :: rq2).reverse.map V.ref = (r1 :: rq2).reverse.map V.ref ++ [.ref r0] := by
          rw [List.reverse_cons, List.map_append]
          rfl
        have hR' := hR
        rw [el] at hR'
        have O2 : Oth R H (upd H R (.lst ((r1 :: rq2).reverse.map V.ref))) := (Oth.refl _ _).upd
        have hlR : ∀ ob, H R = some ob → ∃ xs, ob = .lst xs := fun ob e => by
          rw [hR] at e
          cases e
          exact ⟨_, rfl⟩
        have nR1 : R ≠ r1 := fun z => nR2 (by rw [z]; exact List.mem_cons_self)
        refine ⟨_, rfl, (.inl ⟨rfl, ⟨_, (sq_lst hR')⟩⟩), R, _, .ref r0, rfl, rfl, hR', by simp, ?_⟩
        rw [List.dropLast_concat]
        have hR2 : upd H R (.lst ((r1 :: rq2).reverse.map V.ref)) R = some (.lst ((r1 :: rq2).reverse.map V.ref)) := upd_same
        have hr02 := O2 _ _ nR.symm hr0
        have hr12 := O2 _ _ nR1.symm hr1
        have hS2 := hS.oth O2 hlR
        have hS12 := hS1.oth O2 hlR
        have hrq22 := hrq2.oth O2 hlR (fun z => nR2 (List.mem_cons_of_mem _ z))
        have nd2 : (R :: r1 :: rq2).Nodup := List.nodup_cons.mpr ⟨nR2, (List.nodup_cons.mp (List.nodup_cons.mp nd).2).2⟩
        generalize upd H R (.lst ((r1 :: rq2).reverse.map V.ref)) = H2 at O2 hR2 hr02 hr12 hS2 hS12 hrq22 ⊢
        have atl2 : atI ((r1 :: rq2).reverse.map V.ref) (-1) = some (.ref r1) := by
          rw [List.reverse_cons, List.map_append]
          exact atI_last _ _
        have hg1 := hgood nxt (List.mem_cons_of_mem _ List.mem_cons_self)
        refine ⟨_, rfl, _, rfl, _, _, _, _, rfl, rfl, (sq_lst hR2), atl2, (.inl ⟨rfl, ⟨_, (sq_lst hr12)⟩⟩), _, rfl, _, rfl, _, rfl, _, _, rfl, rfl, _, rfl, _, rfl, _, rfl, _, rfl, ls, ?_⟩
        dsimp only [tNil]
        rw [show ((i : Nat) : Int) + 1 = ((i + 1 : Nat) : Int) by omega, Mo.cut_mid]
        rw [show i + (1 + (itm (l.drop (i + 1))).length) - (i + 1) = (itm (l.drop (i + 1))).length by omega, itm_take]
        have put : ∀ (H1 : Hp), Ex H2 H1 → Rch R (r0 :: r1 :: rq2) H H1 := fun H1 X1 b o hb _ e => X1 _ _ (O2 _ _ hb e)
        refine ⟨r0, as, top, _, rfl, hr02, hS2, hg0.2.1, hg0.1, by have := hg0.2.2; omega, by omega, fun m s hov hb a H1 X1 na hA => ?_, fun hno H1 X1 => qe ?_ H1 (put H1 X1)⟩
        · obtain ⟨k1, k2, k3⟩ := put_row X1 hR2 hr12 hS12 hrq22 nd2 hA
          refine ⟨r1, _, _, rfl, rfl, X1 _ _ hr12, sz_lt (by rw [List.length_map, hS1.len]; have := hg1.2.2; omega), (nxt ++ [Tr.ov top m s]) :: rest, r1 :: rq2, _, ?_, rfl, ?_, k2, k3, nd2, fun r hr => .inl (List.mem_cons_of_mem _ hr)⟩
          · unfold stp
            rw [if_neg c1, if_neg c2, if_pos c4]
            show (match ovTail (itm (l.drop (i + 1))) with
              | some (m, s) => if ovB top (.int (m : Nat)) (.int (s : Nat)) = true then some (1 + (itm (l.drop (i + 1))).length, (nxt ++ [Tr.ov top m s]) :: rest) else none
              | none => none) = _
            rw [hov]
            exact if_pos hb
          · exact fun b o hb hb2 e => k1 _ _ hb (fun z => hb2 (List.mem_cons_of_mem _ z)) (O2 _ _ hb e)
        · show (match ovTail (itm (l.drop (i + 1))) with
            | some (m, s) => if ovB top (.int (m : Nat)) (.int (s : Nat)) = true then some (1 + (itm (l.drop (i + 1))).length, (nxt ++ [Tr.ov top m s]) :: rest) else none
            | none => none) = none
          cases hov : ovTail (itm (l.drop (i + 1))) with
          | none => rfl
          | some p =>
            obtain ⟨m, s⟩ := p
            show (if ovB top (.int (m : Nat)) (.int (s : Nat)) = true then _ else none) = none
            rw [hno m s hov]
            rfl
      · refine ifN (vch_ne (d := 41) c4) ?_
        rw [if_neg c4] at q qe
        refine ⟨_, rfl, _, rfl, _, _, _, _, rfl, rfl, (sq_lst hR), atl, (.inl ⟨rfl, ⟨_, (sq_lst hr0)⟩⟩), _, rfl, _, rfl, _, rfl, _, rfl, _, rfl, _, rfl, ls, ?_⟩
        dsimp only [tNil]
        rw [Mo.cut_mid]
        have et : (l.drop i).take (i + (1 + (itm (l.drop (i + 1))).length) - i) = c :: itm (l.drop (i + 1)) := by
          have ed : l.drop i = c :: l.drop (i + 1) := by
            rw [List.drop_eq_getElem_cons hi]
            rw [List.getElem?_eq_getElem hi] at hc
            rw [Option.some.inj hc]
          rw [ed, show i + (1 + (itm (l.drop (i + 1))).length) - i = (itm (l.drop (i + 1))).length + 1 by omega, List.take_succ_cons, itm_take]
        rw [et]
        refine ⟨_, rfl, by rw [List.length_cons]; omega, fun n hn a H1 X1 na hA => ?_, fun hn H1 X1 => qe ?_ H1 (fun b o _ _ e => X1 _ _ e)⟩
        · obtain ⟨k1, k2, k3⟩ := put_row X1 hR hr0 hS hrq nd hA
          refine ⟨r0, _, _, rfl, rfl, X1 _ _ hr0, sz_lt (by rw [List.length_map, hS.len]; have := hg0.2.2; omega), (top ++ [Tr.at n]) :: stq, r0 :: rq, _, ?_, rfl, k1, k2, k3, nd, fun r hr => .inl hr⟩
          unfold stp
          rw [if_neg c1, if_neg c2, if_neg c4]
          show (match Mo.momOf (c :: itm (l.drop (i + 1))) with
            | some n => some (1 + (itm (l.drop (i + 1))).length, (top ++ [Tr.at n]) :: stq)
            | none => none) = _
          rw [hn]
        · show (match Mo.momOf (c :: itm (l.drop (i + 1))) with
            | some n => some (1 + (itm (l.drop (i + 1))).length, (top ++ [Tr.at n]) :: stq)
            | none => none) = none
          rw [hn]
    · rintro σ' H' ⟨st', rs', v4, e1, rfl, e2, e3, e4, e5, e6⟩
      refine ⟨_, rfl, ?_⟩
      unfold stp at e1
      rw [if_neg c1, if_neg c2] at e1
      exact q _ _ e1 rs' H' e2 e3 e4 e5 e6
theorem ok_read_on {P : Program} {w : World} {K : PySem.W.Frag} {mg : Str → Option Value} {base : Heap} (T : Env K mg) : Fc P w K mg base 75 (He.ga K "read_on") [] (sp_read_on K ) := by
  obtain ⟨fd, D, F⟩ := fb_read_on T
  exact F.all (D.bindsN fun _ _ _ _ _ _ us hl => match us, hl with | [_, _, _], _ => rfl)
end
section
abbrev GAP : Nat := 10 ^ 51
theorem okL_snoc {t : Tr} : ∀ {ts : List Tr}, okL_ ts → t.ok → okL_ (ts ++ [t])
  | [], _, h => by
    show okL_ [t]
    unfold okL_
    exact ⟨h, by unfold okL_; trivial⟩
  | x :: r, h, ht => by
    unfold okL_ at h
    show okL_ (x :: (r ++ [t]))
    unfold okL_
    exact ⟨h.1, okL_snoc h.2 ht⟩
theorem risB_snoc {t : Tr} : ∀ {ts : List Tr}, okL_ ts → risB ts = true → (ts ≠ [] → (momsL ts).getLastD 0 < t.moms.headD 0) → risB (ts ++ [t]) = true
  | [], _, _, _ => rfl
  | [x], h, _, hb => by
    have hb := hb (by simp)
    have e : momsL [x] = x.moms := by simp [momsL]
    rw [e] at hb
    show (decide (x.moms.getLastD 0 < t.moms.headD 0) && true) = true
    rw [decide_eq_true hb]
    rfl
  | x :: y :: r, h, hr, hb => by
    obtain ⟨h1, h2⟩ := risB_cons hr
    have hok : okL_ (y :: r) := by
      unfold okL_ at h
      exact h.2
    have e : momsL (x :: y :: r) = x.moms ++ momsL (y :: r) := by rw [momsL]
    have ih := risB_snoc hok h2 fun _ => by
      have hb := hb (by simp)
      rw [e, lastD_app (momsL_ne hok (by simp))] at hb
      exact hb
    show (decide (x.moms.getLastD 0 < y.moms.headD 0) && risB (y :: r ++ [t])) = true
    rw [decide_eq_true h1, ih]
    rfl
theorem momsL_snoc (ts : List Tr) (t : Tr) : momsL (ts ++ [t]) = momsL ts ++ t.moms := by
  have e : momsL [t] = t.moms := by simp [momsL]
  rw [momsL_app, e]
theorem at_lastN {ns : List Nat} (h : ns ≠ []) : atI (natV ns) (-1) = some (.int ((ns.getLastD 0 : Nat) : Int)) := by
  have e := List.dropLast_concat_getLast h
  have e2 : ns.getLastD 0 = ns.getLast h := by
    rw [List.getLastD_eq_getLast?, List.getLast?_eq_some_getLast h]
    rfl
  rw [e2]
  have e3 : natV ns = natV ns.dropLast ++ [.int ((ns.getLast h : Nat) : Int)] := by
    unfold natV
    rw [← List.map_singleton (f := fun n : Nat => V.int (n : Int)), ← List.map_append, e]
  rw [e3]
  exact atI_last _ _
theorem at_headN {ns : List Nat} (h : ns ≠ []) : atI (natV ns) 0 = some (.int ((ns.headD 0 : Nat) : Int)) := by
  cases ns with
  | nil => exact absurd rfl h
  | cons x r => exact atI_nat (j := 0) rfl
theorem nestL_le {d : Nat} : ∀ {ts : List Tr}, (∀ t ∈ ts, t.nest ≤ d) → nestL ts ≤ d
  | [], _ => by
    unfold nestL
    exact Nat.zero_le _
  | t :: r, h => by
    unfold nestL
    have h1 := h t List.mem_cons_self
    have h2 := nestL_le (ts := r) fun x hx => h x (List.mem_cons_of_mem _ hx)
    exact Nat.max_le.mpr ⟨h1, h2⟩
theorem over_bound {at_ la st m' len V G : Nat} (h1 : la + 1 ≤ at_ + len * V) (h2 : st ≤ len * V + G) (hl : 1 ≤ len) : la + m' * st + 1 ≤ at_ + (m' + 1) * len * (V + G) := by
  have e1 : m' * st ≤ m' * (len * V) + m' * G := by
    rw [← Nat.mul_add]
    exact Nat.mul_le_mul_left _ h2
  have e2 : (m' + 1) * len * (V + G) = m' * (len * V) + len * V + (m' + 1) * len * G := by
    rw [Nat.mul_add, Nat.mul_assoc (m' + 1) len V, Nat.add_mul m' 1 (len * V), Nat.one_mul]
  have e3 : m' * G ≤ (m' + 1) * len * G := Nat.mul_le_mul_right _ (Nat.le_trans (Nat.le_succ _) (Nat.le_mul_of_pos_right _ hl))
  omega
end
section
theorem okL_app : ∀ {a b : List Tr}, okL_ a → okL_ b → okL_ (a ++ b)
  | [], b, _, h => h
  | t :: a, b, h1, h2 => by
    unfold okL_ at h1
    show okL_ (t :: (a ++ b))
    unfold okL_
    exact ⟨h1.1, okL_app h1.2 h2⟩
theorem nestL_app (a b : List Tr) : nestL (a ++ b) = max (nestL a) (nestL b) := by
  induction a with
  | nil => simp [nestL]
  | cons t a ih => simp [nestL, ih, Nat.max_assoc]
theorem okL_one {t : Tr} (h : t.ok) : okL_ [t] := by
  unfold okL_
  exact ⟨h, by unfold okL_; trivial⟩
theorem nestL_one (t : Tr) : nestL [t] = t.nest := by simp [nestL]
theorem pcsL_one (t : Tr) : pcsL [t] = t.pcs := by simp [pcsL]
theorem at_moms (n : Nat) : (Tr.at n).moms = [n] := by rw [Tr.moms]
theorem at_nest (n : Nat) : (Tr.at n).nest = 0 := by rw [Tr.nest]
theorem momsL_one (t : Tr) : momsL [t] = t.moms := by simp [momsL]
end
section
def fitS (st : List (List Tr)) : Prop := ∀ row ∈ st, okL_ row ∧ nestL row ≤ 8 ∧ fitL row
def pcsS (st : List (List Tr)) : Nat := (st.map pcsL).sum
theorem fitL_app : ∀ {a b : List Tr}, fitL a → fitL b → fitL (a ++ b)
  | [], b, _, h => h
  | t :: a, b, h1, h2 => by
    unfold fitL at h1
    show fitL (t :: (a ++ b))
    unfold fitL
    exact ⟨h1.1, fitL_app h1.2 h2⟩
theorem fitL_one {t : Tr} (h : t.fit) : fitL [t] := by
  unfold fitL
  exact ⟨h, by unfold fitL; trivial⟩
/-- an Over that may be made is one -/
theorem ovB_ok {ts : List Tr} {m s : Nat} (hok : okL_ ts) (h : ovB ts (.int (m : Nat)) (.int (s : Nat)) = true) : (Tr.ov ts m s).ok ∧ (Tr.ov ts m s).nest ≤ 8 := by
  unfold ovB at h
  obtain ⟨h1, h⟩ := Bool.and_eq_true_iff.mp h
  obtain ⟨h2, h⟩ := Bool.and_eq_true_iff.mp h
  obtain ⟨h3, h⟩ := Bool.and_eq_true_iff.mp h
  obtain ⟨h4, h⟩ := Bool.and_eq_true_iff.mp h
  obtain ⟨h5, h⟩ := Bool.and_eq_true_iff.mp h
  obtain ⟨h6, h7⟩ := Bool.and_eq_true_iff.mp h
  have h5 := of_decide_eq_true h5
  have h6 := of_decide_eq_true h6
  have h7 := of_decide_eq_true h7
  have h3 : (2 : Int) ≤ ((m : Nat) : Int) := of_decide_eq_true (Bool.and_eq_true_iff.mp h3).2
  have h4 : (1 : Int) ≤ ((s : Nat) : Int) := of_decide_eq_true (Bool.and_eq_true_iff.mp h4).2
  refine ⟨?_, by unfold Tr.nest; omega⟩
  unfold Tr.ok
  refine ⟨of_decide_eq_true h2, by omega, by omega, ?_, by omega, ris_sorted hok h1, hok⟩
  have : ((m * (momsL ts).length : Nat) : Int) ≤ 1440 := by rw [Int.natCast_mul]; exact h6
  omega
theorem clkOf_lt {t : List Nat} {m : Nat} (h : Mo.clkOf t = some m) : m < 1440 := by
  unfold Mo.clkOf at h
  split at h
  · cases h
  · split at h
    · split at h
      · split at h
        · rename_i hh
          cases h
          omega
        · cases h
      · cases h
    · cases h
theorem num_lt {w : List Nat} {n : Nat} (h : Mo.num? w = some n) : n < 10 ^ w.length := by
  unfold Mo.num? at h
  split at h
  · rename_i c
    cases h
    exact Mo.val_lt (Mo.figs_iff.mp (Bool.and_eq_true_iff.mp c).1).2
  · cases h
theorem pow_le {a b : Nat} (h : a ≤ b) : 10 ^ a ≤ 10 ^ b := Nat.pow_le_pow_right (by decide) h
theorem momOf_lt {w : List Nat} {n : Nat} (h : Mo.momOf w = some n) (hl : w.length ≤ 251) : n < 10 ^ 255 := by
  unfold Mo.momOf at h
  split at h
  · exact Nat.lt_trans (clkOf_lt h) (by decide +kernel)
  · rename_i a t hc
    have el := (Mo.rcut_is hc).1
    split at h
    · cases h
    · rename_i d hd
      obtain ⟨m, hm, e⟩ := Option.map_eq_some_iff.mp h
      have h1 := clkOf_lt hm
      have h2 : d < 10 ^ a.length := by
        unfold Mo.dayOf at hd
        split at hd
        · cases hd
        · exact num_lt hd
      have h3 : a.length ≤ 250 := by
        have := congrArg List.length el
        simp at this
        omega
      have h4 : d < 10 ^ 250 := Nat.lt_of_lt_of_le h2 (pow_le h3)
      have h5 : (10 : Nat) ^ 250 * 1440 + 1440 ≤ 10 ^ 255 := by decide +kernel
      have h6 : d * 1440 ≤ 10 ^ 250 * 1440 := Nat.mul_le_mul_right _ (Nat.le_of_lt h4)
      omega
theorem numIn_lt {w : List Nat} {n : Nat} (h : numIn w = some n) (hl : w.length ≤ 255) : n < 10 ^ 255 := by
  unfold numIn at h
  split at h
  · rename_i c
    cases h
    exact Nat.lt_of_lt_of_le (Mo.val_lt (Mo.figs_iff.mp c).2) (pow_le hl)
  · cases h
theorem ovTail_lt {w : List Nat} {m s : Nat} (h : ovTail w = some (m, s)) (hl : w.length ≤ 250) : m < 10 ^ 255 ∧ s < 10 ^ 255 := by
  obtain ⟨wl, _⟩ := Mo.spl_le 32 w.length w (Nat.le_refl _)
  unfold ovTail at h
  generalize TL.spl [32] 0 [] w = ws at h wl
  unfold ovWords at h
  split at h
  · rename_i w0 w1 w2
    have l1 := wl w1 (by simp)
    have l2 := wl w2 (by simp)
    split at h
    · split at h
      · rename_i a b ha hb
        cases h
        exact ⟨numIn_lt ha (by rw [List.length_drop]; omega), numIn_lt hb (by rw [List.length_drop]; omega)⟩
      · cases h
    · cases h
  · cases h
theorem fitS_cons {row : List Tr} {st : List (List Tr)} (h1 : okL_ row ∧ nestL row ≤ 8 ∧ fitL row) (h2 : fitS st) : fitS (row :: st) := fun x hx => by
  rcases List.mem_cons.mp hx with rfl | hx
  · exact h1
  · exact h2 x hx
theorem stp_good {c : Nat} {r : List Nat} {st st' : List (List Tr)} {k : Nat} (h : stp c r st = some (k, st')) (hf : fitS st) (hl : st.length ≤ 9) (hi : (itm r).length ≤ 250) (ne : st ≠ []) : fitS st' ∧ st'.length ≤ 9 ∧ st' ≠ [] ∧ pcsS st' ≤ pcsS st + 1 ∧ 1 ≤ k ∧ k ≤ 1 + r.length := by
  have hr := itm_len r
  unfold stp at h
  split at h
  · cases h
    exact ⟨hf, hl, ne, by omega, by omega, by omega⟩
  split at h
  · split at h
    · cases h
    · cases h
      refine ⟨fitS_cons ⟨by unfold okL_; trivial, by simp [nestL], by unfold fitL; trivial⟩ hf, by rw [List.length_cons]; omega, by simp, ?_, by omega, by omega⟩
      show pcsS ([] :: st) ≤ _
      simp [pcsS, pcsL]
  split at h
  · split at h
    · rename_i top nxt rest
      split at h
      · rename_i m s hov
        split at h
        · rename_i hb
          cases h
          obtain ⟨ho, hn⟩ := ovB_ok (hf top (by simp)).1 hb
          have hlt := ovTail_lt hov hi
          have h1 := hf nxt (by simp)
          have ht := hf top (by simp)
          refine ⟨fitS_cons ⟨okL_app h1.1 (okL_one ho), by rw [nestL_app, nestL_one]; omega, fitL_app h1.2.2 (fitL_one (by unfold Tr.fit; exact ⟨hlt.1, hlt.2, ht.2.2⟩))⟩ (fun x hx => hf x (by simp [hx])), by simp at hl ⊢; omega, by simp, ?_, by omega, by omega⟩
          simp only [pcsS, List.map_cons, List.sum_cons, pcsL_app, pcsL_one]
          unfold Tr.pcs
          omega
        · cases h
      · cases h
    · cases h
  · split at h
    · rename_i top rest
      split at h
      · rename_i n hn
        cases h
        have h1 := hf top (by simp)
        refine ⟨fitS_cons ⟨okL_app h1.1 (okL_one (by unfold Tr.ok; trivial)), by rw [nestL_app, nestL_one]; unfold Tr.nest; omega, fitL_app h1.2.2 (fitL_one (by unfold Tr.fit; exact momOf_lt hn (by rw [List.length_cons]; omega)))⟩ (fun x hx => hf x (by simp [hx])), by simp at hl ⊢; omega, by simp, ?_, by omega, by omega⟩
        simp only [pcsS, List.map_cons, List.sum_cons, pcsL_app, pcsL_one]
        unfold Tr.pcs
        omega
      · cases h
    · cases h
def rdL : Nat → List Nat → List (List Tr) → Option (List (List Tr))
  | _, [], st => some st
  | 0, _ :: _, _ => none
  | f + 1, c :: r, st => match stp c r st with
    | some (k, st') => rdL f ((c :: r).drop k) st'
    | none => none
theorem stp_pos {c : Nat} {r : List Nat} {st st' : List (List Tr)} {k : Nat} (h : stp c r st = some (k, st')) : 1 ≤ k := by
  unfold stp at h
  split at h
  · cases h
    exact Nat.le_refl _
  split at h
  · split at h
    · cases h
    · cases h
      exact Nat.le_refl _
  split at h
  · split at h
    · split at h
      · split at h
        · cases h
          omega
        · cases h
      · cases h
    · cases h
  · split at h
    · split at h
      · cases h
        omega
      · cases h
    · cases h
/-- enough is enough -/
theorem rdL_more : ∀ {f : Nat} {r : List Nat} {st : List (List Tr)} {g : Nat}, r.length ≤ f → f ≤ g → rdL g r st = rdL f r st
  | f, [], st, g, _, _ => by
    cases f <;> cases g <;> rfl
  | 0, c :: r, st, g, h, _ => by simp at h
  | f + 1, c :: r, st, g, h, hg => by
    obtain ⟨g', rfl⟩ : ∃ g', g = g' + 1 := ⟨g - 1, by omega⟩
    show (match stp c r st with
      | some (k, st') => rdL g' ((c :: r).drop k) st'
      | none => none) = (match stp c r st with
      | some (k, st') => rdL f ((c :: r).drop k) st'
      | none => none)
    cases e : stp c r st with
    | none => rfl
    | some p =>
      obtain ⟨k, st'⟩ := p
      have h5 := stp_pos e
      exact rdL_more (by rw [List.length_drop, List.length_cons] at *; omega) (by omega)
def rdA (r : List Nat) (st : List (List Tr)) : Option (List (List Tr)) := rdL r.length r st
theorem rdA_nil (st : List (List Tr)) : rdA [] st = some st := rfl
theorem rdA_cons {c : Nat} {r : List Nat} {st : List (List Tr)} : rdA (c :: r) st = match stp c r st with
    | some (k, st') => rdA ((c :: r).drop k) st'
    | none => none := by
  show (match stp c r st with
      | some (k, st') => rdL r.length ((c :: r).drop k) st'
      | none => none) = _
  cases e : stp c r st with
  | none => rfl
  | some p =>
    obtain ⟨k, st'⟩ := p
    have h5 := stp_pos e
    exact rdL_more (Nat.le_refl _) (by rw [List.length_drop, List.length_cons]; omega)
/-- the spread that a text writes -/
def readS (l : List Nat) : Option (List Tr) := if l = [45] then some [] else match rdA l [[]] with
  | some [ts] => if sprB ts = true ∧ rowT (txtL ts) = l then some ts else none
  | _ => none
end
section
def noSep (a : List Nat) : Prop := ∀ c ∈ a, isSep c = false
def atSep (w : List Nat) : Prop := w = [] ∨ ∃ c b, w = c :: b ∧ isSep c = true
theorem itm_app {a w : List Nat} (ha : noSep a) (hw : atSep w) : itm (a ++ w) = a := by
  induction a with
  | nil =>
    rcases hw with rfl | ⟨c, b, rfl, hc⟩
    · rfl
    · show itm (c :: b) = []
      unfold itm
      rw [List.takeWhile_cons, hc]
      rfl
  | cons x a ih =>
    have hx := ha x List.mem_cons_self
    have e : itm (x :: (a ++ w)) = x :: itm (a ++ w) := by
      unfold itm
      rw [List.takeWhile_cons, hx]
      rfl
    rw [List.cons_append, e, ih fun c hc => ha c (List.mem_cons_of_mem _ hc)]
theorem fig_sep {c : Nat} (h : 48 ≤ c ∧ c ≤ 57) : isSep c = false := by
  unfold isSep
  rw [beq_eq_false_iff_ne.mpr (by omega), beq_eq_false_iff_ne.mpr (by omega), beq_eq_false_iff_ne.mpr (by omega)]
  rfl
theorem noSep_app {a b : List Nat} (h1 : noSep a) (h2 : noSep b) : noSep (a ++ b) := fun c hc => (List.mem_append.mp hc).elim (h1 c) (h2 c)
theorem noSep_cons {c : Nat} {b : List Nat} (h1 : isSep c = false) (h2 : noSep b) : noSep (c :: b) := fun x hx => by
  rcases List.mem_cons.mp hx with rfl | hx
  · exact h1
  · exact h2 x hx
theorem num_sep (n : Nat) : noSep (TL.numL n) := fun c hc => fig_sep (TL.numL_digits n c hc)
theorem clk_sep (m : Nat) : noSep (Mo.clk m) := by
  unfold Mo.clk Mo.two
  refine noSep_app (num_sep _) (noSep_cons rfl (noSep_cons (fig_sep (by omega)) (noSep_cons (fig_sep (by omega)) fun c hc => by cases hc)))
theorem shw_sep (m : Nat) : noSep (Mo.shw m) := by
  unfold Mo.shw
  split
  · exact clk_sep m
  · exact noSep_app (num_sep _) (noSep_cons rfl (clk_sep m))
theorem shw_head (m : Nat) : ∃ c r, Mo.shw m = c :: r ∧ 48 ≤ c ∧ c ≤ 57 := by
  have nh : ∀ n, ∃ c r, TL.numL n = c :: r ∧ 48 ≤ c ∧ c ≤ 57 := fun n => by
    cases e : TL.numL n with
    | nil => exact absurd e (TL.numL_ne n)
    | cons c r => exact ⟨c, r, rfl, TL.numL_digits n c (by rw [e]; exact List.mem_cons_self)⟩
  unfold Mo.shw
  split
  · unfold Mo.clk
    obtain ⟨c, r, e, h⟩ := nh (m % 1440 / 60)
    exact ⟨c, r ++ 58 :: Mo.two (m % 60), by rw [e]; rfl, h⟩
  · obtain ⟨c, r, e, h⟩ := nh (m / 1440)
    exact ⟨c, r ++ 32 :: Mo.clk m, by rw [e]; rfl, h⟩
def tailT (m s : Nat) : List Nat := [32, 120] ++ TL.numL m ++ [32, 43] ++ TL.numL s
theorem tail_sep (m s : Nat) : noSep (tailT m s) := by
  unfold tailT
  refine noSep_app (noSep_app (noSep_app (noSep_cons rfl (noSep_cons rfl fun c hc => by cases hc)) (num_sep _)) (noSep_cons rfl (noSep_cons rfl fun c hc => by cases hc))) (num_sep _)
theorem numIn_num (n : Nat) : numIn (TL.numL n) = some n := by
  unfold numIn
  rw [if_pos (Mo.figs_num n), Mo.val_num]
theorem num_free (n : Nat) : 32 ∉ TL.numL n := fun h => by
  have := TL.numL_digits n 32 h
  have h2 : 48 ≤ 32 ∧ 32 ≤ 57 := this
  omega
theorem ovTail_tail (m s : Nat) : ovTail (tailT m s) = some (m, s) := by
  have e : tailT m s = [] ++ 32 :: ((120 :: TL.numL m) ++ 32 :: (43 :: TL.numL s)) := by
    unfold tailT
    simp
  unfold ovTail
  rw [e, Mo.spl_cut _ (by simp), Mo.spl_cut _ (by simp [num_free]), Mo.spl_one (by simp [num_free])]
  show (if ([] : List Nat) = [] ∧ (120 :: TL.numL m).take 1 = [120] ∧ (43 :: TL.numL s).take 1 = [43] then (match numIn ((120 :: TL.numL m).drop 1), numIn ((43 :: TL.numL s).drop 1) with
    | some m, some s => some (m, s)
    | _, _ => none) else none) = _
  rw [if_pos ⟨rfl, rfl, rfl⟩]
  show (match numIn (TL.numL m), numIn (TL.numL s) with
    | some m, some s => some (m, s)
    | _, _ => none) = _
  rw [numIn_num, numIn_num]
theorem ov_txt (ps : List Tr) (m s : Nat) (h : ps ≠ []) : (Tr.ov ps m s).txt = 40 :: (TL.joinL [44, 32] (txtL ps) ++ 41 :: tailT m s) := by
  unfold Tr.txt rowT tailT
  rw [if_neg (by rw [txtL_map]; intro z; exact h (List.map_eq_nil_iff.mp z))]
  simp
theorem stp_at {c : Nat} {r w : List Nat} {n : Nat} {top : List Tr} {st : List (List Tr)} (hc : 48 ≤ c ∧ c ≤ 57) (hr : noSep r) (hw : atSep w) (h : Mo.momOf (c :: r) = some n) : stp c (r ++ w) (top :: st) = some (1 + r.length, (top ++ [.at n]) :: st) := by
  unfold stp
  rw [if_neg (by omega), if_neg (by omega), if_neg (by omega), itm_app hr hw]
  show (match Mo.momOf (c :: r) with
    | some n => some (1 + r.length, (top ++ [Tr.at n]) :: st)
    | none => none) = _
  rw [h]
theorem stp_ov {w : List Nat} {m s : Nat} {top nxt : List Tr} {st : List (List Tr)} (hw : atSep w) (h : ovB top (.int (m : Nat)) (.int (s : Nat)) = true) : stp 41 (tailT m s ++ w) (top :: nxt :: st) = some (1 + (tailT m s).length, (nxt ++ [.ov top m s]) :: st) := by
  unfold stp
  rw [if_neg (by decide), if_neg (by decide), if_pos rfl, itm_app (tail_sep m s) hw]
  show (match ovTail (tailT m s) with
    | some (m', s') => if ovB top (.int (m' : Nat)) (.int (s' : Nat)) = true then some (1 + (tailT m s).length, (nxt ++ [Tr.ov top m' s']) :: st) else none
    | none => none) = _
  rw [ovTail_tail]
  exact if_pos h
theorem drop_app1 (c : Nat) (a w : List Nat) : (c :: (a ++ w)).drop (1 + a.length) = w := by
  rw [Nat.add_comm, List.drop_succ_cons, List.drop_left]
theorem rdA_skip {c : Nat} {r : List Nat} {st : List (List Tr)} (h : c = 44 ∨ c = 32) : rdA (c :: r) st = rdA r st := by
  rw [rdA_cons]
  have e : stp c r st = some (1, st) := by
    unfold stp
    rw [if_pos h]
  rw [e]
  rfl
mutual
theorem rd_t : ∀ {t : Tr} {w : List Nat} {top : List Tr} {st : List (List Tr)}, t.ok → t.nest ≤ 8 → atSep w → st.length + 1 + t.nest ≤ 9 → rdA (t.txt ++ w) (top :: st) = rdA w ((top ++ [t]) :: st)
  | .at n, w, top, st, _, _, hw, _ => by
    unfold Tr.txt
    obtain ⟨c, r, e, hc⟩ := shw_head n
    have hr : noSep r := fun x hx => shw_sep n x (by rw [e]; exact List.mem_cons_of_mem _ hx)
    have hm : Mo.momOf (c :: r) = some n := by rw [← e]; exact Mo.momOf_shw n
    rw [e, List.cons_append, rdA_cons, stp_at hc hr hw hm]
    show rdA ((c :: (r ++ w)).drop (1 + r.length)) _ = _
    rw [drop_app1]
  | .ov ps m s, w, top, st, ho, hn, hw, hd => by
    have hb := ovB_of ho hn
    have hf := ov_facts ho
    have hn2 : (Tr.ov ps m s).nest = 1 + nestL ps := by unfold Tr.nest; rfl
    rw [ov_txt _ _ _ hf.1]
    have e1 : 40 :: (TL.joinL [44, 32] (txtL ps) ++ 41 :: tailT m s) ++ w = 40 :: (TL.joinL [44, 32] (txtL ps) ++ (41 :: (tailT m s ++ w))) := by simp
    rw [e1, rdA_cons]
    have e2 : stp 40 (TL.joinL [44, 32] (txtL ps) ++ (41 :: (tailT m s ++ w))) (top :: st) = some (1, [] :: top :: st) := by
      unfold stp
      rw [if_neg (by decide), if_pos rfl, if_neg (by rw [List.length_cons]; omega)]
    rw [e2]
    show rdA (TL.joinL [44, 32] (txtL ps) ++ (41 :: (tailT m s ++ w))) ([] :: top :: st) = _
    rw [rd_row hf.2.2.2.2.2.2 (by omega) (.inr ⟨41, _, rfl, rfl⟩) (by rw [List.length_cons]; omega), List.nil_append, rdA_cons, stp_ov hw hb]
    show rdA ((41 :: (tailT m s ++ w)).drop (1 + (tailT m s).length)) _ = _
    rw [drop_app1]
theorem rd_row : ∀ {ts : List Tr} {w : List Nat} {top : List Tr} {st : List (List Tr)}, okL_ ts → nestL ts ≤ 8 → atSep w → st.length + 1 + nestL ts ≤ 9 → rdA (TL.joinL [44, 32] (txtL ts) ++ w) (top :: st) = rdA w ((top ++ ts) :: st)
  | [], w, top, st, _, _, _, _ => by
    rw [List.append_nil]
    rfl
  | [t], w, top, st, ho, hn, hw, hd => by
    have e : txtL [t] = [t.txt] := by simp [txtL]
    have n1 : nestL [t] = t.nest := by simp [nestL]
    unfold okL_ at ho
    rw [e]
    exact rd_t ho.1 (by omega) hw (by omega)
  | t :: x :: r, w, top, st, ho, hn, hw, hd => by
    have n1 : nestL (t :: x :: r) = max t.nest (nestL (x :: r)) := by simp [nestL]
    unfold okL_ at ho
    have ih := rd_row (ts := x :: r) (w := w) (top := top ++ [t]) (st := st) ho.2 (by omega) hw (by omega)
    have e : txtL (t :: x :: r) = t.txt :: x.txt :: txtL r := by simp [txtL]
    have e3 : txtL (x :: r) = x.txt :: txtL r := by simp [txtL]
    rw [e]
    show rdA ((t.txt ++ ([44, 32] ++ TL.joinL [44, 32] (x.txt :: txtL r))) ++ w) (top :: st) = _
    rw [← e3]
    have e4 : t.txt ++ ([44, 32] ++ TL.joinL [44, 32] (txtL (x :: r))) ++ w = t.txt ++ (44 :: 32 :: (TL.joinL [44, 32] (txtL (x :: r)) ++ w)) := by simp
    rw [e4, rd_t ho.1 (by omega) (.inr ⟨44, _, rfl, rfl⟩) (by omega), rdA_skip (.inl rfl), rdA_skip (.inr rfl), ih, List.append_assoc]
    rfl
end
theorem txt_ne45 : ∀ {t : Tr}, t.ok → ∀ w, t.txt ++ w ≠ 45 :: w
  | .at n, _, w => by
    unfold Tr.txt
    obtain ⟨c, r, e, hc⟩ := shw_head n
    rw [e]
    intro z
    injection z with z
    omega
  | .ov ps m s, ho, w => by
    rw [ov_txt _ _ _ (ov_facts ho).1]
    intro z
    injection z with z
    omega
theorem read_text {ts : List Tr} (ho : okL_ ts) (hn : nestL ts ≤ 8) (hb : sprB ts = true) : readS (rowT (txtL ts)) = some ts := by
  cases ts with
  | nil =>
    unfold readS
    rw [if_pos (by unfold txtL rowT; rfl)]
  | cons t r =>
    have e : rowT (txtL (t :: r)) = TL.joinL [44, 32] (txtL (t :: r)) := if_neg (by rw [txtL_map]; simp)
    have h45 : rowT (txtL (t :: r)) ≠ [45] := by
      rw [e]
      have ot : t.ok := by unfold okL_ at ho; exact ho.1
      cases r with
      | nil =>
        have e1 : txtL [t] = [t.txt] := by simp [txtL]
        rw [e1]
        show t.txt ≠ [45]
        have := txt_ne45 ot []
        rw [List.append_nil] at this
        exact this
      | cons x q =>
        have e1 : txtL (t :: x :: q) = t.txt :: x.txt :: txtL q := by simp [txtL]
        rw [e1]
        show t.txt ++ ([44, 32] ++ TL.joinL [44, 32] (x.txt :: txtL q)) ≠ [45]
        intro z
        have := congrArg List.length z
        simp at this
        omega
    unfold readS
    rw [if_neg h45]
    have er : rdA (rowT (txtL (t :: r))) [[]] = some [t :: r] := by
      rw [e]
      have := rd_row (w := []) (top := []) (st := []) ho hn (.inl rfl) (by simp; omega)
      rw [List.append_nil, List.nil_append, rdA_nil] at this
      exact this
    rw [er]
    exact if_pos ⟨hb, rfl⟩
def SegOk (n : Nat) (l : List Nat) : Prop := ∀ i, (itm (l.drop i)).length ≤ n
theorem seg_app {n : Nat} {a w : List Nat} (ha : noSep a) (hl : a.length ≤ n) (hw : atSep w) (h : SegOk n w) : SegOk n (a ++ w) := fun i => by
  by_cases c : i ≤ a.length
  · rw [List.drop_append_of_le_length c, itm_app (fun x hx => ha x (List.mem_of_mem_drop hx)) hw, List.length_drop]
    omega
  · rw [List.drop_append, List.drop_eq_nil_of_le (by omega), List.nil_append]
    exact h _
theorem seg_cons {n c : Nat} {w : List Nat} (hc : isSep c = true) (h : SegOk n w) : SegOk n (c :: w) := fun i => by
  cases i with
  | zero =>
    rw [List.drop_zero]
    unfold itm
    rw [List.takeWhile_cons, hc]
    exact Nat.zero_le _
  | succ i => exact h i
theorem seg_nil (n : Nat) : SegOk n [] := fun i => by
  rw [List.drop_nil]
  exact Nat.zero_le _
mutual
def Tr.sm : Tr → Prop
  | .at n => n < 10 ^ 100
  | .ov ps m s => m < 10 ^ 100 ∧ s < 10 ^ 100 ∧ smL ps
def smL : List Tr → Prop
  | [] => True
  | t :: ts => t.sm ∧ smL ts
end
mutual
theorem seg_t : ∀ {t : Tr} {p w : List Nat}, t.sm → t.ok → noSep p → p.length ≤ 1 → atSep w → SegOk 250 w → SegOk 250 (p ++ (t.txt ++ w))
  | .at n, p, w, hs, _, hp, hl, hw, h => by
    unfold Tr.sm at hs
    have h1 := Mo.shw_len (by decide) hs
    unfold Tr.txt
    rw [← List.append_assoc]
    exact seg_app (noSep_app hp (shw_sep n)) (by rw [List.length_append]; omega) hw h
  | .ov ps m s, p, w, hs, ho, hp, hl, hw, h => by
    unfold Tr.sm at hs
    have hf := ov_facts ho
    have l1 := TL.numL_len (by decide) hs.1
    have l2 := TL.numL_len (by decide) hs.2.1
    rw [ov_txt _ _ _ hf.1]
    have e1 : 40 :: (TL.joinL [44, 32] (txtL ps) ++ 41 :: tailT m s) ++ w = 40 :: ([] ++ (TL.joinL [44, 32] (txtL ps) ++ (41 :: (tailT m s ++ w)))) := by simp
    rw [e1]
    refine seg_app hp (by omega) (.inr ⟨40, _, rfl, rfl⟩) (seg_cons rfl ?_)
    refine seg_row hs.2.2 hf.2.2.2.2.2.2 (fun c hc => by cases hc) (Nat.zero_le _) (.inr ⟨41, _, rfl, rfl⟩) (seg_cons rfl (seg_app (tail_sep m s) ?_ hw h))
    unfold tailT
    simp
    omega
theorem seg_row : ∀ {ts : List Tr} {p w : List Nat}, smL ts → okL_ ts → noSep p → p.length ≤ 1 → atSep w → SegOk 250 w → SegOk 250 (p ++ (TL.joinL [44, 32] (txtL ts) ++ w))
  | [], p, w, _, _, hp, hl, hw, h => by
    show SegOk 250 (p ++ w)
    exact seg_app hp (by omega) hw h
  | [t], p, w, hs, ho, hp, hl, hw, h => by
    have e : txtL [t] = [t.txt] := by simp [txtL]
    unfold smL at hs
    unfold okL_ at ho
    rw [e]
    exact seg_t hs.1 ho.1 hp hl hw h
  | t :: x :: r, p, w, hs, ho, hp, hl, hw, h => by
    unfold smL at hs
    unfold okL_ at ho
    have ih := seg_row (ts := x :: r) (p := [32]) (w := w) hs.2 ho.2 (noSep_cons rfl fun c hc => by cases hc) (Nat.le_refl _) hw h
    have e : txtL (t :: x :: r) = t.txt :: x.txt :: txtL r := by simp [txtL]
    have e3 : txtL (x :: r) = x.txt :: txtL r := by simp [txtL]
    rw [e]
    show SegOk 250 (p ++ ((t.txt ++ ([44, 32] ++ TL.joinL [44, 32] (x.txt :: txtL r))) ++ w))
    rw [← e3]
    have e4 : t.txt ++ ([44, 32] ++ TL.joinL [44, 32] (txtL (x :: r))) ++ w = t.txt ++ (44 :: ([32] ++ (TL.joinL [44, 32] (txtL (x :: r)) ++ w))) := by simp
    rw [e4]
    exact seg_t hs.1 ho.1 hp hl (.inr ⟨44, _, rfl, rfl⟩) (seg_cons rfl ih)
end
theorem seg_text {ts : List Tr} (hs : smL ts) (ho : okL_ ts) : SegOk 250 (rowT (txtL ts)) := by
  cases ts with
  | nil =>
    have e : rowT (txtL []) = [45] ++ [] := by unfold txtL rowT; rfl
    rw [e]
    exact seg_app (noSep_cons rfl fun c hc => by cases hc) (by decide) (.inl rfl) (seg_nil _)
  | cons t r =>
    have e : rowT (txtL (t :: r)) = [] ++ (TL.joinL [44, 32] (txtL (t :: r)) ++ []) := by
      rw [List.nil_append, List.append_nil]
      exact if_neg (by rw [txtL_map]; simp)
    rw [e]
    exact seg_row hs ho (fun c hc => by cases hc) (Nat.zero_le _) (.inl rfl) (seg_nil _)
mutual
theorem sm_of : ∀ {t : Tr}, t.ok → (∀ n ∈ t.moms, n < 10 ^ 80) → t.sm
  | .at n, _, h => by
    unfold Tr.sm
    unfold Tr.moms at h
    exact Nat.lt_trans (h n List.mem_cons_self) (by decide +kernel)
  | .ov ps m s, ho, h => by
    have hf := ov_facts ho
    unfold Tr.ok at ho
    obtain ⟨h1, h2, h3, h4, h5, h6, h7⟩ := ho
    unfold Tr.moms at h
    obtain ⟨n, hn⟩ : ∃ n, n ∈ momsL ps := ⟨_, headD_mem (momsL_ne h7 h1)⟩
    have hs := h (n + 1 * s) (mem_overN.mpr ⟨1, n, by omega, hn, rfl⟩)
    unfold Tr.sm
    refine ⟨Nat.lt_of_le_of_lt hf.2.2.1 (by decide +kernel), Nat.lt_trans (show s < 10 ^ 80 by omega) (by decide +kernel), smL_of h7 fun k hk => ?_⟩
    have := h (k + 0 * s) (mem_overN.mpr ⟨0, k, by omega, hk, rfl⟩)
    omega
theorem smL_of : ∀ {ts : List Tr}, okL_ ts → (∀ n ∈ momsL ts, n < 10 ^ 80) → smL ts
  | [], _, _ => by
    unfold smL
    trivial
  | t :: r, ho, h => by
    unfold okL_ at ho
    unfold momsL at h
    unfold smL
    exact ⟨sm_of ho.1 fun n hn => h n (List.mem_append_left _ hn), smL_of ho.2 fun n hn => h n (List.mem_append_right _ hn)⟩
end
mutual
theorem txt_sm : ∀ {t : Tr}, t.sm → t.txt.length + 2 ≤ 220 * t.pcs
  | .at n, h => by
    unfold Tr.sm at h
    have := Mo.shw_len (by decide) h
    unfold Tr.txt Tr.pcs
    omega
  | .ov ps m s, h => by
    unfold Tr.sm at h
    obtain ⟨h1, h2, h3⟩ := h
    have l1 := TL.numL_len (by decide) h1
    have l2 := TL.numL_len (by decide) h2
    have l3 := row_sm h3
    have l4 : (rowT (txtL ps)).length ≤ 220 * pcsL ps + 1 := by
      unfold rowT
      split
      · show 1 ≤ _
        omega
      · omega
    unfold Tr.txt Tr.pcs
    simp only [List.length_append, List.length_cons, List.length_nil]
    omega
theorem row_sm : ∀ {ts : List Tr}, smL ts → (TL.joinL [44, 32] (txtL ts)).length ≤ 220 * pcsL ts
  | [], _ => by
    unfold txtL
    exact Nat.zero_le _
  | [t], h => by
    unfold smL at h
    have := txt_sm h.1
    have e : txtL [t] = [t.txt] := by simp [txtL]
    rw [e]
    show t.txt.length ≤ _
    have e2 : pcsL [t] = t.pcs := by simp [pcsL]
    omega
  | t :: x :: r, h => by
    unfold smL at h
    have h1 := txt_sm h.1
    have h2 := row_sm h.2
    have e : txtL (t :: x :: r) = t.txt :: x.txt :: txtL r := by simp [txtL]
    have e3 : txtL (x :: r) = x.txt :: txtL r := by simp [txtL]
    rw [e3] at h2
    rw [e]
    show (t.txt ++ ([44, 32] ++ TL.joinL [44, 32] (x.txt :: txtL r))).length ≤ _
    have e2 : pcsL (t :: x :: r) = t.pcs + pcsL (x :: r) := by rw [pcsL]
    simp only [List.length_append, List.length_cons, List.length_nil]
    omega
end
theorem rowT_sm {ts : List Tr} (h : smL ts) : (rowT (txtL ts)).length ≤ 220 * pcsL ts + 1 := by
  have := row_sm h
  unfold rowT
  split
  · show 1 ≤ _
    omega
  · omega
end
section
def sp_read_spread (K : PySem.W.Frag) : Sp := fun vs H Q E => ∃ x, vs = [x] ∧ ((∃ l : List Nat, x = .str (SX.S l) ∧ l.length ≤ 10000 ∧ (∀ i, (itm (l.drop i)).length ≤ 250) ∧ (∀ ts, readS l = some ts → ∀ a H', Ex H H' → H a = none → SprAt K H' a ts → Q (.ref a) H') ∧ (readS l = none → ∀ H', Ex H H' → E (.ref (He.ga K "NoPiece")) none H')) ∨
  (∃ t, TyX K H x t ∧ PySem.W.kitOne K t (.type "str") = some false ∧ E (.ref (He.ga K "NoPiece")) none H))
/-- the rows read so far -/
def RdInv (K : PySem.W.Frag) (H : Hp) (l : List Nat) (R : Addr) (i : Nat) (σ : L2.St) (H' : Hp) : Prop := ∃ st rs, σ = [some (.str (SX.S l)), some (.ref R), some (.int ((i : Nat) : Int)), none] ∧ Ex H H' ∧ i ≤ l.length ∧ H' R = some (.lst (rs.reverse.map V.ref)) ∧ RowsAt K H' st rs ∧ (R :: rs).Nodup ∧ (∀ r ∈ rs, H r = none) ∧ fitS st ∧ st.length ≤ 9 ∧ st ≠ [] ∧ pcsS st ≤ i ∧ rdA (l.drop i) st = rdA l [[]]
theorem pcsS_mem {row : List Tr} : ∀ {st : List (List Tr)}, row ∈ st → pcsL row ≤ pcsS st
  | x :: st, h => by
    show _ ≤ pcsL x + pcsS st
    rcases List.mem_cons.mp h with rfl | h
    · omega
    · have := pcsS_mem h
      omega
theorem fb_read_spread {P : Program} {w : World} {K : PySem.W.Frag} {mg : Str → Option Value} {base : Heap} (T : Env K mg) : ∃ fd, FunD K "read_spread" "read_spread" (defArgs s_read_spread) (defBody s_read_spread) (defScope s_read_spread) [] [] (He.ga K "read_spread") fd ∧ Fb P w K mg base 100 (He.ga K "read_spread") fd ["text"] (sp_read_spread K) := by
  obtain ⟨fd, F⟩ := T.f_read_spread
  refine ⟨fd, F, fb_of F sc_read_spread (fun vs H Q E h => ?_) (fun cdv A outer s H vs Q E hr h => ?_)⟩
  · obtain ⟨x, rfl, _⟩ := h
    rfl
  · obtain ⟨x, rfl, h⟩ := h
    refine ⟨_, (pss_cons (ps_if (pt_not (pt_val (pe_callB call_isi (by rfl) T.n_isinstance (by decide +kernel) (pa_cons (pv 0) (pa_cons (pe_bltn (v := .ty "str") (by rfl) T.n_str (by decide +kernel) rfl) pa_nil)))))
      (pss_one (ps_raise rfl (takes_of rfl rfl rfl rfl) (pmk_own PySem.F.excBase_ValueError T.x_NoPiece.x T.g_NoPiece T.x_NoPiece.kp (raises_own T.x_NoPiece.sub T.x_NoPiece.ty) rfl)))
      pss_nil)
      (pss_cons (ps_if (pt_cmpR op_eq (pv 0) (pe_k T.v_NO_PARTS) (nomark _))
      (pss_one (ps_ret (c_make T.mk_Spread (ok_Spread_init T) (hr.mono (by decide)) T.g_Spread (takes_of rfl rfl rfl rfl) (pa_cons (pe_lst pa_nil) pa_nil))))
      pss_nil)
      (pss_cons (ps_set (i := 1) sc_read_spread.nd rfl (Or.inl rfl) (pe_lst (pa_cons (pe_lst pa_nil) pa_nil)))
      (pss_cons (ps_set (i := 2) sc_read_spread.nd rfl (Or.inl rfl) pe_int)
      (pss_cons (ps_while (passes_of rfl) (pt_cmpR op_lt (pv 2) (pe_callB call_len (by rfl) T.n_len (by decide +kernel) (pa_cons (pv 0) pa_nil)) (nomark _))
      (pss_one (ps_set (i := 2) sc_read_spread.nd rfl (Or.inl rfl) (c_call (ok_read_on T) (hr.mono (by decide)) T.g_read_on T.k_read_on (takes_of rfl rfl rfl rfl) (pa_cons (pv 0) (pa_cons (pv 2) (pa_cons (pv 1) pa_nil)))))))
      (pss_cons (ps_if (pt_cmpR op_gt (pe_callB call_len (by rfl) T.n_len (by decide +kernel) (pa_cons (pv 1) pa_nil)) pe_int (nomark _))
      (pss_one (ps_raise rfl (takes_of rfl rfl rfl rfl) (pmk_own PySem.F.excBase_ValueError T.x_NoPiece.x T.g_NoPiece T.x_NoPiece.kp (raises_own T.x_NoPiece.sub T.x_NoPiece.ty) rfl)))
      pss_nil)
      (pss_cons (ps_set (i := 3) sc_read_spread.nd rfl (Or.inl rfl) (c_make T.mk_Spread (ok_Spread_init T) (hr.mono (by decide)) T.g_Spread (takes_of rfl rfl rfl rfl) (pa_cons (pe_ix ix_list (pv 1) pe_int (fun _ _ => rfl)) pa_nil)))
      (pss_cons (ps_if (pt_cmpR op_ne (pe_callTy (call_strO T.m_Spread_str (ok_Spread_str T) (hr.mono (by decide))) (by rfl) T.n_str (by decide +kernel) (pa_cons (pv 3) pa_nil)) (pv 0) (nomark _))
      (pss_one (ps_raise rfl (takes_of rfl rfl rfl rfl) (pmk_own PySem.F.excBase_ValueError T.x_NoPiece.x T.g_NoPiece T.x_NoPiece.kp (raises_own T.x_NoPiece.sub T.x_NoPiece.ty) rfl)))
      pss_nil)
      (pss_one (ps_ret (pv 3))))))))))), ?_⟩
    rcases h with ⟨l, rfl, hl, hi, q, qe⟩ | ⟨t, ty, kt, qe⟩
    · have ls : (SX.S l).length ≤ sizeLine := sz_big (by rw [SX.S_len]; omega)
      refine ⟨_, rfl, _, _, _, _, _, rfl, .ty _, .base (.str _), (kit_ty (r := true) (by decide +kernel)), _, rfl, ?_⟩
      refine iteF ?_
      refine ⟨_, rfl, rfl, _, rfl, ?_⟩
      try dsimp only [tNil]
      by_cases c0 : l = [45]
      · refine ifP (by rw [c0]; rfl) ?_
        refine ⟨(by decide), ?_⟩
        intro p np x dx nx nd ne
        have X1 := ex_new (o := .lst []) np
        refine spread_new (as := []) (ts := []) nx nd ne (.inl upd_same) (by unfold ShsAt; rfl) (by simp [nestL]) (by unfold okL_; trivial) rfl fun H2 X2 hS => ⟨rfl, ?_⟩
        exact q [] (by unfold readS; rw [if_pos c0]) x H2 (X1.trans X2) (ex_fresh X1 nx) hS
      refine ifN (vstr_ne (b := [45]) c0) ?_
      have eR : readS l = match rdA l [[]] with
        | some [ts] => if sprB ts = true ∧ rowT (txtL ts) = l then some ts else none
        | _ => none := by
        unfold readS
        rw [if_neg c0]
      rw [eR] at q qe
      refine ⟨(by decide), fun r0 nr0 => ⟨by show 1 ≤ sizeLine; decide, fun R nR => ?_⟩⟩
      have X1 := ex_new (o := .lst []) nr0
      have X2 := X1.trans (ex_new (o := .lst [.ref r0]) nR)
      have hr0 : upd (upd H r0 (.lst [])) R (.lst [.ref r0]) r0 = some (.lst []) := ex_new (o := .lst [.ref r0]) nR _ _ upd_same
      have hR0 : upd (upd H r0 (.lst [])) R (.lst [.ref r0]) R = some (.lst [.ref r0]) := upd_same
      have nRr : R ≠ r0 := fun z => by
        rw [z] at nR
        rw [show upd H r0 (.lst []) r0 = some (.lst []) from upd_same] at nR
        cases nR
      have nR1 : H R = none := ex_fresh X1 nR
      generalize upd (upd H r0 (.lst [])) R (.lst [.ref r0]) = H1 at X2 hr0 hR0 ⊢
      refine ⟨fun m σ H' => ∃ i, m = l.length - i ∧ RdInv K H l R i σ H', ⟨_, 0, rfl, [[]], [r0], rfl, X2, Nat.zero_le _, hR0, ⟨r0, [], rfl, ⟨[], hr0, by unfold ShsAt; rfl⟩, rfl⟩, by simp [nRr], fun r hr => by rw [List.mem_singleton.mp hr]; exact nr0, fun row hrow => by rw [List.mem_singleton.mp hrow]; exact ⟨by unfold okL_; trivial, by simp [nestL], by unfold fitL; trivial⟩, by decide, by simp, by simp [pcsS, pcsL], by rw [List.drop_zero]⟩, ?_⟩
      rintro m σ H2 ⟨i, rfl, st, rs, rfl, X3, hil, hR, hrs, nd, nrs, hf, hst, ne, hp, erd⟩
      refine ⟨_, rfl, _, rfl, _, _, rfl, ⟨ls, rfl⟩, _, _, rfl, rfl, _, rfl, ?_⟩
      try dsimp only [tNil]
      rw [SX.S_len]
      by_cases c1 : i < l.length
      · refine ifP (by omega) ?_
        have hg : l[i]? = some l[i] := List.getElem?_eq_getElem c1
        have ed : l.drop i = l[i] :: l.drop (i + 1) := List.drop_eq_getElem_cons c1
        rw [ed, rdA_cons] at erd
        have exC : ∀ H3, Rch R rs H2 H3 → Ex H H3 := fun H3 C b o e => C b o (fun z => by rw [z, nR1] at e; cases e) (fun z => by rw [nrs b z] at e; cases e) (X3 _ _ e)
        refine ⟨fun σ' H' => ∃ i', i < i' ∧ RdInv K H l R i' σ' H', ?_, _, rfl, _, rfl, _, rfl, l, i, l[i], R, rs, st, rfl, hg, hl, Nat.le_trans (hi _) (by decide), hR, hrs, nd, ne, by omega, fun row hrow => ⟨(hf row hrow).1, (hf row hrow).2.1, ?_⟩, fun k st' hstp rs' H3 C3 hR3 hrs3 nd3 nn3 => ?_, fun hno H3 C3 => ?_⟩
        · rintro σ' H' ⟨i', hi', r⟩
          have hle : i' ≤ l.length := by
            obtain ⟨_, _, _, _, h, _⟩ := r
            exact h
          exact ⟨l.length - i', by omega, i', rfl, r⟩
        · have h1 := pcsS_mem hrow
          have h2 := len_pcsL row
          omega
        · obtain ⟨g1, g2, g3, g4, g5, g6⟩ := stp_good hstp hf hst (hi _) ne
          rw [List.length_drop] at g6
          rw [hstp] at erd
          refine ⟨i + k, by omega, st', rs', rfl, exC H3 C3, by omega, hR3, hrs3, nd3, fun r hr => ?_, g1, g2, g3, by omega, ?_⟩
          · rcases nn3 r hr with z | z
            · exact nrs r z
            · exact ex_fresh X3 z
          · rw [← erd, ← ed]
            show _ = rdA ((l.drop i).drop k) st'
            rw [List.drop_drop]
        · rw [hno] at erd
          rw [← erd] at qe
          exact qe rfl H3 (exC H3 C3)
      · refine ifN (by omega) ?_
        have ei : l.drop i = [] := List.drop_eq_nil_of_le (by omega)
        rw [ei, rdA_nil] at erd
        rw [← erd] at q qe
        refine ⟨_, rfl, _, _, rfl, (.inl ⟨_, ⟨(sq_lst hR), rfl⟩⟩), _, _, rfl, rfl, _, rfl, ?_⟩
        dsimp only [tNil]
        have hlen := hrs.len
        obtain ⟨top, stq, rfl⟩ := List.exists_cons_of_ne_nil ne
        cases stq with
        | cons nxt rest =>
          refine ifP (by simp; simp at hlen; omega) ?_
          exact qe rfl H2 X3
        | nil =>
        obtain ⟨r1, rq, rfl, ⟨as, hr1, hS⟩, hrq⟩ := id hrs
        have eq0 : rq = [] := hrq
        subst eq0
        refine ifN (by simp) ?_
        have hft := hf top List.mem_cons_self
        have hpt := pcsS_mem (row := top) (st := [top]) List.mem_cons_self
        have hlt := len_pcsL top
        have a0 : atI ([r1].reverse.map V.ref) 0 = some (.ref r1) := atI_nat (j := 0) rfl
        have okq : ∀ ts, (match some [top] with
          | some [ts] => if sprB ts = true ∧ rowT (txtL ts) = l then some ts else none
          | _ => none) = some ts → ts = top ∧ sprB top = true ∧ rowT (txtL top) = l := fun ts h => by
          have h : (if sprB top = true ∧ rowT (txtL top) = l then some top else none) = some ts := h
          split at h
          · rename_i hc
            cases h
            exact ⟨rfl, hc⟩
          · cases h
        refine ⟨_, rfl, _, _, _, _, rfl, rfl, (sq_lst hR), rfl, ?_⟩
        try dsimp only [tNil]
        intro x dx nx nd2 ne2
        refine ⟨x, dx, r1, as, top, H2, rfl, upd_same, nx, ex_made nx nd2 ne2, .inl hr1, hS, hft.2.1, hft.1, by omega, by omega, fun hb H3 O3 hSp _ => ⟨rfl, ?_⟩, fun hb H3 O3 => ?_⟩
        · have X4 : Ex H2 H3 := fun b o e => O3 b o (ne_of_none e nx) (ex_made nx nd2 ne2 _ _ e)
          obtain ⟨dx2, kp, hd, as2, hx, _⟩ := id hSp
          refine ⟨_, rfl, x, dx2, _, rfl, hx, x, top, rfl, hSp, by omega, hft.2.2, by omega, fun H4 X5 => ⟨trivial, _, rfl, rfl, _, rfl, ?_⟩⟩
          have X05 := X3.trans (X4.trans X5)
          by_cases ce : rowT (txtL top) = l
          · refine ifnP (by rw [ce]) ?_
            exact ⟨_, rfl, q top (if_pos ⟨hb, ce⟩) x H4 X05 (ex_fresh X3 nx) (hSp.mono X5)⟩
          · refine ifnN (vstr_ne ce) ?_
            exact qe (if_neg fun z => ce z.2) H4 X05
        · have X4 : Ex H2 H3 := fun b o e => O3 b o (ne_of_none e nx) (ex_made nx nd2 ne2 _ _ e)
          exact qe (if_neg fun z => by rw [hb] at z; cases z.1) H3 (X3.trans X4)
    · exact ⟨_, rfl, x, .ty "str", _, _, false, rfl, .ty "str", ty, kt, false, rfl, iteT qe⟩
theorem ok_read_spread_0_text {P : Program} {w : World} {K : PySem.W.Frag} {mg : Str → Option Value} {base : Heap} (T : Env K mg) : Fc P w K mg base 100 (He.ga K "read_spread") ["text"] (fun vs H Q E => vs.length = 0 + (["text"] : List Str).length ∧ sp_read_spread K  (pick [.inl 0] vs []) H Q E) := by
  obtain ⟨fd, D, F⟩ := fb_read_spread T
  exact Fb.names D F 0 ["text"] (fun us => pick [.inl 0] us []) (fun r1 => pick_vals _ r1 .nil) (fun kV doc pm an cdv ct us ws h1 h2 => match us, ws, h1, h2 with | [], [_], _, _ => rfl)
end
section
/-- a pot: what is left of a cell's digits, and what mixes -/
def Pot (H : Hp) (p : Addr) : Prop := ∃ a b : Int, H p = some (.lst [.int a, .int b]) ∧ 0 ≤ b ∧ b < 4294967296
def sp__law_pot (K : PySem.W.Frag) : Sp := fun vs H Q _ => ∃ (a : Addr) (ns : List Int) (k : Int), vs = [.ref a, .int k] ∧ SqL K H a (ns.map V.int) ∧ 0 ≤ k ∧ k < 1000 ∧ ∀ p H', H p = none → Pot H' p → (∀ b, b ≠ p → H' b = H b) → Q (.ref p) H'
theorem fb__law_pot {P : Program} {w : World} {K : PySem.W.Frag} {mg : Str → Option Value} {base : Heap} (T : Env K mg) : ∃ fd, FunD K "_law_pot" "_law_pot" (defArgs s__law_pot) (defBody s__law_pot) (defScope s__law_pot) [] [] (He.ga K "_law_pot") fd ∧ Fb P w K mg base 1 (He.ga K "_law_pot") fd ["_law_script", "_law_k"] (sp__law_pot K) := by
  obtain ⟨fd, F⟩ := T.f__law_pot
  refine ⟨fd, F, fb_of F sc__law_pot (fun vs H Q E h => ?_) (fun cdv A outer s H vs Q E hr h => ?_)⟩
  · obtain ⟨a, ns, k, rfl, _⟩ := h
    rfl
  · obtain ⟨a, ns, k, rfl, hS, k0, k1, q⟩ := h
    refine ⟨_, (pss_cons (ps_set (i := 2) sc__law_pot.nd rfl (Or.inl rfl) pe_int)
      (Evl.pss_cut (ps_if (pt_cmpR op_lt (pv 1) (pe_callB call_len (by rfl) T.n_len (by decide +kernel) (pa_cons (pv 0) pa_nil)) (nomark _))
      (pss_one (ps_set (i := 2) sc__law_pot.nd rfl (Or.inl rfl) (pe_ix ix_list (pv 0) (pv 1) (fun _ _ => rfl))))
      pss_nil)
      (pss_one (ps_ret (pe_lst (pa_cons (pe_callB (call_max2 rfl) (by rfl) T.n_max (by decide +kernel) (pa_cons pe_int (pa_cons (pe_op op_sub (pv 2) (pe_op op_pow pe_int pe_int)) pa_nil))) (pa_cons (pe_op op_add (pe_op op_add (pe_op op_mod (pv 2) pe_int) (pe_op op_mul pe_int (pv 1))) pe_int) pa_nil))))))), ?_⟩
    refine ⟨fun σ' H' => H' = H ∧ ∃ cell : Int, σ' = [some (.ref a), some (.int k), some (.int cell)], ?_, ?_⟩
    · refine ⟨_, rfl, _, rfl, _, _, rfl, .inl ⟨_, hS, rfl⟩, _, _, rfl, rfl, _, rfl, ite2 (fun c => ?_) (fun c => ?_)⟩
      · have c2 : k < ((ns.map V.int).length : Int) := of_decide_eq_true c
        rw [List.length_map] at c2
        obtain ⟨i, rfl⟩ := Int.eq_ofNat_of_zero_le k0
        have hi : i < ns.length := Int.ofNat_lt.mp c2
        refine ⟨_, rfl, _, rfl, a, _, _, .int ns[i], rfl, rfl, hS, ?_, rfl, ns[i], rfl⟩
        exact atI_nat (by rw [List.getElem?_map, List.getElem?_eq_getElem hi]; rfl)
      · exact ⟨rfl, 0, rfl⟩
    · rintro σ' H' ⟨rfl, cell, rfl⟩
      have m1 := Int.emod_nonneg cell (show (2147483629 : Int) ≠ 0 by decide)
      have m2 := Int.emod_lt_of_pos cell (show (0 : Int) < 2147483629 by decide)
      refine ⟨_, rfl, _, _, rfl, rfl, ⟨by decide, by decide, by decide⟩, _, _, rfl, rfl, _, _, rfl, ?_⟩
      refine ⟨_, rfl, _, _, rfl, rfl, (by show (0 : Int) < 2147483629; decide), _, rfl, _, _, rfl, rfl, .inl (by decide), _, _, rfl, rfl, _, _, rfl, rfl, by show 2 ≤ sizeLine; decide, fun p hp => ?_⟩
      exact q p _ hp ⟨_, _, upd_same, by omega, by omega⟩ fun b n => upd_ne n
theorem ok__law_pot {P : Program} {w : World} {K : PySem.W.Frag} {mg : Str → Option Value} {base : Heap} (T : Env K mg) : Fc P w K mg base 1 (He.ga K "_law_pot") [] (sp__law_pot K ) := by
  obtain ⟨fd, D, F⟩ := fb__law_pot T
  exact F.all (D.bindsN fun _ _ _ _ _ _ us hl => match us, hl with | [_, _], _ => rfl)
end
section
/-- the pot at p is drawn from: everything else stays -/
def PotOn (H H' : Hp) (p : Addr) : Prop := Pot H' p ∧ ∀ b o, b ≠ p → H b = some o → H' b = some o
theorem PotOn.refl {H : Hp} {p : Addr} (h : Pot H p) : PotOn H H p := ⟨h, fun _ _ _ e => e⟩
theorem PotOn.trans {H H1 H2 : Hp} {p : Addr} (a : PotOn H H1 p) (b : PotOn H1 H2 p) : PotOn H H2 p := ⟨b.1, fun c o n e => b.2 c o n (a.2 c o n e)⟩
theorem pot_new {H H' : Hp} {p l : Addr} {o : HO} (P : PotOn H H' p) (n : H' l = none) : PotOn H (upd H' l o) p := by
  obtain ⟨⟨x, y, e, r⟩, k⟩ := P
  refine ⟨⟨x, y, by rw [upd_ne (ne_of_none e n)]; exact e, r⟩, fun b u nb h => ?_⟩
  rw [upd_ne (ne_of_none (k b u nb h) n)]
  exact k b u nb h
def sp__law_draw (K : PySem.W.Frag) : Sp := fun vs H Q _ => ∃ (p : Addr) (n : Int), vs = [.ref p, .int n] ∧ Pot H p ∧ 0 < n ∧ n < 1073741824 ∧ ∀ (d : Int) H', 0 ≤ d → d < n → PotOn H H' p → Q (.int d) H'
theorem fb__law_draw {P : Program} {w : World} {K : PySem.W.Frag} {mg : Str → Option Value} {base : Heap} (T : Env K mg) : ∃ fd, FunD K "_law_draw" "_law_draw" (defArgs s__law_draw) (defBody s__law_draw) (defScope s__law_draw) [] [] (He.ga K "_law_draw") fd ∧ Fb P w K mg base 1 (He.ga K "_law_draw") fd ["_law_pot_here", "_law_many"] (sp__law_draw K) := by
  obtain ⟨fd, F⟩ := T.f__law_draw
  refine ⟨fd, F, fb_of F sc__law_draw (fun vs H Q E h => ?_) (fun cdv A outer s H vs Q E hr h => ?_)⟩
  · obtain ⟨p, n, rfl, _⟩ := h
    rfl
  · obtain ⟨p, n, rfl, ⟨a, b, hp, b0, b1⟩, n0, n1, q⟩ := h
    refine ⟨_, (pss_cons (ps_if (pt_cmpR op_gt (pe_ix ix_list (pv 0) pe_int (fun _ _ => rfl)) pe_int (nomark _))
      (pss_cons (ps_asg (pe_callB call_divmodW (by rfl) T.n_divmod (by decide +kernel) (pa_cons (pe_ix ix_list (pv 0) pe_int (fun _ _ => rfl)) (pa_cons (pv 1) pa_nil))) (pg_tup (by rfl) (pgs_cons (pg_sub (pv 0) pe_int set_list) (pgs_cons (pg_name (i := 2) sc__law_draw.nd rfl (Or.inl rfl)) pgs_nil))))
      (pss_one (ps_ret (pv 2))))
      pss_nil)
      (pss_cons (ps_asg (pe_op op_mod (pe_op op_add (pe_op op_mul (pe_ix ix_list (pv 0) pe_int (fun _ _ => rfl)) pe_int) pe_int) pe_int) (pg_sub (pv 0) pe_int set_list))
      (pss_one (ps_ret (pe_op op_mod (pe_op op_fdiv (pe_op op_mod (pe_op op_mul (pe_ix ix_list (pv 0) pe_int (fun _ _ => rfl)) (pe_ix ix_list (pv 0) pe_int (fun _ _ => rfl))) pe_int) pe_int) (pv 1)))))), ?_⟩
    refine ⟨_, rfl, p, _, _, .int a, rfl, rfl, sq_lst hp, rfl, _, _, rfl, rfl, _, rfl, ite2 (fun _ => ?_) (fun _ => ?_)⟩
    · refine ⟨_, rfl, p, _, _, .int a, rfl, rfl, sq_lst hp, rfl, _, rfl, a, n, rfl, ⟨n0, PyProof.noPylong_small (by omega)⟩, fun t ht => ?_⟩
      have pt : p ≠ t := ne_of_none hp ht
      refine ⟨t, _, rfl, sq_tup upd_same, rfl, _, _, rfl, _, rfl, p, [.int a, .int b], 0, 0, rfl, rfl, (by rw [upd_ne pt]; exact hp), rfl, _, _, rfl, rfl, _, rfl, ?_⟩
      refine q _ _ (Int.emod_nonneg _ (by omega)) (Int.emod_lt_of_pos _ n0) ⟨⟨_, _, upd_same, b0, b1⟩, fun x o nx e => ?_⟩
      rw [upd_ne nx, upd_ne (ne_of_none e ht)]
      exact e
    · refine ⟨_, rfl, p, _, _, .int b, rfl, rfl, sq_lst hp, rfl, _, _, rfl, rfl, .inr (by decide), _, _, rfl, rfl, _, _, rfl, rfl, (by show (0 : Int) < 2147483629; decide), _, rfl, p, _, 1, 1, rfl, rfl, hp, rfl, ?_⟩
      have m1 := Int.emod_nonneg (b * 48271 + 8191) (show (2147483629 : Int) ≠ 0 by decide)
      have m2 := Int.emod_lt_of_pos (b * 48271 + 8191) (show (0 : Int) < 2147483629 by decide)
      refine ⟨_, rfl, p, _, _, .int ((b * 48271 + 8191) % 2147483629), rfl, rfl, sq_lst upd_same, rfl, _, rfl, p, _, _, .int ((b * 48271 + 8191) % 2147483629), rfl, rfl, sq_lst upd_same, rfl, _, _, rfl, rfl, .inl ⟨by omega, by omega⟩, _, _, rfl, rfl, (by show (0 : Int) < 2147483587; decide), _, _, rfl, rfl, ⟨by decide, by decide⟩, _, rfl, _, _, rfl, rfl, n0, ?_⟩
      refine q _ _ (Int.emod_nonneg _ (by omega)) (Int.emod_lt_of_pos _ n0) ⟨⟨_, _, upd_same, m1, by omega⟩, fun x o nx e => ?_⟩
      rw [upd_ne nx]
      exact e
theorem PotOn.ex {H0 H H' : Hp} {p : Addr} (e : Ex H0 H) (n : H0 p = none) (P : PotOn H H' p) : Ex H0 H' := fun b o h => P.2 b o (ne_of_none h n) (e b o h)
theorem PotOn.ex2 {H H1 H2 : Hp} {p : Addr} (P : PotOn H H1 p) (e : Ex H1 H2) : PotOn H H2 p := by
  obtain ⟨⟨x, y, h, r⟩, k⟩ := P
  exact ⟨⟨x, y, e _ _ h, r⟩, fun b u nb h => e _ _ (k b u nb h)⟩
theorem pot_ne {H H' : Hp} {p l : Addr} (P : PotOn H H' p) (n : H' l = none) : l ≠ p := fun z => by
  obtain ⟨_, _, e, _⟩ := P.1
  rw [z, e] at n
  cases n
theorem at_mem {xs : List V} {i : Int} (h0 : 0 ≤ i) (h1 : i < (xs.length : Nat)) : ∃ x, x ∈ xs ∧ atI xs i = some x := by
  obtain ⟨n, rfl⟩ := Int.eq_ofNat_of_zero_le h0
  have hn : n < xs.length := Int.ofNat_lt.mp h1
  exact ⟨xs[n], List.getElem_mem hn, atI_nat (List.getElem?_eq_getElem hn)⟩
theorem PotOn.fresh {H H' : Hp} {p b : Addr} (P : PotOn H H' p) (n : H' b = none) : H b = none := by
  cases e : H b with
  | none => rfl
  | some o =>
    by_cases hb : b = p
    · obtain ⟨_, _, e2, _⟩ := P.1
      rw [hb, e2] at n
      cases n
    · rw [P.2 b o hb e] at n
      cases n
theorem pot_other {H : Hp} {p b : Addr} {o : HO} (hp : Pot H p) (h : H b = some o) (ho : ∀ x y : Int, o ≠ .lst [.int x, .int y]) : b ≠ p := fun w => by
  obtain ⟨x, y, e, _⟩ := hp
  rw [w, e] at h
  exact ho x y (Option.some.inj h).symm
theorem ok__law_draw {P : Program} {w : World} {K : PySem.W.Frag} {mg : Str → Option Value} {base : Heap} (T : Env K mg) : Fc P w K mg base 1 (He.ga K "_law_draw") [] (sp__law_draw K ) := by
  obtain ⟨fd, D, F⟩ := fb__law_draw T
  exact F.all (D.bindsN fun _ _ _ _ _ _ us hl => match us, hl with | [_, _], _ => rfl)
end
section
mutual
/-- at a what a law has drawn for a short -/
def DtAt (H : Hp) : Tr → Addr → Prop
  | .at n, a => H a = some (.tup [.str "at", .int (n : Nat)])
  | .ov ps m s, a => ∃ r as, H a = some (.tup [.str "over", .ref r, .int (m : Nat), .int (s : Nat)]) ∧ H r = some (.tup (as.map V.ref)) ∧ DtsAt H ps as
def DtsAt (H : Hp) : List Tr → List Addr → Prop
  | [], as => as = []
  | t :: ts, as => ∃ a r, as = a :: r ∧ DtAt H t a ∧ DtsAt H ts r
end
mutual
theorem DtAt.keep {H H' : Hp} (e : ∀ b xs, H b = some (.tup xs) → H' b = some (.tup xs)) : ∀ {t : Tr} {a : Addr}, DtAt H t a → DtAt H' t a
  | .at n, a, h => by
    unfold DtAt at h ⊢
    exact e _ _ h
  | .ov ps m s, a, h => by
    unfold DtAt at h ⊢
    obtain ⟨r, as, h1, h2, h3⟩ := h
    exact ⟨r, as, e _ _ h1, e _ _ h2, DtsAt.keep e h3⟩
theorem DtsAt.keep {H H' : Hp} (e : ∀ b xs, H b = some (.tup xs) → H' b = some (.tup xs)) : ∀ {ts : List Tr} {as : List Addr}, DtsAt H ts as → DtsAt H' ts as
  | [], as, h => by
    unfold DtsAt at h ⊢
    exact h
  | t :: ts, as, h => by
    unfold DtsAt at h ⊢
    obtain ⟨a, r, h1, h2, h3⟩ := h
    exact ⟨a, r, h1, DtAt.keep e h2, DtsAt.keep e h3⟩
end
theorem DtAt.mono {H H' : Hp} {t : Tr} {a : Addr} (h : DtAt H t a) (e : Ex H H') : DtAt H' t a := h.keep fun b xs z => e _ _ z
theorem DtsAt.mono {H H' : Hp} {ts : List Tr} {as : List Addr} (h : DtsAt H ts as) (e : Ex H H') : DtsAt H' ts as := h.keep fun b xs z => e _ _ z
theorem DtsAt.len {H : Hp} : ∀ {ts : List Tr} {as : List Addr}, DtsAt H ts as → as.length = ts.length
  | [], as, h => by
    unfold DtsAt at h
    rw [h]
    rfl
  | t :: ts, as, h => by
    unfold DtsAt at h
    obtain ⟨a, r, rfl, _, h3⟩ := h
    rw [List.length_cons, List.length_cons, DtsAt.len h3]
theorem DtsAt.get {H : Hp} : ∀ {ts : List Tr} {as : List Addr} {i : Nat} {a : Addr}, DtsAt H ts as → as[i]? = some a → ∃ t, ts[i]? = some t ∧ DtAt H t a
  | [], as, i, a, h, hi => by
    unfold DtsAt at h
    rw [h] at hi
    cases hi
  | t :: ts, as, i, a, h, hi => by
    unfold DtsAt at h
    obtain ⟨b, r, rfl, h2, h3⟩ := h
    cases i with
    | zero =>
      cases hi
      exact ⟨t, rfl, h2⟩
    | succ i => exact DtsAt.get (i := i) h3 hi
theorem DtsAt.snoc {H : Hp} {t : Tr} {a : Addr} : ∀ {ts : List Tr} {as : List Addr}, DtsAt H ts as → DtAt H t a → DtsAt H (ts ++ [t]) (as ++ [a])
  | [], as, h, ha => by
    unfold DtsAt at h
    rw [h]
    show DtsAt H [t] [a]
    unfold DtsAt
    exact ⟨a, [], rfl, ha, by unfold DtsAt; rfl⟩
  | x :: ts, as, h, ha => by
    unfold DtsAt at h
    obtain ⟨b, r, rfl, h2, h3⟩ := h
    show DtsAt H (x :: (ts ++ [t])) (b :: (r ++ [a]))
    unfold DtsAt
    exact ⟨b, r ++ [a], rfl, h2, DtsAt.snoc h3 ha⟩
def sp__law_moments (K : PySem.W.Frag) (d : Nat) : Sp := fun vs H Q _ => ∃ (a : Addr) (t : Tr), vs = [.ref a] ∧ DtAt H t a ∧ t.nest + 1 ≤ d ∧ t.ok ∧ t.moms.length ≤ 1440 ∧ ∀ p H', Ex H H' → H p = none → H' p = some (.lst (natV t.moms)) → Q (.ref p) H'
end
section
def sp__law_row_moments (K : PySem.W.Frag) (d : Nat) : Sp := fun vs H Q _ => ∃ (p : Addr) (as : List Addr) (ts : List Tr), vs = [.ref p] ∧ H p = some (.tup (as.map V.ref)) ∧ DtsAt H ts as ∧ (∀ t ∈ ts, t.nest + 1 ≤ d) ∧ okL_ ts ∧ (momsL ts).length ≤ 1440 ∧ ∀ t H', Ex H H' → H t = none → H' t = some (.lst (natV (momsL ts))) → Q (.ref t) H'
theorem fb__law_row_moments {P : Program} {w : World} {K : PySem.W.Frag} {mg : Str → Option Value} {base : Heap} (T : Env K mg) {d L : Nat} (hL : 40 ≤ L) (r__law_moments : Fc P w K mg base L (He.ga K "_law_moments") [] (sp__law_moments K d)) : ∃ fd, FunD K "_law_row_moments" "_law_row_moments" (defArgs s__law_row_moments) (defBody s__law_row_moments) (defScope s__law_row_moments) [] [] (He.ga K "_law_row_moments") fd ∧ Fb P w K mg base (L + 1) (He.ga K "_law_row_moments") fd ["_law_row_here"] (sp__law_row_moments K (d)) := by
  obtain ⟨fd, F⟩ := T.f__law_row_moments
  refine ⟨fd, F, fb_of F sc__law_row_moments (fun vs H Q E h => ?_) (fun cdv A outer s H vs Q E hr h => ?_)⟩
  · obtain ⟨p, as, ts, rfl, _⟩ := h
    rfl
  · obtain ⟨p, as, ts, rfl, hp, hA, hn, hok, hl, q⟩ := h
    refine ⟨_, (pss_cons (ps_set (i := 1) sc__law_row_moments.nd rfl (Or.inl rfl) (pe_lst pa_nil))
      (pss_cons (ps_for (passes_of rfl) rfl (pi_tup (pv 0)) (pg_name (i := 2) sc__law_row_moments.nd rfl (Or.inl rfl))
      (pss_one (ps_expr (pe_bm PySem.F.plainAttrs_list PySem.F.slot_list_extend PySem.F.type_list_extend mt_extend (pv 1) (pa_cons (c_call r__law_moments (hr.mono (by omega)) T.g__law_moments T.k__law_moments takes0 (pa_cons (pv 2) pa_nil)) pa_nil)))))
      (pss_one (ps_ret (pv 1))))), ?_⟩
    refine ⟨by show 0 ≤ sizeLine; decide, fun f nf => ?_⟩
    have X0 := ex_new (o := .lst []) nf
    have hl1 := hA.len
    have pf : p ≠ f := ne_of_none hp nf
    refine ⟨_, rfl, p, rfl, ⟨_, sq_tup (X0 _ _ hp)⟩, for_on as V.ref L2.walk_tup (fun i σ H' => Oth f H H' ∧ ∃ v2, σ = [some (.ref p), some (.ref f), v2] ∧ H' f = some (.lst (natV (momsL (ts.take i))))) ⟨ex_oth X0, _, rfl, upd_same⟩ (fun i σ H' z => sq_tup (z.1 _ _ pf hp)) ?_ ?_⟩
    · rintro i a σ H2 hx ⟨O2, v2, rfl, hf⟩
      obtain ⟨t, ht, hS⟩ := hA.get hx
      have htm := List.mem_of_getElem? ht
      have X2 : Ex H H2 := fun b o e => O2 b o (ne_of_none e nf) e
      have eT := momsL_take ht
      have bT := momsL_take_len ts (i + 1)
      rw [eT, List.length_append] at bT
      refine ⟨_, rfl, .inl ⟨rfl, _, sq_lst hf⟩, _, rfl, a, t, rfl, hS.mono X2, hn t htm, okL_mem hok htm, by omega, fun u H3 X3 nu hu => ?_⟩
      refine ⟨f, u, _, _, rfl, rfl, X3 _ _ hf, hu, sz_le (by rw [natV_len, natV_len]; omega), (O2.trans (ex_oth X3)).upd, _, rfl, ?_⟩
      rw [upd_same, eT]
      unfold natV
      rw [List.map_append]
    · rintro σ H2 ⟨O2, v2, rfl, hf⟩
      rw [List.take_of_length_le (by omega)] at hf
      exact ⟨_, rfl, q f H2 (fun b o e => O2 b o (ne_of_none e nf) e) nf hf⟩
theorem ok__law_row_moments {P : Program} {w : World} {K : PySem.W.Frag} {mg : Str → Option Value} {base : Heap} (T : Env K mg) {d L : Nat} (hL : 40 ≤ L) (r__law_moments : Fc P w K mg base L (He.ga K "_law_moments") [] (sp__law_moments K d)) : Fc P w K mg base (L + 1) (He.ga K "_law_row_moments") [] (sp__law_row_moments K (d)) := by
  obtain ⟨fd, D, F⟩ := fb__law_row_moments T hL r__law_moments
  exact F.all (D.bindsN fun _ _ _ _ _ _ us hl => match us, hl with | [_], _ => rfl)
end
section
theorem fb__law_moments {P : Program} {w : World} {K : PySem.W.Frag} {mg : Str → Option Value} {base : Heap} (T : Env K mg) {d L : Nat} (hL : 40 ≤ L) (r__law_moments : Fc P w K mg base L (He.ga K "_law_moments") [] (sp__law_moments K d)) : ∃ fd, FunD K "_law_moments" "_law_moments" (defArgs s__law_moments) (defBody s__law_moments) (defScope s__law_moments) [] [] (He.ga K "_law_moments") fd ∧ Fb P w K mg base (L + 2) (He.ga K "_law_moments") fd ["_law_short_here"] (sp__law_moments K (d + 1)) := by
  obtain ⟨fd, F⟩ := T.f__law_moments
  refine ⟨fd, F, fb_of F sc__law_moments (fun vs H Q E h => ?_) (fun cdv A outer s H vs Q E hr h => ?_)⟩
  · obtain ⟨a, t, rfl, _⟩ := h
    rfl
  · obtain ⟨a, t, rfl, hD, hn, hok, hl, q⟩ := h
    refine ⟨_, (pss_cons (ps_if (pt_cmpR op_eq (pe_ix ix_tup (pv 0) pe_int (fun _ _ => rfl)) pe_str (nomark _))
      (pss_one (ps_ret (pe_lst (pa_cons (pe_ix ix_tup (pv 0) pe_int (fun _ _ => rfl)) pa_nil))))
      pss_nil)
      (pss_cons (ps_set (i := 1) sc__law_moments.nd rfl (Or.inl rfl) (c_call (ok__law_row_moments T hL r__law_moments) (hr.mono (by omega)) T.g__law_row_moments T.k__law_row_moments takes0 (pa_cons (pe_ix ix_tup (pv 0) pe_int (fun _ _ => rfl)) pa_nil)))
      (pss_cons (ps_set (i := 2) sc__law_moments.nd rfl (Or.inl rfl) (pe_lst pa_nil))
      (pss_cons (ps_for (passes_of rfl) rfl (pi_range1 (by rfl) T.n_range (pa_cons (pe_ix ix_tup (pv 0) pe_int (fun _ _ => rfl)) pa_nil)) (pg_name (i := 3) sc__law_moments.nd rfl (Or.inr rfl))
      (pss_one (ps_expr (pe_bm PySem.F.plainAttrs_list PySem.F.slot_list_extend PySem.F.type_list_extend mt_extend (pv 2) (pa_cons (pe_lc (own := [("_law_moment", 4)]) (by rfl) sc__law_moments.nd (pi_list (pv 1)) (blkOk_by (own := [("_law_moment", 4)]) (N := ["_law_short_here", "_law_own", "_law_found", "_law_time", "_law_moment"]) (sc := defScope s__law_moments) (by decide +kernel)) (fun _ _ _ _ _ => (pg_name (i := 4) sc__law_moments.nd rfl (Or.inl rfl))) (fun _ _ _ _ _ => pts_nil) (fun _ _ _ _ _ => (pe_op op_add (pv 4) (pe_op op_mul (pv 3) (pe_ix (ix_tupK K) (pv 0) pe_int (fun _ _ => rfl)))))) pa_nil)))))
      (pss_one (ps_ret (pv 2))))))), ?_⟩
    cases t with
    | «at» n =>
      unfold DtAt at hD
      refine ⟨_, rfl, a, _, 0, _, rfl, rfl, sq_tup hD, rfl, rfl, _, rfl, iteT ?_⟩
      refine ⟨_, rfl, a, _, 1, _, rfl, rfl, sq_tup hD, rfl, by show 1 ≤ sizeLine; decide, fun p np => q p _ (ex_new np) np ?_⟩
      rw [upd_same]
      unfold Tr.moms
      rfl
    | ov ps m s_ =>
      unfold DtAt at hD
      obtain ⟨r, as, hD, hr2, hA⟩ := hD
      obtain ⟨_, m2, hm, hml, hl2, hpl, hokL⟩ := ov_facts hok
      unfold Tr.moms at q
      refine ⟨_, rfl, a, _, 0, _, rfl, rfl, sq_tup hD, rfl, rfl, _, rfl, iteF ?_⟩
      generalize hns : momsL ps = ns at *
      refine ⟨_, rfl, a, _, 1, _, rfl, rfl, sq_tup hD, rfl, r, as, ps, rfl, hr2, hA, fun t ht => ?_, hokL, by rw [hns]; exact hl2, fun w H1 X1 nw hw => ?_⟩
      · have := nestL_mem ht
        unfold Tr.nest at hn
        omega
      rw [hns] at hw
      refine ⟨by show 0 ≤ sizeLine; decide, fun f nf => ?_⟩
      have nf0 := ex_fresh X1 nf
      have X2 := X1.trans (ex_new (o := .lst []) nf)
      have wf : w ≠ f := ne_of_none hw nf
      have af : a ≠ f := ne_of_none hD nf0
      have ha2 := X2 _ _ hD
      have hw2 := ex_new (o := .lst []) nf _ _ hw
      have hf2 : upd H1 f (.lst []) f = some (.lst []) := upd_same
      generalize upd H1 f (.lst []) = H2 at X2 ha2 hw2 hf2 ⊢
      refine ⟨_, rfl, a, _, 2, _, rfl, rfl, sq_tup ha2, rfl, _, rfl, by omega, by omega, for_range (fun i σ H' => Oth f H2 H' ∧ ∃ v3 v4, σ = [some (.ref a), some (.ref w), some (.ref f), v3, v4] ∧ H' f = some (.lst (natV (overN ns i s_)))) ⟨Oth.refl _ _, _, _, rfl, hf2⟩ ?_ ?_⟩
      · rintro i σ H3 hi ⟨O3, v3, v4, rfl, hf3⟩
        have hi2 : i < m := by omega
        have hw3 := O3 _ _ wf hw2
        have ha3 := O3 _ _ af ha2
        have ll : (overN ns i s_).length = i * ns.length := overN_len ns i s_
        have l2 : i * ns.length ≤ m * ns.length := Nat.mul_le_mul_right _ (by omega)
        refine ⟨_, rfl, .inl ⟨rfl, _, sq_lst hf3⟩, _, rfl, w, rfl, ⟨_, sq_lst hw3⟩, fun A nA => lc_on ns (fun n : Nat => V.int n) L2.walk_list (fun n => some (.int ((n + i * s_ : Nat) : Int))) (fun H' => Ex H3 H') (fun H' z e => ex_mut e nA) (.refl _) (by omega) (fun H' e => sq_lst (e _ _ hw3)) (fun j n H4 acc N hn X4 hD la k => ?_) fun H4 X4 d4 => ?_⟩
        · refine ⟨rfl, _, rfl, _, rfl, _, rfl, a, _, 3, _, rfl, rfl, sq_tup (X4 _ _ ha3), rfl, _, _, rfl, rfl, .inl ⟨by omega, by omega⟩, _, _, rfl, rfl, acc, hD, la, ?_⟩
          have e : ((n : Nat) : Int) + (0 + ((i : Nat) : Int)) * ((s_ : Nat) : Int) = ((n + i * s_ : Nat) : Int) := by simp
          show N (upd H4 A (.lst (acc ++ [.int (((n : Nat) : Int) + (0 + ((i : Nat) : Int)) * ((s_ : Nat) : Int))])))
          rw [e]
          exact k H4 X4 hD
        · have ed : ns.filterMap (fun n => some (V.int ((n + i * s_ : Nat) : Int))) = natV (ns.map fun n => n + i * s_) := by
            unfold natV
            rw [List.filterMap_eq_map', List.map_map]
            rfl
          rw [ed] at d4
          refine ⟨f, A, _, _, rfl, rfl, X4 _ _ hf3, d4, sz_le (by rw [natV_len, natV_len, List.length_map, ll]; omega), (O3.trans (ex_oth X4)).upd, _, _, rfl, ?_⟩
          rw [upd_same, overN_succ]
          unfold natV
          rw [List.map_append]
      · rintro σ H3 ⟨O3, v3, v4, rfl, hf3⟩
        rw [show ((m : Nat) : Int).toNat = m by omega] at hf3
        exact ⟨_, rfl, q f H3 (Oth.ex X2 nf0 O3) nf0 hf3⟩
theorem ok__law_moments {P : Program} {w : World} {K : PySem.W.Frag} {mg : Str → Option Value} {base : Heap} (T : Env K mg) {d L : Nat} (hL : 40 ≤ L) (r__law_moments : Fc P w K mg base L (He.ga K "_law_moments") [] (sp__law_moments K d)) : Fc P w K mg base (L + 2) (He.ga K "_law_moments") [] (sp__law_moments K (d + 1)) := by
  obtain ⟨fd, D, F⟩ := fb__law_moments T hL r__law_moments
  exact F.all (D.bindsN fun _ _ _ _ _ _ us hl => match us, hl with | [_], _ => rfl)
theorem all__law_moments {P : Program} {w : World} {K : PySem.W.Frag} {mg : Str → Option Value} {base : Heap} (T : Env K mg) : ∀ d, Fc P w K mg base (40 + 2 * d) (He.ga K "_law_moments") [] (sp__law_moments K d)
  | 0 => fc_no fun vs H Q E h => by
    obtain ⟨a, t, _, _, h, _⟩ := h
    omega
  | d + 1 => ok__law_moments T (Nat.le_add_right 40 _) (all__law_moments T d)
end
section
def sp__law_wide (K : PySem.W.Frag) : Sp := fun vs H Q _ => ∃ p, vs = [.ref p] ∧ Pot H p ∧ ∀ (n : Nat) H', n < 10 ^ 50 → PotOn H H' p → Q (.int (n : Nat)) H'
theorem fb__law_wide {P : Program} {w : World} {K : PySem.W.Frag} {mg : Str → Option Value} {base : Heap} (T : Env K mg) : ∃ fd, FunD K "_law_wide" "_law_wide" (defArgs s__law_wide) (defBody s__law_wide) (defScope s__law_wide) [] [] (He.ga K "_law_wide") fd ∧ Fb P w K mg base 2 (He.ga K "_law_wide") fd ["_law_pot_here"] (sp__law_wide K) := by
  obtain ⟨fd, F⟩ := T.f__law_wide
  refine ⟨fd, F, fb_of F sc__law_wide (fun vs H Q E h => ?_) (fun cdv A outer s H vs Q E hr h => ?_)⟩
  · obtain ⟨p, rfl, _⟩ := h
    rfl
  · obtain ⟨p, rfl, hp, q⟩ := h
    refine ⟨_, (pss_cons (ps_set (i := 1) sc__law_wide.nd rfl (Or.inl rfl) pe_int)
      (pss_cons (ps_for (passes_of rfl) rfl (pi_range1 (by rfl) T.n_range (pa_cons pe_int pa_nil)) (pg_name (i := 2) sc__law_wide.nd rfl (Or.inl rfl))
      (pss_one (ps_set (i := 1) sc__law_wide.nd rfl (Or.inl rfl) (pe_op op_add (pe_op op_mul (pv 1) (pe_op op_pow pe_int pe_int)) (c_call (ok__law_draw T) (hr.mono (by decide)) T.g__law_draw T.k__law_draw takes0 (pa_cons (pv 0) (pa_cons (pe_op op_pow pe_int pe_int) pa_nil)))))))
      (pss_one (ps_ret (pe_op op_mod (pv 1) (pe_op op_pow pe_int pe_int)))))), ?_⟩
    refine ⟨_, rfl, by decide, by decide, for_range (fun i σ H' => PotOn H H' p ∧ ∃ (f : Nat) (v3 : Option V), σ = [some (.ref p), some (.int (f : Nat)), v3]) ⟨.refl hp, 0, _, rfl⟩ ?_ ?_⟩
    · rintro i σ H2 hi ⟨P2, f, v3, rfl⟩
      refine ⟨_, rfl, _, _, rfl, rfl, ⟨by decide, by decide, by decide⟩, _, _, rfl, rfl, .inr (by decide), _, rfl, _, _, rfl, rfl, ⟨by decide, by decide, by decide⟩, p, _, rfl, P2.1, by decide, by decide, fun d H3 d0 d1 P3 => ⟨_, _, rfl, rfl, P2.trans P3, ?_⟩⟩
      obtain ⟨n, rfl⟩ := Int.eq_ofNat_of_zero_le d0
      refine ⟨f * 10 ^ 9 + n, some (.int (0 + (i : Nat))), ?_⟩
      have e : ((f * 10 ^ 9 + n : Nat) : Int) = ((f : Nat) : Int) * (10 : Int) ^ (9 : Int).toNat + ((n : Nat) : Int) := by
        rw [Int.natCast_add, Int.natCast_mul]
        rfl
      rw [e]
      rfl
    · rintro σ H2 ⟨P2, f, v3, rfl⟩
      refine ⟨_, rfl, _, _, rfl, rfl, ⟨by decide, by decide, by decide⟩, _, _, rfl, rfl, (by show (0 : Int) < 10 ^ 50; decide), ?_⟩
      have e : ((f : Nat) : Int) % (10 : Int) ^ (50 : Int).toNat = ((f % 10 ^ 50 : Nat) : Int) := by
        rw [Int.natCast_emod]
        rfl
      show Q (.int (((f : Nat) : Int) % (10 : Int) ^ (50 : Int).toNat)) H2
      rw [e]
      exact q _ H2 (Nat.mod_lt _ (by decide +kernel)) P2
theorem ok__law_wide {P : Program} {w : World} {K : PySem.W.Frag} {mg : Str → Option Value} {base : Heap} (T : Env K mg) : Fc P w K mg base 2 (He.ga K "_law_wide") [] (sp__law_wide K ) := by
  obtain ⟨fd, D, F⟩ := fb__law_wide T
  exact F.all (D.bindsN fun _ _ _ _ _ _ us hl => match us, hl with | [_], _ => rfl)
end
section
def sp__law_gap (K : PySem.W.Frag) : Sp := fun vs H Q _ => ∃ p, vs = [.ref p] ∧ Pot H p ∧ ∀ (n : Nat) H', n < 10 ^ 50 → PotOn H H' p → Q (.int (n : Nat)) H'
theorem fb__law_gap {P : Program} {w : World} {K : PySem.W.Frag} {mg : Str → Option Value} {base : Heap} (T : Env K mg) : ∃ fd, FunD K "_law_gap" "_law_gap" (defArgs s__law_gap) (defBody s__law_gap) (defScope s__law_gap) [] [] (He.ga K "_law_gap") fd ∧ Fb P w K mg base 3 (He.ga K "_law_gap") fd ["_law_pot_here"] (sp__law_gap K) := by
  obtain ⟨fd, F⟩ := T.f__law_gap
  refine ⟨fd, F, fb_of F sc__law_gap (fun vs H Q E h => ?_) (fun cdv A outer s H vs Q E hr h => ?_)⟩
  · obtain ⟨p, rfl, _⟩ := h
    rfl
  · obtain ⟨p, rfl, hp, q⟩ := h
    refine ⟨_, (pss_cons (ps_set (i := 1) sc__law_gap.nd rfl (Or.inl rfl) (c_call (ok__law_draw T) (hr.mono (by decide)) T.g__law_draw T.k__law_draw takes0 (pa_cons (pv 0) (pa_cons pe_int pa_nil))))
      (pss_cons (ps_if (pt_cmpR op_lt (pv 1) pe_int (nomark _))
      (pss_one (ps_ret pe_int))
      pss_nil)
      (pss_cons (ps_if (pt_cmpR op_lt (pv 1) pe_int (nomark _))
      (pss_one (ps_ret (c_call (ok__law_draw T) (hr.mono (by decide)) T.g__law_draw T.k__law_draw takes0 (pa_cons (pv 0) (pa_cons pe_int pa_nil)))))
      pss_nil)
      (pss_cons (ps_if (pt_cmpR op_eq (pv 1) pe_int (nomark _))
      (pss_one (ps_ret (pe_op op_mul pe_int (c_call (ok__law_draw T) (hr.mono (by decide)) T.g__law_draw T.k__law_draw takes0 (pa_cons (pv 0) (pa_cons pe_int pa_nil))))))
      pss_nil)
      (pss_cons (ps_if (pt_cmpR op_eq (pv 1) pe_int (nomark _))
      (pss_one (ps_ret (c_call (ok__law_draw T) (hr.mono (by decide)) T.g__law_draw T.k__law_draw takes0 (pa_cons (pv 0) (pa_cons pe_int pa_nil)))))
      pss_nil)
      (pss_cons (ps_if (pt_cmpR op_eq (pv 1) pe_int (nomark _))
      (pss_one (ps_ret (pe_op op_mul pe_int (c_call (ok__law_draw T) (hr.mono (by decide)) T.g__law_draw T.k__law_draw takes0 (pa_cons (pv 0) (pa_cons pe_int pa_nil))))))
      pss_nil)
      (pss_one (ps_ret (c_call (ok__law_wide T) (hr.mono (by decide)) T.g__law_wide T.k__law_wide takes0 (pa_cons (pv 0) pa_nil)))))))))), ?_⟩
    have big : ∀ {n : Nat}, n ≤ 1000000 → n < 10 ^ 50 := fun {n} h => Nat.lt_of_le_of_lt h (by decide +kernel)
    refine ⟨_, rfl, p, 9, rfl, hp, by decide, by decide, fun way H1 w0 w1 P1 => ?_⟩
    refine ⟨_, rfl, _, _, rfl, rfl, _, rfl, ite2 (fun _ => ?_) (fun _ => ?_)⟩
    · exact q 0 H1 (by decide +kernel) P1
    refine ⟨_, rfl, _, _, rfl, rfl, _, rfl, ite2 (fun _ => ?_) (fun _ => ?_)⟩
    · refine ⟨_, rfl, p, 6, rfl, P1.1, by decide, by decide, fun d H2 d0 d1 P2 => ?_⟩
      obtain ⟨n, rfl⟩ := Int.eq_ofNat_of_zero_le d0
      exact q n H2 (big (by omega)) (P1.trans P2)
    refine ⟨_, rfl, rfl, _, rfl, ite2 (fun _ => ?_) (fun _ => ?_)⟩
    · refine ⟨_, rfl, p, 24, rfl, P1.1, by decide, by decide, fun d H2 d0 d1 P2 => ⟨_, _, rfl, rfl, .inl (by decide), ?_⟩⟩
      obtain ⟨n, rfl⟩ := Int.eq_ofNat_of_zero_le d0
      have e : (60 : Int) * ((n : Nat) : Int) = ((60 * n : Nat) : Int) := by omega
      show Q (.int ((60 : Int) * ((n : Nat) : Int))) H2
      rw [e]
      exact q _ H2 (big (by omega)) (P1.trans P2)
    refine ⟨_, rfl, rfl, _, rfl, ite2 (fun _ => ?_) (fun _ => ?_)⟩
    · refine ⟨_, rfl, p, 1440, rfl, P1.1, by decide, by decide, fun d H2 d0 d1 P2 => ?_⟩
      obtain ⟨n, rfl⟩ := Int.eq_ofNat_of_zero_le d0
      exact q n H2 (big (by omega)) (P1.trans P2)
    refine ⟨_, rfl, rfl, _, rfl, ite2 (fun _ => ?_) (fun _ => ?_)⟩
    · refine ⟨_, rfl, p, 100, rfl, P1.1, by decide, by decide, fun d H2 d0 d1 P2 => ⟨_, _, rfl, rfl, .inl (by decide), ?_⟩⟩
      obtain ⟨n, rfl⟩ := Int.eq_ofNat_of_zero_le d0
      have e : (1440 : Int) * ((n : Nat) : Int) = ((1440 * n : Nat) : Int) := by omega
      show Q (.int ((1440 : Int) * ((n : Nat) : Int))) H2
      rw [e]
      exact q _ H2 (big (by omega)) (P1.trans P2)
    exact ⟨_, rfl, p, rfl, P1.1, fun n H2 hn P2 => q n H2 hn (P1.trans P2)⟩
theorem ok__law_gap {P : Program} {w : World} {K : PySem.W.Frag} {mg : Str → Option Value} {base : Heap} (T : Env K mg) : Fc P w K mg base 3 (He.ga K "_law_gap") [] (sp__law_gap K ) := by
  obtain ⟨fd, D, F⟩ := fb__law_gap T
  exact F.all (D.bindsN fun _ _ _ _ _ _ us hl => match us, hl with | [_], _ => rfl)
end
section
/-- the pot at p and the list at l are drawn from: everything else stays -/
def PotL (H H' : Hp) (p l : Addr) : Prop := Pot H' p ∧ ∀ b o, b ≠ p → b ≠ l → H b = some o → H' b = some o
theorem PotL.refl {H : Hp} {p l : Addr} (h : Pot H p) : PotL H H p l := ⟨h, fun _ _ _ _ e => e⟩
theorem PotL.trans {H H1 H2 : Hp} {p l : Addr} (a : PotL H H1 p l) (b : PotL H1 H2 p l) : PotL H H2 p l := ⟨b.1, fun c o n1 n2 e => b.2 c o n1 n2 (a.2 c o n1 n2 e)⟩
theorem PotL.on {H H1 H2 : Hp} {p l : Addr} (a : PotL H H1 p l) (b : PotOn H1 H2 p) : PotL H H2 p l := ⟨b.1, fun c o n1 n2 e => b.2 c o n1 (a.2 c o n1 n2 e)⟩
theorem PotL.ex {H H1 H2 : Hp} {p l : Addr} (a : PotL H H1 p l) (e : Ex H1 H2) : PotL H H2 p l := by
  obtain ⟨⟨x, y, h, r⟩, k⟩ := a
  exact ⟨⟨x, y, e _ _ h, r⟩, fun b o n1 n2 h => e _ _ (k b o n1 n2 h)⟩
theorem PotL.put {H H1 : Hp} {p l : Addr} {o : HO} (a : PotL H H1 p l) (n : l ≠ p) : PotL H (upd H1 l o) p l := by
  obtain ⟨⟨x, y, h, r⟩, k⟩ := a
  refine ⟨⟨x, y, by rw [upd_ne (Ne.symm n)]; exact h, r⟩, fun b u n1 n2 h => ?_⟩
  rw [upd_ne n2]
  exact k b u n1 n2 h
theorem PotL.put2 {H H1 : Hp} {p l f : Addr} {o : HO} (a : PotL H H1 p l) (nf : H f = none) (n : f ≠ p) : PotL H (upd H1 f o) p l := by
  obtain ⟨⟨x, y, h, r⟩, k⟩ := a
  refine ⟨⟨x, y, by rw [upd_ne (Ne.symm n)]; exact h, r⟩, fun b u n1 n2 h => ?_⟩
  rw [upd_ne (ne_of_none h nf)]
  exact k b u n1 n2 h
theorem potL_ne {H H' : Hp} {p l f : Addr} (P : PotL H H' p l) (n : H' f = none) : f ≠ p := fun z => by
  obtain ⟨_, _, e, _⟩ := P.1
  rw [z, e] at n
  cases n
/-- tuples stay -/
theorem PotL.tup {H H' : Hp} {p l : Addr} {ys : List V} (hp : Pot H p) (hl : H l = some (.lst ys)) (P : PotL H H' p l) : ∀ b xs, H b = some (.tup xs) → H' b = some (.tup xs) := fun b xs e => by
  obtain ⟨x, y, h, _⟩ := hp
  exact P.2 _ _ (fun z => by rw [z, h] at e; cases e) (fun z => by rw [z, hl] at e; cases e) e
def sp__law_short (K : PySem.W.Frag) (d : Nat) : Sp := fun vs H Q _ => ∃ (p l : Addr) (at_ room deep : Nat) (k : Int), vs = [.ref p, .int (at_ : Nat), .int (room : Nat), .int (deep : Nat), .ref l] ∧ Pot H p ∧ H l = some (.lst [.int k]) ∧ l ≠ p ∧ 1 ≤ room ∧ room ≤ 1440 ∧ deep ≤ 8 ∧ deep + 1 ≤ d ∧ 1 ≤ k ∧ ∀ (a : Addr) (t : Tr) (k' : Int) H', DtAt H' t a → 0 ≤ k' → (t.pcs : Int) + k' ≤ k → t.ok → t.nest ≤ deep → t.moms.headD 0 = at_ → t.moms.length ≤ room → t.moms.getLastD 0 + 1 ≤ at_ + t.moms.length * ((2 * deep + 1) * GAP) → H' l = some (.lst [.int k']) → PotL H H' p l → Q (.ref a) H'
def sp__law_row (K : PySem.W.Frag) (d : Nat) : Sp := fun vs H Q _ => ∃ (p l : Addr) (at_ room deep : Nat) (k : Int), vs = [.ref p, .int (at_ : Nat), .int (room : Nat), .int (deep : Nat), .ref l] ∧ Pot H p ∧ H l = some (.lst [.int k]) ∧ l ≠ p ∧ 1 ≤ room ∧ room ≤ 1440 ∧ deep ≤ 8 ∧ deep + 1 ≤ d ∧ 1 ≤ k ∧ ∀ (r : Addr) (as : List Addr) (ts : List Tr) (k' : Int) H', 0 ≤ k' → (pcsL ts : Int) + k' ≤ k → H' r = some (.tup (as.map V.ref)) → DtsAt H' ts as → ts ≠ [] → okL_ ts → (∀ t ∈ ts, t.nest ≤ deep) → risB ts = true → (momsL ts).headD 0 = at_ → (momsL ts).length ≤ room → (momsL ts).getLastD 0 + 1 ≤ at_ + (momsL ts).length * ((2 * deep + 2) * GAP) → H' l = some (.lst [.int k']) → PotL H H' p l → Q (.ref r) H'
theorem tup_on {H H' : Hp} {p : Addr} (hp : Pot H p) (P : PotOn H H' p) : ∀ b xs, H b = some (.tup xs) → H' b = some (.tup xs) := fun b xs e => P.2 _ _ (pot_other hp e (fun _ _ z => by cases z)) e
theorem tup_upd {H : Hp} {f : Addr} {ys : List V} {o : HO} (hf : H f = some (.lst ys)) : ∀ b xs, H b = some (.tup xs) → upd H f o b = some (.tup xs) := fun b xs e => by
  rw [upd_ne (fun z => by rw [z, hf] at e; cases e)]
  exact e
end
section
theorem fb__law_row {P : Program} {w : World} {K : PySem.W.Frag} {mg : Str → Option Value} {base : Heap} (T : Env K mg) {d L : Nat} (hL : 60 ≤ L) (r__law_short : Fc P w K mg base L (He.ga K "_law_short") [] (sp__law_short K d)) : ∃ fd, FunD K "_law_row" "_law_row" (defArgs s__law_row) (defBody s__law_row) (defScope s__law_row) [] [] (He.ga K "_law_row") fd ∧ Fb P w K mg base (L + 1) (He.ga K "_law_row") fd ["_law_pot_here", "_law_at", "_law_room", "_law_deep", "_law_left"] (sp__law_row K (d)) := by
  obtain ⟨fd, F⟩ := T.f__law_row
  refine ⟨fd, F, fb_of F sc__law_row (fun vs H Q E h => ?_) (fun cdv A outer s H vs Q E hr h => ?_)⟩
  · obtain ⟨p, l, at_, room, deep, k, rfl, _⟩ := h
    rfl
  · obtain ⟨p, l, at_, room, deep, k, rfl, hp, hl, lp, r1, r2, d8, dd, k1, q⟩ := h
    refine ⟨_, (pss_cons (ps_set (i := 5) sc__law_row.nd rfl (Or.inl rfl) (pe_lst pa_nil))
      (pss_cons (ps_set (i := 6) sc__law_row.nd rfl (Or.inl rfl) (pv 1))
      (pss_cons (ps_set (i := 7) sc__law_row.nd rfl (Or.inl rfl) (pe_op op_add pe_int (c_call (ok__law_draw T) (hr.mono (by omega)) T.g__law_draw T.k__law_draw takes0 (pa_cons (pv 0) (pa_cons (pe_callB (call_min2 rfl) (by rfl) T.n_min (by decide +kernel) (pa_cons pe_int (pa_cons (pv 2) pa_nil))) pa_nil)))))
      (pss_cons (ps_for (passes_of rfl) rfl (pi_range1 (by rfl) T.n_range (pa_cons (pv 7) pa_nil)) (pg_name (i := 8) sc__law_row.nd rfl (Or.inl rfl))
      (pss_one (ps_if (PW.pt (pw_or (pt_cmpR op_eq (pv 8) pe_int (nomark _)) (pw_or1 (pt_cmpR op_gt (pe_ix ix_list (pv 4) pe_int (fun _ _ => rfl)) pe_int (nomark _)))))
      (pss_cons (ps_set (i := 9) sc__law_row.nd rfl (Or.inl rfl) (c_call r__law_short (hr.mono (by omega)) T.g__law_short T.k__law_short takes0 (pa_cons (pv 0) (pa_cons (pv 6) (pa_cons (pe_op op_fdiv (pv 2) (pv 7)) (pa_cons (pv 3) (pa_cons (pv 4) pa_nil)))))))
      (pss_cons (ps_expr (pe_bm PySem.F.plainAttrs_list PySem.F.slot_list_append PySem.F.type_list_append mt_append (pv 5) (pa_cons (pv 9) pa_nil)))
      (pss_one (ps_set (i := 6) sc__law_row.nd rfl (Or.inl rfl) (pe_op op_add (pe_op op_add (pe_ix ix_list (c_call (all__law_moments T 9) (hr.mono (by omega)) T.g__law_moments T.k__law_moments takes0 (pa_cons (pv 9) pa_nil)) (pe_un un_neg pe_int) (fun _ _ => rfl)) pe_int) (c_call (ok__law_gap T) (hr.mono (by omega)) T.g__law_gap T.k__law_gap takes0 (pa_cons (pv 0) pa_nil)))))))
      pss_nil)))
      (pss_one (ps_ret (pe_callTy call_tuple_of (by rfl) T.n_tuple (by decide +kernel) (pa_cons (pv 5) pa_nil)))))))), ?_⟩
    refine ⟨by show 0 ≤ sizeLine; decide, fun f nf => ?_⟩
    have fp : f ≠ p := potL_ne (.refl hp (l := l)) nf
    have fl : f ≠ l := fun z => by rw [z, hl] at nf; cases nf
    have P1 : PotL H (upd H f (.lst [])) p l := (PotL.refl hp).ex (ex_new nf)
    have hf1 : upd H f (.lst []) f = some (.lst []) := upd_same
    have hl1 : upd H f (.lst []) l = some (.lst [.int k]) := ex_new nf _ _ hl
    generalize upd H f (.lst []) = H1 at P1 hf1 hl1 ⊢
    refine ⟨_, rfl, ?_⟩
    have em : (if ((room : Nat) : Int) < 3 then ((room : Nat) : Int) else 3) = ((min 3 room : Nat) : Int) := by split <;> omega
    refine ⟨_, rfl, _, rfl, _, _, rfl, p, _, rfl, P1.1, by rw [em]; omega, by rw [em]; omega, fun dv H2 d0 d1 P2 => ⟨_, _, rfl, rfl, ?_⟩⟩
    rw [em] at d1
    obtain ⟨e, rfl⟩ := Int.eq_ofNat_of_zero_le d0
    obtain ⟨mny, hmny⟩ : ∃ n : Nat, n = 1 + e := ⟨_, rfl⟩
    have e1 : (1 : Int) + ((e : Nat) : Int) = ((mny : Nat) : Int) := by omega
    have mn1 : 1 ≤ mny ∧ mny ≤ 3 ∧ mny ≤ room := by omega
    have P2' := P1.on P2
    have rq : 1 ≤ room / mny := (Nat.le_div_iff_mul_le (by omega)).mpr (by omega)
    have rq2 : room / mny ≤ 1440 := Nat.le_trans (Nat.div_le_self _ _) r2
    have rq3 : mny * (room / mny) ≤ room := Nat.mul_div_le _ _
    obtain ⟨W, hW⟩ : ∃ W, W = (2 * deep + 1) * GAP := ⟨_, rfl⟩
    have hW2 : (2 * deep + 2) * GAP = W + GAP := by rw [hW, ← Nat.succ_mul]
    refine ⟨_, rfl, _, rfl, by show -(2 ^ 62) ≤ (1 : Int) + ((e : Nat) : Int); omega, by show (1 : Int) + ((e : Nat) : Int) < 2 ^ 62; omega, for_range (fun i σ H' => PotL H H' p l ∧ ∃ (ts : List Tr) (as : List Addr) (here : Nat) (k' : Int) (v8 v9 : Option V), H' f = some (.lst (as.map V.ref)) ∧ DtsAt H' ts as ∧ okL_ ts ∧ (∀ t ∈ ts, t.nest ≤ deep) ∧ risB ts = true ∧ (i = 0 → ts = [] ∧ here = at_) ∧ (0 < i → ts ≠ []) ∧ (ts ≠ [] → (momsL ts).headD 0 = at_ ∧ (momsL ts).getLastD 0 < here ∧ (momsL ts).getLastD 0 + 1 ≤ at_ + (momsL ts).length * (W + GAP)) ∧ here ≤ at_ + (momsL ts).length * (W + GAP) ∧ (momsL ts).length ≤ i * (room / mny) ∧ ts.length ≤ i ∧ 0 ≤ k' ∧ (pcsL ts : Int) + k' ≤ k ∧ (i = 0 → k' = k) ∧ H' l = some (.lst [.int k']) ∧ σ = [some (.ref p), some (.int (at_ : Nat)), some (.int (room : Nat)), some (.int (deep : Nat)), some (.ref l), some (.ref f), some (.int (here : Nat)), some (.int ((1 : Int) + ((e : Nat) : Int))), v8, v9]) ⟨P2', [], [], at_, k, _, _, P2.2 _ _ fp hf1, by unfold DtsAt; rfl, by unfold okL_; trivial, (fun t z => nomatch z), rfl, fun _ => ⟨rfl, rfl⟩, fun z => absurd z (Nat.lt_irrefl _), fun z => absurd rfl z, by omega, Nat.zero_le _, Nat.le_refl _, by omega, by simp [pcsL], fun _ => rfl, P2.2 _ _ lp hl1, rfl⟩ ?_ ?_⟩
    · rintro i σ H3 hi ⟨P3, ts, as, here, k', v8, v9, hf, hD, hok, hne, hri, hi0, hi1, hfa, hhe, hle, htl, kz, kp, ki, hl3, rfl⟩
      have hi' : i < mny := by omega
      have draw : 1 ≤ k' → (tSeq (tAsg (tFc (sp__law_short K d) (fun _ _ _ _ => False) (tCons (tVar 0) (tCons (tVar 6) (tCons (tOp (rI CDiv fun i j => V.int (i / j)) (tVar 2) (tVar 7)) (tCons (tVar 3) (tCons (tVar 4) tNil)))))) (gName 9)) (tSeq (tDrop (tBM K "list" rAppend (tVar 5) (tCons (tVar 9) tNil))) (tAsg (tOp (rI0 fun i j => V.int (i + j)) (tOp (rI0 fun i j => V.int (i + j)) (tOp (rIxL K) (tFc (sp__law_moments K 9) (fun _ _ _ _ => False) (tCons (tVar 9) tNil)) (tUn (rU fun i => V.int (-i)) (tC (V.int 1)))) (tC (V.int 1))) (tFc (sp__law_gap K) (fun _ _ _ _ => False) (tCons (tVar 0) tNil))) (gName 6)))) { nx := fun σ H' => PotL H H' p l ∧ ∃ (ts : List Tr) (as : List Addr) (here : Nat) (k' : Int) (v8 v9 : Option V), H' f = some (.lst (as.map V.ref)) ∧ DtsAt H' ts as ∧ okL_ ts ∧ (∀ t ∈ ts, t.nest ≤ deep) ∧ risB ts = true ∧ (i + 1 = 0 → ts = [] ∧ here = at_) ∧ (0 < i + 1 → ts ≠ []) ∧ (ts ≠ [] → (momsL ts).headD 0 = at_ ∧ (momsL ts).getLastD 0 < here ∧ (momsL ts).getLastD 0 + 1 ≤ at_ + (momsL ts).length * (W + GAP)) ∧ here ≤ at_ + (momsL ts).length * (W + GAP) ∧ (momsL ts).length ≤ (i + 1) * (room / mny) ∧ ts.length ≤ i + 1 ∧ 0 ≤ k' ∧ (pcsL ts : Int) + k' ≤ k ∧ (i + 1 = 0 → k' = k) ∧ H' l = some (.lst [.int k']) ∧ σ = [some (.ref p), some (.int (at_ : Nat)), some (.int (room : Nat)), some (.int (deep : Nat)), some (.ref l), some (.ref f), some (.int (here : Nat)), some (.int ((1 : Int) + ((e : Nat) : Int))), v8, v9], rt := Q } [some (.ref p), some (.int (at_ : Nat)), some (.int (room : Nat)), some (.int (deep : Nat)), some (.ref l), some (.ref f), some (.int (here : Nat)), some (.int ((1 : Int) + ((e : Nat) : Int))), some (.int (0 + (i : Nat))), v9] H3 := fun kk => by
        have ed : ((room : Nat) : Int) / ((1 : Int) + ((e : Nat) : Int)) = ((room / mny : Nat) : Int) := by
          rw [e1]
          exact (Int.natCast_ediv room mny).symm
        refine ⟨_, rfl, _, rfl, _, rfl, _, rfl, _, _, rfl, rfl, ⟨by omega, by omega⟩, _, rfl, _, rfl, p, l, here, room / mny, deep, k', by rw [← ed], P3.1, hl3, lp, rq, rq2, d8, dd, kk, fun a t k2 H4 hDt kz2 kp2 htok htn hth htl2 htb hl4 P4 => ?_⟩
        have P34 := P3.trans P4
        have hf4 := P4.2 _ _ fp fl hf
        have hD4 : DtsAt H4 ts as := hD.keep (P4.tup P3.1 hl3)
        have al := hD.len
        have B1 := pos_moms t htok
        refine ⟨_, rfl, .inl ⟨rfl, _, sq_lst hf4⟩, _, rfl, f, _, _, rfl, rfl, hf4, small_len (by rw [List.length_map]; omega), ?_⟩
        have P5 := P34.put2 (o := .lst (as.map V.ref ++ [.ref a])) nf fp
        have hf5 : upd H4 f (.lst (as.map V.ref ++ [.ref a])) f = some (.lst ((as ++ [a]).map V.ref)) := by rw [upd_same, List.map_append]; rfl
        have hl5 : upd H4 f (.lst (as.map V.ref ++ [.ref a])) l = some (.lst [.int k2]) := by rw [upd_ne (Ne.symm fl)]; exact hl4
        have hDt5 : DtAt (upd H4 f (.lst (as.map V.ref ++ [.ref a]))) t a := hDt.keep (tup_upd hf4)
        have hD5 : DtsAt (upd H4 f (.lst (as.map V.ref ++ [.ref a]))) (ts ++ [t]) (as ++ [a]) := (hD4.keep (tup_upd hf4)).snoc hDt5
        generalize upd H4 f (.lst (as.map V.ref ++ [.ref a])) = H5 at P5 hf5 hl5 hDt5 hD5 ⊢
        refine ⟨_, rfl, a, t, rfl, hDt5, by omega, htok, by omega, fun u H6 X6 nu hu => ?_⟩
        have P6 := P5.ex X6
        refine ⟨_, rfl, u, _, _, _, rfl, rfl, sq_lst hu, at_lastN (moms_ne htok), _, _, rfl, rfl, _, rfl, p, rfl, P6.1, fun g H7 hg P7 => ⟨_, _, rfl, rfl, ?_⟩⟩
        have lenE : (momsL (ts ++ [t])).length = (momsL ts).length + t.moms.length := by rw [momsL_snoc, List.length_append]
        have eM : ((momsL ts).length + t.moms.length) * (W + GAP) = (momsL ts).length * (W + GAP) + (t.moms.length * W + t.moms.length * GAP) := by rw [Nat.add_mul, Nat.mul_add t.moms.length]
        have eG : GAP ≤ t.moms.length * GAP := Nat.le_mul_of_pos_left _ B1
        have gG : g < GAP := Nat.lt_trans hg (by decide +kernel)
        have tne : ts ++ [t] ≠ [] := by simp
        have lastE : (momsL (ts ++ [t])).getLastD 0 = t.moms.getLastD 0 := by rw [momsL_snoc, lastD_app (moms_ne htok)]
        have htb' : t.moms.getLastD 0 + 1 ≤ here + t.moms.length * W := by rw [hW]; exact htb
        refine ⟨P6.on P7, ts ++ [t], as ++ [a], t.moms.getLastD 0 + 1 + g, k2, some (.int (0 + (i : Nat))), some (.ref a), P7.2 _ _ fp (X6 _ _ hf5), (hD5.mono X6).keep (tup_on P6.1 P7), okL_snoc hok htok, fun x hx => ?_, risB_snoc hok hri fun z => by rw [hth]; exact (hfa z).2.1, fun z => by omega, fun _ => tne, fun _ => ⟨?_, by rw [lastE]; omega, by rw [lastE, lenE, eM]; omega⟩, by rw [lenE, eM]; omega, ?_, by rw [List.length_append]; show _ + 1 ≤ _; omega, kz2, by rw [pcsL_app, show pcsL [t] = t.pcs by simp [pcsL]]; omega, (fun z => by omega), P7.2 _ _ lp (X6 _ _ hl5), ?_⟩
        · rcases List.mem_append.mp hx with hx | hx
          · exact hne x hx
          · rw [List.mem_singleton.mp hx]
            exact htn
        · by_cases t0 : ts = []
          · subst t0
            have : i = 0 := Decidable.by_contra fun z => hi1 (by omega) rfl
            rw [momsL_snoc]
            show t.moms.headD 0 = at_
            rw [hth]
            exact (hi0 this).2
          · rw [momsL_snoc, headD_app (momsL_ne hok t0)]
            exact (hfa t0).1
        · rw [lenE, Nat.add_mul, Nat.one_mul]
          omega
        · have e9 : ((t.moms.getLastD 0 + 1 + g : Nat) : Int) = ((t.moms.getLastD 0 : Nat) : Int) + 1 + ((g : Nat) : Int) := by omega
          rw [e9]
          rfl
      refine ⟨_, rfl, rfl, _, rfl, ite2 (fun cz => ?_) (fun c0 => ?_)⟩
      · exact draw (by
          have z := of_decide_eq_true cz
          injection z with z
          have := ki (by omega)
          omega)
      · refine ⟨_, rfl, l, _, 0, _, rfl, rfl, sq_lst hl3, rfl, _, _, rfl, rfl, _, rfl, ite2 (fun cz => draw (by have := of_decide_eq_true cz; omega)) (fun _ => ?_)⟩
        have i0 : i ≠ 0 := fun z => c0 (by rw [z]; rfl)
        refine ⟨P3, ts, as, here, k', _, _, hf, hD, hok, hne, hri, (fun z => by omega), fun _ => hi1 (by omega), hfa, hhe, Nat.le_trans hle (Nat.mul_le_mul_right _ (by omega)), by omega, kz, kp, (fun z => by omega), hl3, rfl⟩
    · rintro σ H3 ⟨P3, ts, as, here, k', v8, v9, hf, hD, hok, hne, hri, hi0, hi1, hfa, hhe, hle, htl, kz, kp, ki, hl3, rfl⟩
      have en : ((1 : Int) + ((e : Nat) : Int)).toNat = mny := by omega
      rw [en] at hi1 hle
      have ts0 := hi1 (by omega)
      refine ⟨_, rfl, f, _, rfl, .inl ⟨sq_lst hf, fun r nr => ?_⟩⟩
      have X4 := ex_new (o := .tup (as.map V.ref)) nr
      obtain ⟨g1, g2, g3⟩ := hfa ts0
      exact q r as ts k' _ kz kp upd_same (hD.mono X4) ts0 hok hne hri g1 (by omega) (by rw [hW2]; exact g3) (X4 _ _ hl3) (P3.ex X4)
theorem ok__law_row {P : Program} {w : World} {K : PySem.W.Frag} {mg : Str → Option Value} {base : Heap} (T : Env K mg) {d L : Nat} (hL : 60 ≤ L) (r__law_short : Fc P w K mg base L (He.ga K "_law_short") [] (sp__law_short K d)) : Fc P w K mg base (L + 1) (He.ga K "_law_row") [] (sp__law_row K (d)) := by
  obtain ⟨fd, D, F⟩ := fb__law_row T hL r__law_short
  exact F.all (D.bindsN fun _ _ _ _ _ _ us hl => match us, hl with | [_, _, _, _, _], _ => rfl)
end
section
theorem fb__law_short {P : Program} {w : World} {K : PySem.W.Frag} {mg : Str → Option Value} {base : Heap} (T : Env K mg) {d L : Nat} (hL : 60 ≤ L) (r__law_short : Fc P w K mg base L (He.ga K "_law_short") [] (sp__law_short K d)) : ∃ fd, FunD K "_law_short" "_law_short" (defArgs s__law_short) (defBody s__law_short) (defScope s__law_short) [] [] (He.ga K "_law_short") fd ∧ Fb P w K mg base (L + 2) (He.ga K "_law_short") fd ["_law_pot_here", "_law_at", "_law_room", "_law_deep", "_law_left"] (sp__law_short K (d + 1)) := by
  obtain ⟨fd, F⟩ := T.f__law_short
  refine ⟨fd, F, fb_of F sc__law_short (fun vs H Q E h => ?_) (fun cdv A outer s H vs Q E hr h => ?_)⟩
  · obtain ⟨p, l, at_, room, deep, k, rfl, _⟩ := h
    rfl
  · obtain ⟨p, l, at_, room, deep, k, rfl, hp, hl, lp, r1, r2, d8, dd, k1, q⟩ := h
    refine ⟨_, (pss_cons (ps_asg (pe_op op_sub (pe_ix ix_list (pv 4) pe_int (fun _ _ => rfl)) pe_int) (pg_sub (pv 4) pe_int set_list))
      (Evl.pss_cut (ps_if (PW.pt (pw_or (pt_cmpR op_eq (c_call (ok__law_draw T) (hr.mono (by omega)) T.g__law_draw T.k__law_draw takes0 (pa_cons (pv 0) (pa_cons pe_int pa_nil))) pe_int (nomark _)) (pw_or (pt_cmpR op_lt (pv 2) pe_int (nomark _)) (pw_or (pt_cmpR op_eq (pv 3) pe_int (nomark _)) (pw_or1 (pt_cmpR op_lt (pe_ix ix_list (pv 4) pe_int (fun _ _ => rfl)) pe_int (nomark _)))))))
      (pss_one (ps_ret (pe_tup (pa_cons pe_str (pa_cons (pv 1) pa_nil)))))
      pss_nil)
      (pss_cons (ps_set (i := 5) sc__law_short.nd rfl (Or.inl rfl) (c_call (ok__law_row T hL r__law_short) (hr.mono (by omega)) T.g__law_row T.k__law_row takes0 (pa_cons (pv 0) (pa_cons (pv 1) (pa_cons (pe_op op_fdiv (pv 2) pe_int) (pa_cons (pe_op op_sub (pv 3) pe_int) (pa_cons (pv 4) pa_nil)))))))
      (pss_cons (ps_set (i := 6) sc__law_short.nd rfl (Or.inl rfl) (c_call (ok__law_row_moments T (Nat.le_add_right 40 _) (all__law_moments T 9)) (hr.mono (by omega)) T.g__law_row_moments T.k__law_row_moments takes0 (pa_cons (pv 5) pa_nil)))
      (pss_cons (ps_set (i := 7) sc__law_short.nd rfl (Or.inl rfl) (pe_ix ix_list (pe_lst (pa_cons pe_int (pa_cons pe_int (pa_cons pe_int (pa_cons (pv 2) pa_nil))))) (c_call (ok__law_draw T) (hr.mono (by omega)) T.g__law_draw T.k__law_draw takes0 (pa_cons (pv 0) (pa_cons pe_int pa_nil))) (fun _ _ => rfl)))
      (pss_cons (ps_set (i := 8) sc__law_short.nd rfl (Or.inl rfl) (pe_op op_add pe_int (c_call (ok__law_draw T) (hr.mono (by omega)) T.g__law_draw T.k__law_draw takes0 (pa_cons (pv 0) (pa_cons (pe_callB (call_min2 rfl) (by rfl) T.n_min (by decide +kernel) (pa_cons (pv 7) (pa_cons (pe_op op_sub (pe_op op_fdiv (pv 2) (pe_callB call_len (by rfl) T.n_len (by decide +kernel) (pa_cons (pv 6) pa_nil))) pe_int) pa_nil))) pa_nil)))))
      (pss_one (ps_ret (pe_tup (pa_cons pe_str (pa_cons (pv 5) (pa_cons (pv 8) (pa_cons (pe_op op_add (pe_op op_add (pe_op op_sub (pe_ix ix_list (pv 6) (pe_un un_neg pe_int) (fun _ _ => rfl)) (pe_ix ix_list (pv 6) pe_int (fun _ _ => rfl))) pe_int) (c_call (ok__law_gap T) (hr.mono (by omega)) T.g__law_gap T.k__law_gap takes0 (pa_cons (pv 0) pa_nil))) pa_nil))))))))))))), ?_⟩
    refine ⟨_, rfl, l, _, 0, _, rfl, rfl, sq_lst hl, rfl, _, _, rfl, rfl, _, rfl, l, _, 0, 0, rfl, rfl, hl, rfl, ?_⟩
    have P1 : ∀ o, PotL H (upd H l o) p l := fun o => (PotL.refl hp).put lp
    have gap1 : 1 ≤ GAP := by decide +kernel
    have fin : ∀ {H2 : Hp}, PotL H H2 p l → H2 l = some (.lst [.int (k - 1)]) → ∀ a, H2 a = none → Q (.ref a) (upd H2 a (.tup [.str "at", .int (at_ : Nat)])) := fun {H2} P2 hl2 a na => by
      have m1 : (Tr.at at_).moms = [at_] := by unfold Tr.moms; rfl
      refine q a (.at at_) (k - 1) _ (by unfold DtAt; exact upd_same) (by omega) (by unfold Tr.pcs; omega) (by unfold Tr.ok; trivial) (by unfold Tr.nest; exact Nat.zero_le _) (by rw [m1]; rfl) (by rw [m1]; exact r1) ?_ (ex_new na _ _ hl2) (P2.ex (ex_new na))
      rw [m1]
      show at_ + 1 ≤ at_ + 1 * ((2 * deep + 1) * GAP)
      have : 1 * 1 ≤ (2 * deep + 1) * GAP := Nat.mul_le_mul (by omega) gap1
      omega
    refine ⟨fun σ' H2 => PotL H H2 p l ∧ H2 l = some (.lst [.int (k - 1)]) ∧ 2 ≤ room ∧ 1 ≤ deep ∧ 2 ≤ k ∧ σ' = [some (.ref p), some (.int (at_ : Nat)), some (.int (room : Nat)), some (.int (deep : Nat)), some (.ref l), none, none, none, none], ?_, ?_⟩
    · refine ⟨_, rfl, p, 3, rfl, (P1 _).1, by decide, by decide, fun dv H2 d0 d1 P2 => ?_⟩
      have PL := (P1 _).on P2
      have hl2 : H2 l = some (.lst [.int (k - 1)]) := P2.2 _ _ lp upd_same
      refine ⟨rfl, _, rfl, ite2 (fun _ => ?_) (fun _ => ?_)⟩
      · exact ⟨_, rfl, by show 2 ≤ sizeLine; decide, fun a na => fin PL hl2 a na⟩
      refine ⟨_, rfl, _, _, rfl, rfl, _, rfl, ite2 (fun _ => ?_) (fun c1 => ?_)⟩
      · exact ⟨_, rfl, by show 2 ≤ sizeLine; decide, fun a na => fin PL hl2 a na⟩
      refine ⟨_, rfl, rfl, _, rfl, ite2 (fun _ => ?_) (fun c2 => ?_)⟩
      · exact ⟨_, rfl, by show 2 ≤ sizeLine; decide, fun a na => fin PL hl2 a na⟩
      refine ⟨_, rfl, l, _, 0, _, rfl, rfl, sq_lst hl2, rfl, _, _, rfl, rfl, _, rfl, ite2 (fun _ => ?_) (fun c3 => ?_)⟩
      · exact ⟨_, rfl, by show 2 ≤ sizeLine; decide, fun a na => fin PL hl2 a na⟩
      have g3 : ¬ k - 1 < 1 := fun z => c3 (decide_eq_true z)
      have g1 : ¬ ((room : Nat) : Int) < 2 := fun z => c1 (decide_eq_true z)
      have g2 : deep ≠ 0 := fun z => c2 (by rw [z]; rfl)
      exact ⟨PL, hl2, by omega, by omega, by omega, rfl⟩
    rintro σ' H2 ⟨P2, hl2, room2, deep1, k2', rfl⟩
    have ed : ((room : Nat) : Int) / 2 = ((room / 2 : Nat) : Int) := by omega
    have ed2 : ((deep : Nat) : Int) - 1 = ((deep - 1 : Nat) : Int) := by omega
    refine ⟨_, rfl, _, rfl, _, rfl, _, _, rfl, rfl, ⟨by decide, by decide⟩, _, rfl, _, _, rfl, rfl, _, rfl, p, l, at_, room / 2, deep - 1, k - 1, by rw [← ed, ← ed2], P2.1, hl2, lp, by omega, by omega, by omega, by omega, by omega, fun r as ts k2 H3 kz kp hr3 hD3 ts0 hok hne hri hhd hlen hlast hl3 P3 => ?_⟩
    have P23 := P2.trans P3
    have B1 : 1 ≤ (momsL ts).length := Nat.le_trans (List.length_pos_iff.mpr ts0) (len_moms hok)
    have nn := momsL_ne hok ts0
    refine ⟨_, rfl, r, as, ts, rfl, hr3, hD3, fun t ht => by have := hne t ht; omega, hok, by omega, fun w H4 X4 nw hw => ?_⟩
    have P4 := P23.ex X4
    have hl4 := X4 _ _ hl3
    have wp : w ≠ p := potL_ne P23 nw
    refine ⟨_, rfl, by show 4 ≤ sizeLine; decide, fun u nu => ?_⟩
    have P5 := P4.ex (ex_new (o := .lst [.int 2, .int 2, .int 2, .int (room : Nat)]) nu)
    have up : u ≠ p := potL_ne P4 nu
    refine ⟨_, rfl, p, 4, rfl, P5.1, by decide, by decide, fun dv H6 d0 d1 P6 => ?_⟩
    obtain ⟨x, hx, ex⟩ := at_mem (xs := [.int 2, .int 2, .int 2, .int (room : Nat)]) d0 (by show dv < 4; exact d1)
    obtain ⟨mo, rfl, mo2⟩ : ∃ mo : Nat, x = .int (mo : Nat) ∧ 2 ≤ mo := by
      simp only [List.mem_cons, List.not_mem_nil, or_false] at hx
      rcases hx with rfl | rfl | rfl | rfl
      · exact ⟨2, rfl, Nat.le_refl _⟩
      · exact ⟨2, rfl, Nat.le_refl _⟩
      · exact ⟨2, rfl, Nat.le_refl _⟩
      · exact ⟨room, rfl, room2⟩
    refine ⟨u, _, _, _, rfl, rfl, sq_lst (P6.2 _ _ up upd_same), ex, ?_⟩
    have hw6 := P6.2 _ _ wp (ex_new (o := .lst [.int 2, .int 2, .int 2, .int (room : Nat)]) nu _ _ hw)
    have PL6 := P5.on P6
    have hl6 := P6.2 _ _ lp (ex_new (o := .lst [.int 2, .int 2, .int 2, .int (room : Nat)]) nu _ _ hl4)
    have hr6 := tup_on P5.1 P6 _ _ (ex_new (o := .lst [.int 2, .int 2, .int 2, .int (room : Nat)]) nu _ _ (X4 _ _ hr3))
    have hD6 := ((hD3.mono X4).mono (ex_new (o := .lst [.int 2, .int 2, .int 2, .int (room : Nat)]) nu)).keep (tup_on P5.1 P6)
    have q2 : 2 ≤ room / (momsL ts).length := (Nat.le_div_iff_mul_le (by omega)).mpr (by omega)
    have q3 : room / (momsL ts).length * (momsL ts).length ≤ room := Nat.div_mul_le_self _ _
    have q4 : room / (momsL ts).length ≤ 1440 := Nat.le_trans (Nat.div_le_self _ _) r2
    have e7 : ((room : Nat) : Int) / (((momsL ts).length : Nat) : Int) = ((room / (momsL ts).length : Nat) : Int) := (Int.natCast_ediv _ _).symm
    have e8 : (if ((room : Nat) : Int) / (((momsL ts).length : Nat) : Int) - 1 < ((mo : Nat) : Int) then ((room : Nat) : Int) / (((momsL ts).length : Nat) : Int) - 1 else ((mo : Nat) : Int)) = ((min mo (room / (momsL ts).length - 1) : Nat) : Int) := by rw [e7]; split <;> omega
    refine ⟨_, rfl, _, rfl, _, rfl, _, rfl, _, (momsL ts).length, rfl, .inl ⟨_, sq_lst hw6, (natV_len _).symm⟩, _, _, rfl, rfl, ⟨by omega, by omega⟩, _, _, rfl, rfl, _, _, rfl, p, _, rfl, PL6.1, by rw [e8]; omega, by rw [e8]; omega, fun dw H7 w0 w1 P7 => ⟨_, _, rfl, rfl, ?_⟩⟩
    rw [e8] at w1
    obtain ⟨dm, rfl⟩ := Int.eq_ofNat_of_zero_le w0
    have hw7 := P7.2 _ _ wp hw6
    have PL7 := PL6.on P7
    have hr7 := tup_on PL6.1 P7 _ _ hr6
    have hD7 := hD6.keep (tup_on PL6.1 P7)
    refine ⟨_, rfl, _, rfl, _, rfl, _, rfl, w, _, _, _, rfl, rfl, sq_lst hw7, at_lastN nn, _, rfl, w, _, _, _, rfl, rfl, sq_lst hw7, at_headN nn, _, _, rfl, rfl, _, _, rfl, rfl, _, rfl, p, rfl, PL7.1, fun g H8 hg P8 => ⟨_, _, rfl, rfl, by show 4 ≤ sizeLine; decide, fun a na => ?_⟩⟩
    have PL8 := PL7.on P8
    have hl8 := P8.2 _ _ lp (P7.2 _ _ lp hl6)
    have hr8 := tup_on PL7.1 P8 _ _ hr7
    have hD8 := hD7.keep (tup_on PL7.1 P8)
    have srt := ris_sorted hok hri
    have hle := le_lastD srt _ (by
      cases hm : momsL ts with
      | nil => exact absurd hm nn
      | cons y ys => exact List.mem_cons_self : (momsL ts).headD 0 ∈ momsL ts)
    obtain ⟨m, hm⟩ : ∃ m : Nat, m = 2 + dm := ⟨_, rfl⟩
    obtain ⟨st, hst⟩ : ∃ st : Nat, st = (momsL ts).getLastD 0 - (momsL ts).headD 0 + 1 + g := ⟨_, rfl⟩
    have em : (2 : Int) + ((dm : Nat) : Int) = ((m : Nat) : Int) := by omega
    have est : (((momsL ts).getLastD 0 : Nat) : Int) - (((momsL ts).headD 0 : Nat) : Int) + 1 + ((g : Nat) : Int) = ((st : Nat) : Int) := by omega
    have X9 := ex_new (o := .tup [.str "over", .ref r, .int (m : Nat), .int (st : Nat)]) na
    have mle : m ≤ room / (momsL ts).length := by omega
    have mlen : m * (momsL ts).length ≤ room := Nat.le_trans (Nat.mul_le_mul_right _ mle) q3
    have okT : (Tr.ov ts m st).ok := by
      unfold Tr.ok
      exact ⟨ts0, by omega, by omega, by omega, by omega, srt, hok⟩
    have eMo : (Tr.ov ts m st).moms = overN (momsL ts) m st := by unfold Tr.moms; rfl
    have hDa : DtAt (upd H8 a (.tup [.str "over", .ref r, .int (m : Nat), .int (st : Nat)])) (.ov ts m st) a := by
      unfold DtAt
      exact ⟨r, as, upd_same, X9 _ _ hr8, hD8.mono X9⟩
    have res := q a (.ov ts m st) k2 _ hDa kz (by unfold Tr.pcs; omega) okT (by
      have := nestL_le hne
      unfold Tr.nest
      omega) (by rw [eMo, overN_head nn m (by omega)]; exact hhd) (by rw [eMo, overN_len]; exact mlen) (by
      rw [eMo, overN_len, overN_last nn (by omega)]
      obtain ⟨m', rfl⟩ : ∃ m', m = m' + 1 := ⟨m - 1, by omega⟩
      have e2 : (2 * (deep - 1) + 2) * GAP = 2 * deep * GAP := by rw [show 2 * (deep - 1) + 2 = 2 * deep by omega]
      rw [e2] at hlast
      have e3 : (2 * deep + 1) * GAP = 2 * deep * GAP + GAP := by rw [Nat.add_mul, Nat.one_mul]
      rw [e3]
      have gG : g < GAP := Nat.lt_trans hg (by decide +kernel)
      exact over_bound (m' := m') hlast (by omega) B1) (X9 _ _ hl8) (PL8.ex X9)
    rw [← em, ← est] at res
    exact res
theorem ok__law_short {P : Program} {w : World} {K : PySem.W.Frag} {mg : Str → Option Value} {base : Heap} (T : Env K mg) {d L : Nat} (hL : 60 ≤ L) (r__law_short : Fc P w K mg base L (He.ga K "_law_short") [] (sp__law_short K d)) : Fc P w K mg base (L + 2) (He.ga K "_law_short") [] (sp__law_short K (d + 1)) := by
  obtain ⟨fd, D, F⟩ := fb__law_short T hL r__law_short
  exact F.all (D.bindsN fun _ _ _ _ _ _ us hl => match us, hl with | [_, _, _, _, _], _ => rfl)
theorem all__law_short {P : Program} {w : World} {K : PySem.W.Frag} {mg : Str → Option Value} {base : Heap} (T : Env K mg) : ∀ d, Fc P w K mg base (60 + 2 * d) (He.ga K "_law_short") [] (sp__law_short K d)
  | 0 => fc_no fun vs H Q E h => by
    obtain ⟨p, l, at_, room, deep, k, _, _, _, _, _, _, _, h, _⟩ := h
    omega
  | d + 1 => ok__law_short T (Nat.le_add_right 60 _) (all__law_short T d)
end
section
def sp__law_spread (K : PySem.W.Frag) : Sp := fun vs H Q _ => ∃ p, vs = [.ref p] ∧ Pot H p ∧ ∀ (r : Addr) (as : List Addr) (ts : List Tr) H', H' r = some (.tup (as.map V.ref)) → DtsAt H' ts as → okL_ ts → nestL ts ≤ 8 → risB ts = true → (momsL ts).length ≤ 1440 → (∀ n ∈ momsL ts, n < 10 ^ 80) → pcsL ts ≤ 40 → PotOn H H' p → Q (.ref r) H'
theorem pick4 {a b c e : Nat} {d : Int} (d0 : 0 ≤ d) (d1 : d < 4) : ∃ n : Nat, atI [V.int (a : Nat), .int (b : Nat), .int (c : Nat), .int (e : Nat)] d = some (.int (n : Nat)) ∧ (n = a ∨ n = b ∨ n = c ∨ n = e) := by
  obtain ⟨x, hx, ex⟩ := at_mem (xs := [V.int (a : Nat), .int (b : Nat), .int (c : Nat), .int (e : Nat)]) d0 (by show d < 4; exact d1)
  simp only [List.mem_cons, List.not_mem_nil, or_false] at hx
  rcases hx with rfl | rfl | rfl | rfl
  · exact ⟨a, ex, .inl rfl⟩
  · exact ⟨b, ex, .inr (.inl rfl)⟩
  · exact ⟨c, ex, .inr (.inr (.inl rfl))⟩
  · exact ⟨e, ex, .inr (.inr (.inr rfl))⟩
theorem fb__law_spread {P : Program} {w : World} {K : PySem.W.Frag} {mg : Str → Option Value} {base : Heap} (T : Env K mg) : ∃ fd, FunD K "_law_spread" "_law_spread" (defArgs s__law_spread) (defBody s__law_spread) (defScope s__law_spread) [] [] (He.ga K "_law_spread") fd ∧ Fb P w K mg base 82 (He.ga K "_law_spread") fd ["_law_pot_here"] (sp__law_spread K) := by
  obtain ⟨fd, F⟩ := T.f__law_spread
  refine ⟨fd, F, fb_of F sc__law_spread (fun vs H Q E h => ?_) (fun cdv A outer s H vs Q E hr h => ?_)⟩
  · obtain ⟨p, rfl, _⟩ := h
    rfl
  · obtain ⟨p, rfl, hp, q⟩ := h
    refine ⟨_, (pss_cons (ps_if (pt_cmpR op_eq (c_call (ok__law_draw T) (hr.mono (by decide)) T.g__law_draw T.k__law_draw takes0 (pa_cons (pv 0) (pa_cons pe_int pa_nil))) pe_int (nomark _))
      (pss_one (ps_ret (pe_tup pa_nil)))
      pss_nil)
      (pss_cons (ps_set (i := 1) sc__law_spread.nd rfl (Or.inl rfl) (pe_ix ix_list (pe_lst (pa_cons pe_int (pa_cons pe_int (pa_cons pe_int (pa_cons pe_int pa_nil))))) (c_call (ok__law_draw T) (hr.mono (by decide)) T.g__law_draw T.k__law_draw takes0 (pa_cons (pv 0) (pa_cons pe_int pa_nil))) (fun _ _ => rfl)))
      (Evl.pss_cut (ps_if (pt_cmpR op_eq (c_call (ok__law_draw T) (hr.mono (by decide)) T.g__law_draw T.k__law_draw takes0 (pa_cons (pv 0) (pa_cons pe_int pa_nil))) pe_int (nomark _))
      (pss_one (ps_set (i := 1) sc__law_spread.nd rfl (Or.inl rfl) pe_int))
      pss_nil)
      (pss_cons (ps_set (i := 2) sc__law_spread.nd rfl (Or.inl rfl) (pe_ix ix_list (pe_lst (pa_cons pe_int (pa_cons pe_int (pa_cons pe_int (pa_cons pe_int pa_nil))))) (c_call (ok__law_draw T) (hr.mono (by decide)) T.g__law_draw T.k__law_draw takes0 (pa_cons (pv 0) (pa_cons pe_int pa_nil))) (fun _ _ => rfl)))
      (pss_one (ps_ret (c_call (ok__law_row T (Nat.le_add_right 60 _) (all__law_short T 9)) (hr.mono (by decide)) T.g__law_row T.k__law_row takes0 (pa_cons (pv 0) (pa_cons (c_call (ok__law_gap T) (hr.mono (by decide)) T.g__law_gap T.k__law_gap takes0 (pa_cons (pv 0) pa_nil)) (pa_cons (pv 1) (pa_cons (pv 2) (pa_cons (pe_lst (pa_cons pe_int pa_nil)) pa_nil)))))))))))), ?_⟩
    refine ⟨_, rfl, p, 12, rfl, hp, by decide, by decide, fun d H1 d0 d1 P1 => ⟨rfl, _, rfl, ite2 (fun _ => ?_) (fun _ => ?_)⟩⟩
    · refine ⟨by show 0 ≤ sizeLine; decide, fun r nr => ?_⟩
      refine q r [] [] _ upd_same (by unfold DtsAt; rfl) (by unfold okL_; trivial) (by unfold nestL; exact Nat.zero_le _) rfl (by unfold momsL; exact Nat.zero_le _) (fun n hn => by unfold momsL at hn; cases hn) (by unfold pcsL; decide) (P1.ex2 (ex_new nr))
    refine ⟨by show 4 ≤ sizeLine; decide, fun u nu => ?_⟩
    have up := pot_ne P1 nu
    have P2 := pot_new (o := .lst [.int 6, .int 12, .int 24, .int 60]) P1 nu
    refine ⟨_, rfl, p, 4, rfl, P2.1, by decide, by decide, fun d H3 d0 d1 P3 => ?_⟩
    obtain ⟨rm, erm, hrm⟩ := pick4 (a := 6) (b := 12) (c := 24) (e := 60) d0 d1
    refine ⟨u, _, _, _, rfl, rfl, sq_lst (P3.2 _ _ up upd_same), erm, ?_⟩
    have P23 := P2.trans P3
    refine ⟨fun σ' H' => PotOn H H' p ∧ ∃ rm : Nat, 1 ≤ rm ∧ rm ≤ 1440 ∧ σ' = [some (.ref p), some (.int (rm : Nat)), none], ?_, ?_⟩
    · refine ⟨_, rfl, p, 16, rfl, P23.1, by decide, by decide, fun d H4 d0 d1 P4 => ⟨rfl, _, rfl, ite2 (fun _ => ?_) (fun _ => ?_)⟩⟩
      · exact ⟨P23.trans P4, 1440, by decide, by decide, rfl⟩
      · exact ⟨P23.trans P4, rm, by omega, by omega, rfl⟩
    clear hrm erm
    clear rm
    rintro σ' H4 ⟨P4, rm, rm1, rm2, rfl⟩
    refine ⟨by show 4 ≤ sizeLine; decide, fun u2 nu2 => ?_⟩
    have up2 := pot_ne P4 nu2
    have P5 := pot_new (o := .lst [.int 1, .int 2, .int 3, .int 8]) P4 nu2
    refine ⟨_, rfl, p, 4, rfl, P5.1, by decide, by decide, fun d H6 d0 d1 P6 => ?_⟩
    obtain ⟨dp, edp, hdp⟩ := pick4 (a := 1) (b := 2) (c := 3) (e := 8) d0 d1
    refine ⟨u2, _, _, _, rfl, rfl, sq_lst (P6.2 _ _ up2 upd_same), edp, ?_⟩
    have P56 := P5.trans P6
    refine ⟨_, rfl, _, rfl, p, rfl, P56.1, fun g H7 hg P7 => ?_⟩
    have P7' := P56.trans P7
    refine ⟨_, rfl, _, rfl, by show 1 ≤ sizeLine; decide, fun l nl => ?_⟩
    have lp := pot_ne P7' nl
    have P8 := pot_new (o := .lst [.int 40]) P7' nl
    have lH := P7'.fresh nl
    refine ⟨p, l, g, rm, dp, 40, rfl, P8.1, upd_same, lp, rm1, rm2, by omega, by omega, by decide, fun r as ts k2 H9 kz kp hr9 hD9 ts0 hok hne hri hhd hlen hlast hl9 P9 => ?_⟩
    refine q r as ts H9 hr9 hD9 hok (Nat.le_trans (nestL_le hne) (by omega)) hri (by omega) (fun n hn => ?_) (by omega) ⟨P9.1, fun b o nb e => P9.2 _ _ nb (ne_of_none e lH) (P8.2 _ _ nb e)⟩
    have h1 := le_lastD (ris_sorted hok hri) n hn
    have h2 : (momsL ts).length * ((2 * dp + 2) * GAP) ≤ 1440 * (18 * GAP) := Nat.mul_le_mul (by omega) (Nat.mul_le_mul_right _ (by omega))
    have h3 : (10 : Nat) ^ 50 + 1440 * (18 * GAP) < 10 ^ 80 := by decide +kernel
    omega
theorem ok__law_spread {P : Program} {w : World} {K : PySem.W.Frag} {mg : Str → Option Value} {base : Heap} (T : Env K mg) : Fc P w K mg base 82 (He.ga K "_law_spread") [] (sp__law_spread K ) := by
  obtain ⟨fd, D, F⟩ := fb__law_spread T
  exact F.all (D.bindsN fun _ _ _ _ _ _ us hl => match us, hl with | [_], _ => rfl)
end
section
def sp__law_made (K : PySem.W.Frag) (d : Nat) : Sp := fun vs H Q _ => ∃ (b : Addr) (t : Tr), vs = [.ref b] ∧ DtAt H t b ∧ t.nest + 1 ≤ d ∧ t.nest ≤ 8 ∧ t.ok ∧ ∀ a H', Ex H H' → H a = none → ShAt K H' t a → Q (.ref a) H'
theorem fb__law_made {P : Program} {w : World} {K : PySem.W.Frag} {mg : Str → Option Value} {base : Heap} (T : Env K mg) {d L : Nat} (hL : 70 ≤ L) (r__law_made : Fc P w K mg base L (He.ga K "_law_made") [] (sp__law_made K d)) : ∃ fd, FunD K "_law_made" "_law_made" (defArgs s__law_made) (defBody s__law_made) (defScope s__law_made) [] [] (He.ga K "_law_made") fd ∧ Fb P w K mg base (L + 1) (He.ga K "_law_made") fd ["_law_short_here"] (sp__law_made K (d + 1)) := by
  obtain ⟨fd, F⟩ := T.f__law_made
  refine ⟨fd, F, fb_of F sc__law_made (fun vs H Q E h => ?_) (fun cdv A outer s H vs Q E hr h => ?_)⟩
  · obtain ⟨b, t, rfl, _⟩ := h
    rfl
  · obtain ⟨b, t, rfl, hD, hn, h8, hok, q⟩ := h
    refine ⟨_, (pss_cons (ps_if (pt_cmpR op_eq (pe_ix ix_tup (pv 0) pe_int (fun _ _ => rfl)) pe_str (nomark _))
      (pss_one (ps_ret (c_make T.mk_At (ok_At_init T) (hr.mono (by omega)) T.g_At takes0 (pa_cons (pe_ix ix_tup (pv 0) pe_int (fun _ _ => rfl)) pa_nil))))
      pss_nil)
      (pss_one (ps_ret (c_make T.mk_Over (ok_Over_init T) (hr.mono (by omega)) T.g_Over takes0 (pa_cons (pe_lc (own := [("_law_part", 1)]) (by rfl) sc__law_made.nd (pi_tup (pe_ix ix_tup (pv 0) pe_int (fun _ _ => rfl))) (blkOk_by (own := [("_law_part", 1)]) (N := ["_law_short_here", "_law_part"]) (sc := defScope s__law_made) (by decide +kernel)) (fun _ _ _ _ _ => (pg_name (i := 1) sc__law_made.nd rfl (Or.inl rfl))) (fun _ _ _ _ _ => pts_nil) (fun _ _ _ _ _ => (c_call r__law_made (hr.mono (by omega)) T.g__law_made T.k__law_made takes0 (pa_cons (pv 1) pa_nil)))) (pa_cons (pe_ix ix_tup (pv 0) pe_int (fun _ _ => rfl)) (pa_cons (pe_ix ix_tup (pv 0) pe_int (fun _ _ => rfl)) pa_nil))))))), ?_⟩
    cases t with
    | «at» n =>
      unfold DtAt at hD
      refine ⟨_, rfl, b, _, 0, _, rfl, rfl, sq_tup hD, rfl, rfl, _, rfl, iteT ?_⟩
      exact ⟨_, rfl, b, _, 1, _, rfl, rfl, sq_tup hD, rfl, fun x dx nx nd ne => at_new nx nd ne fun H1 X1 R1 => ⟨rfl, q x H1 X1 nx (by unfold ShAt; exact R1)⟩⟩
    | ov ps m s_ =>
      unfold DtAt at hD
      obtain ⟨r, bs, hD, hr2, hB⟩ := hD
      obtain ⟨o1, m2, hm, hml, hl2, hpl, hokL⟩ := ov_facts hok
      have hl1 := hB.len
      refine ⟨_, rfl, b, _, 0, _, rfl, rfl, sq_tup hD, rfl, rfl, _, rfl, iteF ?_⟩
      refine ⟨_, rfl, b, _, 1, _, rfl, rfl, sq_tup hD, rfl, r, rfl, ⟨_, sq_tup hr2⟩, fun A nA => lc_any (L2.walk_tup (K := K) (a := r) (xs := bs.map V.ref)) (fun i acc G => Ex H G ∧ (G A = none ∨ ∃ xs, G A = some (.lst xs)) ∧ ∃ as, acc = as.map V.ref ∧ ShsAt K G (ps.take i) as) (fun i acc G z e => ?_) ⟨.refl _, .inl nA, [], rfl, by unfold ShsAt; rfl⟩ (by rw [List.length_map]; omega) (fun i acc G e => ?_) (fun i acc G e => sq_tup (e.1 _ _ hr2)) (fun i x G G' acc N hi e hA la y k _ => ?_) (fun acc G e hA => ?_)⟩
      · obtain ⟨e1, e2, as, e3, e4⟩ := e
        refine ⟨ex_mut e1 nA, .inr ⟨z, upd_same⟩, as, e3, e4.oth ((Oth.refl A G).upd) fun ob h => ?_⟩
        rcases e2 with h2 | ⟨xs, h2⟩
        · rw [h2] at h
          cases h
        · rw [h2] at h
          cases h
          exact ⟨xs, rfl⟩
      · obtain ⟨_, _, as, rfl, h1⟩ := e
        rw [List.length_map, h1.len, List.length_take]
        omega
      · obtain ⟨rfl, y⟩ := y
        obtain ⟨XG, _, as, rfl, h1⟩ := e
        rw [List.getElem?_map] at y
        obtain ⟨c, hc, rfl⟩ := Option.map_eq_some_iff.mp y
        obtain ⟨t, ht, hDt⟩ := hB.get hc
        have htm := List.mem_of_getElem? ht
        have nm := nestL_mem htm
        have hn' := hn
        have h8' := h8
        unfold Tr.nest at hn' h8'
        refine ⟨rfl, _, rfl, c, t, rfl, hDt.mono XG, by omega, by omega, okL_mem hokL htm, fun a2 G2 X2 na2 hS2 => ⟨_, X2 _ _ hA, la, ?_⟩⟩
        refine k _ G2 (X2 _ _ hA) ⟨XG.trans X2, .inr ⟨_, X2 _ _ hA⟩, as ++ [a2], by rw [List.map_append]; rfl, ?_⟩
        rw [take_snoc ht]
        exact (h1.mono X2).snoc hS2
      obtain ⟨XG, _, as, rfl, hSh⟩ := e
      rw [List.length_map, hl1, List.take_length] at hSh
      have hD2 := XG _ _ hD
      refine ⟨_, rfl, b, _, 2, _, rfl, rfl, sq_tup hD2, rfl, _, rfl, b, _, 3, _, rfl, rfl, sq_tup hD2, rfl, fun x dx nx nd ne => ⟨rfl, over_newT nx nd ne (.inl hA) hSh hok h8 fun H4 X4 hS => ⟨rfl, ?_⟩⟩⟩
      exact q x H4 (XG.trans X4) (ex_fresh XG nx) hS
theorem ok__law_made {P : Program} {w : World} {K : PySem.W.Frag} {mg : Str → Option Value} {base : Heap} (T : Env K mg) {d L : Nat} (hL : 70 ≤ L) (r__law_made : Fc P w K mg base L (He.ga K "_law_made") [] (sp__law_made K d)) : Fc P w K mg base (L + 1) (He.ga K "_law_made") [] (sp__law_made K (d + 1)) := by
  obtain ⟨fd, D, F⟩ := fb__law_made T hL r__law_made
  exact F.all (D.bindsN fun _ _ _ _ _ _ us hl => match us, hl with | [_], _ => rfl)
theorem all__law_made {P : Program} {w : World} {K : PySem.W.Frag} {mg : Str → Option Value} {base : Heap} (T : Env K mg) : ∀ d, Fc P w K mg base (70 + 1 * d) (He.ga K "_law_made") [] (sp__law_made K d)
  | 0 => fc_no fun vs H Q E h => by
    obtain ⟨r, t, _, _, h, _⟩ := h
    omega
  | d + 1 => (ok__law_made T (Nat.le_add_right 70 _) (all__law_made T d)).mono (by omega)
end
section
def atsL (ns : List Nat) : List Tr := ns.map Tr.at
theorem moms_ats : ∀ ns : List Nat, momsL (atsL ns) = ns
  | [] => by simp [atsL, momsL]
  | n :: ns => by
    have ih := moms_ats ns
    unfold atsL at ih ⊢
    rw [List.map_cons]
    simp [momsL, Tr.moms, ih]
theorem ok_ats : ∀ ns : List Nat, okL_ (atsL ns)
  | [] => by
    unfold atsL okL_
    trivial
  | n :: ns => by
    have ih := ok_ats ns
    unfold atsL at ih ⊢
    rw [List.map_cons]
    unfold okL_ Tr.ok
    exact ⟨trivial, ih⟩
theorem nest_ats : ∀ ns : List Nat, nestL (atsL ns) = 0
  | [] => by simp [atsL, nestL]
  | n :: ns => by
    have ih := nest_ats ns
    unfold atsL at ih ⊢
    rw [List.map_cons]
    simp [nestL, Tr.nest, ih]
theorem spr_ats {ns : List Nat} (h : ns.Pairwise (· < ·)) (hl : ns.length ≤ 1440) : sprB (atsL ns) = true := by
  unfold sprB
  rw [ris_of (ok_ats ns) (by rw [moms_ats]; exact h), decide_eq_true (by rw [moms_ats]; exact hl)]
  rfl
theorem lc_flat {K : PySem.W.Frag} {J : It} {Gd Qd : Hp → Prop} {G0 : Hp} {D : Addr} {ns : List Nat} {g : TG} {tt : TT} {te : TE} {vs : List Nat} {σ : L2.St} (nD : G0 D = none) (w : L2.Walk J (natV ns).length Gd (L2.YAt (natV ns))) (hG : ∀ H, Ex G0 H → Gd H) (hn : ns.length ≤ 2000)
    (hs : ∀ (n : Nat) (H : Hp) (acc : List V) (N : Hp → Prop), Ex G0 H → H D = some (.lst acc) → acc.length < sizeLine → (∀ x H4, Ex H H4 → H4 D = some (.lst acc) → AtAt K H4 x n → N (upd H4 D (.lst (acc ++ [.ref x])))) → L3.Turn g tt te vs σ D (.int (n : Nat)) H N)
    (hd : ∀ as H, Ex G0 H → H D = some (.lst (as.map V.ref)) → ShsAt K H (atsL ns) as → Qd H) :
    ∃ W : Nat → Nat → Hp → Prop, (∃ m, W 0 m (upd G0 D (.lst []))) ∧ ∀ i m H, W i m H →
      (J.stop i H ∧ Qd H) ∨ (J.go i H ∧ ∃ Nx : Hp → Prop, (∀ H', Nx H' → ∃ m', m' < m ∧ W (i + 1) m' H') ∧ ∀ x H', J.yld i H x H' → L3.Turn g tt te vs σ D x H' Nx) := by
  refine lc_any w (fun i acc G => Ex G0 G ∧ (G D = none ∨ ∃ xs, G D = some (.lst xs)) ∧ ∃ as, acc = as.map V.ref ∧ ShsAt K G (atsL (ns.take i)) as) (fun i acc G z e => ?_) ⟨.refl _, .inl nD, [], rfl, by unfold atsL ShsAt; rfl⟩ (by rw [natV_len]; omega) (fun i acc G e => ?_) (fun i acc G e => hG _ e.1) (fun i x G G' acc N hi e hA la y k _ => ?_) (fun acc G e hA => ?_)
  · obtain ⟨e1, e2, as, e3, e4⟩ := e
    refine ⟨ex_mut e1 nD, .inr ⟨z, upd_same⟩, as, e3, e4.oth ((Oth.refl D G).upd) fun ob h => ?_⟩
    rcases e2 with h2 | ⟨xs, h2⟩
    · rw [h2] at h
      cases h
    · rw [h2] at h
      cases h
      exact ⟨xs, rfl⟩
  · obtain ⟨_, _, as, rfl, h1⟩ := e
    rw [List.length_map, h1.len]
    unfold atsL
    rw [List.length_map, List.length_take]
    omega
  · obtain ⟨rfl, y⟩ := y
    obtain ⟨XG, _, as, rfl, h1⟩ := e
    rw [natV_len] at hi
    have gi : ns[i]? = some ns[i] := List.getElem?_eq_getElem hi
    obtain rfl : x = .int ((ns[i] : Nat) : Int) := by
      unfold natV at y
      rw [List.getElem?_map, gi] at y
      exact (Option.some.inj y).symm
    refine hs _ _ _ _ XG hA la fun x H4 X4 hD4 hx => k _ H4 hD4 ⟨XG.trans X4, .inr ⟨_, hD4⟩, as ++ [x], by rw [List.map_append]; rfl, ?_⟩
    have e : atsL (ns.take (i + 1)) = atsL (ns.take i) ++ [.at ns[i]] := by
      rw [take_snoc gi]
      unfold atsL
      rw [List.map_append]
      rfl
    rw [e]
    exact (h1.mono X4).snoc (t := .at ns[i]) (by unfold ShAt; exact hx)
  · obtain ⟨XG, _, as, rfl, h1⟩ := e
    rw [natV_len, List.take_length] at h1
    exact hd as G XG hA h1
end
section
def sp__law_flat (K : PySem.W.Frag) : Sp := fun vs H Q _ => ∃ (d : Addr) (ns : List Nat), vs = [.ref d] ∧ H d = some (.lst (natV ns)) ∧ ns.Pairwise (· < ·) ∧ ns.length ≤ 1440 ∧ ∀ x H', Ex H H' → H x = none → SprAt K H' x (atsL ns) → HeldN K (fun b => H b = none) H' x → Q (.ref x) H'
theorem fb__law_flat {P : Program} {w : World} {K : PySem.W.Frag} {mg : Str → Option Value} {base : Heap} (T : Env K mg) : ∃ fd, FunD K "_law_flat" "_law_flat" (defArgs s__law_flat) (defBody s__law_flat) (defScope s__law_flat) [] [] (He.ga K "_law_flat") fd ∧ Fb P w K mg base 110 (He.ga K "_law_flat") fd ["_law_moments_here"] (sp__law_flat K) := by
  obtain ⟨fd, F⟩ := T.f__law_flat
  refine ⟨fd, F, fb_of F sc__law_flat (fun vs H Q E h => ?_) (fun cdv A outer s H vs Q E hr h => ?_)⟩
  · obtain ⟨d, ns, rfl, _⟩ := h
    rfl
  · obtain ⟨d, ns, rfl, hd, pw, hl, q⟩ := h
    refine ⟨_, (pss_one (ps_ret (c_make T.mk_Spread (ok_Spread_init T) (hr.mono (by decide)) T.g_Spread takes0 (pa_cons (pe_lc (own := [("_law_moment", 1)]) (by rfl) sc__law_flat.nd (pi_list (pv 0)) (blkOk_by (own := [("_law_moment", 1)]) (N := ["_law_moments_here", "_law_moment"]) (sc := defScope s__law_flat) (by decide +kernel)) (fun _ _ _ _ _ => (pg_name (i := 1) sc__law_flat.nd rfl (Or.inl rfl))) (fun _ _ _ _ _ => pts_nil) (fun _ _ _ _ _ => (c_make T.mk_At (ok_At_init T) (hr.mono (by decide)) T.g_At takes0 (pa_cons (pv 1) pa_nil)))) pa_nil)))), ?_⟩
    refine ⟨_, rfl, _, rfl, ⟨_, (sq_lst hd)⟩, ?_⟩
    intro D nD
    refine lc_flat (K := K) nD L2.walk_list (fun G e => sq_lst (K := K) (e _ _ hd)) (by omega) (fun n G acc N XG hD la k => ?_) (fun as G1 X1 hD hSh => ?_)
    · refine ⟨rfl, _, rfl, fun x dx nx nd ne => at_new nx nd ne fun G2 X2 hx => ⟨rfl, acc, X2 _ _ hD, la, ?_⟩⟩
      exact k x G2 X2 (X2 _ _ hD) hx
    refine fun y dy ny ndy ney => spread_newH ny ndy ney (.inl hD) hSh (by rw [nest_ats]; decide) (ok_ats _) (spr_ats pw (by omega)) fun H2 X2 hSp hN => ⟨rfl, ?_⟩
    exact q y H2 (X1.trans X2) (ex_fresh X1 ny) hSp (fun dx kp hd z => ex_fresh X1 (hN dx kp hd z))
theorem ok__law_flat {P : Program} {w : World} {K : PySem.W.Frag} {mg : Str → Option Value} {base : Heap} (T : Env K mg) : Fc P w K mg base 110 (He.ga K "_law_flat") [] (sp__law_flat K ) := by
  obtain ⟨fd, D, F⟩ := fb__law_flat T
  exact F.all (D.bindsN fun _ _ _ _ _ _ us hl => match us, hl with | [_], _ => rfl)
end
section
theorem cut_dropV (xs : List V) (n : Nat) : cutV xs (some (n : Int)) none = xs.drop n := by
  unfold cutV
  rw [HT.sIx_none, HT.sIx_nat]
  by_cases h : n ≤ xs.length
  · rw [Nat.min_eq_left h]
    exact List.take_of_length_le (by rw [List.length_drop]; exact Nat.le_refl _)
  · rw [Nat.min_eq_right (by omega), List.drop_of_length_le (Nat.le_refl _), List.drop_of_length_le (by omega), List.take_nil]
theorem cut_takeV (xs : List V) (n : Nat) : cutV xs none (some (n : Int)) = xs.take n := by
  unfold cutV
  rw [HT.sIx_none, HT.sIx_nat, List.drop_zero, Nat.sub_zero]
  by_cases h : n ≤ xs.length
  · rw [Nat.min_eq_left h]
  · rw [Nat.min_eq_right (by omega), List.take_of_length_le (Nat.le_refl _), List.take_of_length_le (by omega)]
end
section
theorem natV_drop (ns : List Nat) (n : Nat) : (natV ns).drop n = natV (ns.drop n) := by
  unfold natV
  rw [List.map_drop]
theorem natV_take (ns : List Nat) (n : Nat) : (natV ns).take n = natV (ns.take n) := by
  unfold natV
  rw [List.map_take]
end
section
def gN (ns : List Nat) (i : Nat) : Nat := ns.getD i 0
theorem natV_at {ns : List Nat} {i : Int} {k : Nat} (e : i = (k : Int)) (h : k < ns.length) : atI (natV ns) i = some (.int ((gN ns k : Nat) : Int)) := by
  subst e
  refine atI_nat (natV_get ?_)
  unfold gN
  rw [List.getD_eq_getElem?_getD, List.getElem?_eq_getElem h]
  rfl
/-- at a a paper -/
def PapAt (K : PySem.W.Frag) (H : Hp) (a : Addr) (pap : List (List Int)) : Prop := ∃ as : List Addr, SqS K H a (as.map V.ref) ∧ as.length = pap.length ∧ ∀ (i : Nat) (b : Addr) (r : List Int), as[i]? = some b → pap[i]? = some r → SqS K H b (r.map V.int)
theorem PapAt.mono {K : PySem.W.Frag} {H H' : Hp} {a : Addr} {pap : List (List Int)} (h : PapAt K H a pap) (e : Ex H H') : PapAt K H' a pap := by
  obtain ⟨as, h1, h2, h3⟩ := h
  exact ⟨as, h1.mono e, h2, fun i b r hi hr => (h3 i b r hi hr).mono e⟩
theorem PapAt.get {K : PySem.W.Frag} {H : Hp} {a : Addr} {pap : List (List Int)} (h : PapAt K H a pap) {x : Int} {i : Nat} (e : x = (i : Int)) (hi : i < pap.length) : ∃ (b : Addr) (xs : List V), SqS K H a xs ∧ atI xs x = some (.ref b) ∧ SqS K H b ((pap.getD i []).map V.int) := by
  obtain ⟨as, h1, h2, h3⟩ := h
  have ha : i < as.length := by omega
  have e1 := List.getElem?_eq_getElem ha
  have e2 := List.getElem?_eq_getElem hi
  refine ⟨as[i], _, h1, ?_, ?_⟩
  · rw [e]
    exact atI_nat (by rw [List.getElem?_map, e1]; rfl)
  · have e3 : pap.getD i [] = pap[i] := by rw [List.getD_eq_getElem?_getD, e2]; rfl
    rw [e3]
    exact h3 i _ _ e1 e2
end
section
def sp__law_near (K : PySem.W.Frag) : Sp := fun vs H Q _ => ∃ (p d : Addr) (ns : List Nat), vs = [.ref p, .ref d] ∧ Pot H p ∧ d ≠ p ∧ H d = some (.lst (natV ns)) ∧ ns.Pairwise (· < ·) ∧ ns.length ≤ 1439 ∧ ∀ (r : Addr) (ms : List Nat) H', PotOn H H' p → r ≠ p → H' r = some (.lst (natV ms)) → ms.Pairwise (· < ·) → ms ≠ ns → ms.length ≤ ns.length + 1 → Q (.ref r) H'
theorem near_end {ns : List Nat} {g : Nat} (pw : ns.Pairwise (· < ·)) (h : ∀ n ∈ ns, n < g) : (ns ++ [g]).Pairwise (· < ·) :=
  List.pairwise_append.mpr ⟨pw, List.pairwise_singleton _ _, fun a ha b hb => by cases List.mem_singleton.mp hb; exact h a ha⟩
theorem near_cut {ns : List Nat} {k : Nat} (hk : k < ns.length) : ns = ns.take k ++ ns[k] :: ns.drop (k + 1) := by
  rw [← List.drop_eq_getElem_cons hk, List.take_append_drop]
theorem near_less {ns : List Nat} {k : Nat} (pw : ns.Pairwise (· < ·)) (hk : k < ns.length) : (ns.take k ++ ns.drop (k + 1)).Pairwise (· < ·) ∧ ns.take k ++ ns.drop (k + 1) ≠ ns := by
  refine ⟨?_, fun e => ?_⟩
  · have h := pw
    rw [near_cut hk] at h
    obtain ⟨h1, h2, h3⟩ := List.pairwise_append.mp h
    exact List.pairwise_append.mpr ⟨h1, (List.pairwise_cons.mp h2).2, fun a ha b hb => h3 a ha b (List.mem_cons_of_mem _ hb)⟩
  · have := congrArg List.length e
    rw [List.length_append, List.length_take, List.length_drop] at this
    omega
theorem near_more {ns : List Nat} {k : Nat} (pw : ns.Pairwise (· < ·)) (hk : k < ns.length) (hn : ns[k] + 1 ∉ ns) : (ns.take k ++ [ns[k] + 1] ++ ns.drop (k + 1)).Pairwise (· < ·) ∧ ns.take k ++ [ns[k] + 1] ++ ns.drop (k + 1) ≠ ns := by
  refine ⟨?_, fun e => ?_⟩
  · have h := pw
    rw [near_cut hk] at h
    obtain ⟨h1, h2, h3⟩ := List.pairwise_append.mp h
    obtain ⟨h4, h5⟩ := List.pairwise_cons.mp h2
    rw [List.append_assoc]
    refine List.pairwise_append.mpr ⟨h1, List.pairwise_cons.mpr ⟨fun b hb => ?_, h5⟩, fun a ha b hb => ?_⟩
    · have := h4 b hb
      have : b ≠ ns[k] + 1 := fun z => hn (z ▸ List.mem_of_mem_drop hb)
      omega
    · rcases List.mem_cons.mp hb with rfl | hb
      · have := h3 a ha _ List.mem_cons_self
        omega
      · exact h3 a ha b (List.mem_cons_of_mem _ hb)
  · have h6 : (ns.take k ++ [ns[k] + 1] ++ ns.drop (k + 1))[k]? = some (ns[k] + 1) := by
      rw [List.append_assoc, List.getElem?_append_right (by rw [List.length_take]; omega), List.length_take, Nat.min_eq_left (by omega), Nat.sub_self]
      rfl
    rw [e, List.getElem?_eq_getElem hk] at h6
    have := Option.some.inj h6
    omega
theorem natVapp (a b : List Nat) : natV (a ++ b) = natV a ++ natV b := by
  unfold natV
  rw [List.map_append]
theorem any_natD (m : Nat) : ∀ ns : List Nat, (natD ns).any (fun z => PyData.eqv z (.int (m : Nat))) = decide (m ∈ ns)
  | [] => rfl
  | x :: ns => by
    have ih := any_natD m ns
    show (decide (((x : Nat) : Int) = ((m : Nat) : Int)) || (natD ns).any _) = _
    rw [ih]
    by_cases c : x = m
    · subst c
      simp
    · have : ¬ ((x : Nat) : Int) = ((m : Nat) : Int) := fun z => c (by omega)
      simp [this, Ne.symm c]
theorem fb__law_near {P : Program} {w : World} {K : PySem.W.Frag} {mg : Str → Option Value} {base : Heap} (T : Env K mg) : ∃ fd, FunD K "_law_near" "_law_near" (defArgs s__law_near) (defBody s__law_near) (defScope s__law_near) [] [] (He.ga K "_law_near") fd ∧ Fb P w K mg base 4 (He.ga K "_law_near") fd ["_law_pot_here", "_law_moments_here"] (sp__law_near K) := by
  obtain ⟨fd, F⟩ := T.f__law_near
  refine ⟨fd, F, fb_of F sc__law_near (fun vs H Q E h => ?_) (fun cdv A outer s H vs Q E hr h => ?_)⟩
  · obtain ⟨p, d, ns, rfl, _⟩ := h
    rfl
  · obtain ⟨p, d, ns, rfl, hp, dp, hd, pw, hl, q⟩ := h
    refine ⟨_, (pss_cons (ps_set (i := 2) sc__law_near.nd rfl (Or.inl rfl) (c_call (ok__law_draw T) (hr.mono (by decide)) T.g__law_draw T.k__law_draw takes0 (pa_cons (pv 0) (pa_cons pe_int pa_nil))))
      (pss_cons (ps_set (i := 3) sc__law_near.nd rfl (Or.inl rfl) (c_call (ok__law_draw T) (hr.mono (by decide)) T.g__law_draw T.k__law_draw takes0 (pa_cons (pv 0) (pa_cons (pe_op op_add (pe_callB call_len (by rfl) T.n_len (by decide +kernel) (pa_cons (pv 1) pa_nil)) pe_int) pa_nil))))
      (pss_cons (ps_if (PW.pt (pw_or (pt_cmpR op_eq (pv 3) (pe_callB call_len (by rfl) T.n_len (by decide +kernel) (pa_cons (pv 1) pa_nil)) (nomark _)) (pw_or1 (pt_cmpR op_eq (pv 2) pe_int (nomark _)))))
      (pss_cons (ps_set (i := 4) sc__law_near.nd rfl (Or.inl rfl) (pe_un un_neg pe_int))
      (Evl.pss_cut (ps_if (pt_cmpR (op_neE hr.rm.units) (pv 1) (pe_lst pa_nil) (nomark _))
      (pss_one (ps_set (i := 4) sc__law_near.nd rfl (Or.inl rfl) (pe_ix ix_list (pv 1) (pe_un un_neg pe_int) (fun _ _ => rfl))))
      pss_nil)
      (pss_one (ps_ret (pe_op op_cat (pv 1) (pe_lst (pa_cons (pe_op op_add (pe_op op_add (pv 4) pe_int) (c_call (ok__law_gap T) (hr.mono (by decide)) T.g__law_gap T.k__law_gap takes0 (pa_cons (pv 0) pa_nil))) pa_nil)))))))
      pss_nil)
      (pss_cons (ps_if (PW.pt (pw_or (pt_cmpR op_eq (pv 2) pe_int (nomark _)) (pw_or1 (pt_cmpR (op_inD (room65 hr.rm)) (pe_op op_add (pe_ix ix_list (pv 1) (pv 3) (fun _ _ => rfl)) pe_int) (pv 1) (by rfl)))))
      (pss_one (ps_ret (pe_op op_cat (pe_slice sl_list (pv 1) po_none (po_some (pv 3))) (pe_slice sl_list (pv 1) (po_some (pe_op op_add (pv 3) pe_int)) po_none))))
      pss_nil)
      (pss_one (ps_ret (pe_op op_cat (pe_op op_cat (pe_slice sl_list (pv 1) po_none (po_some (pv 3))) (pe_lst (pa_cons (pe_op op_add (pe_ix ix_list (pv 1) (pv 3) (fun _ _ => rfl)) pe_int) pa_nil))) (pe_slice sl_list (pv 1) (po_some (pe_op op_add (pv 3) pe_int)) po_none)))))))), ?_⟩
    refine ⟨_, rfl, _, _, rfl, hp, (by decide), (by decide), ?_⟩
    intro way H1 w0 w1 P1
    have hd1 := P1.2 _ _ dp hd
    refine ⟨_, rfl, _, rfl, _, _, rfl, (.inl ⟨_, ⟨(sq_lst hd1), rfl⟩⟩), _, _, rfl, rfl, _, _, rfl, P1.1, (by omega), ?_⟩
    rw [natV_len]
    refine ⟨by omega, fun at_ H2 a0 a1 P2 => ?_⟩
    obtain ⟨k, rfl⟩ := Int.eq_ofNat_of_zero_le a0
    have P02 := P1.trans P2
    have hd2 := P02.2 _ _ dp hd
    clear P1 P2 hd1 H1
    have e1 : decide (V.int (k : Nat) = V.int ((natV ns).length : Nat)) = decide (k = ns.length) := by
      rw [vint_dec, natV_len]
      exact decide_eq_decide.mpr (by omega)
    refine ⟨_, rfl, _, rfl, _, _, rfl, (.inl ⟨_, ⟨(sq_lst hd2), rfl⟩⟩), rfl, _, rfl, ?_⟩
    try dsimp only [tNil]
    rw [e1]
    refine ite2 (fun c => iteT ?_) (fun c => ?_)
    · refine ⟨_, rfl, fun σ' G => ∃ g0 : Nat, (∀ n ∈ ns, n < g0) ∧ σ' = [some (.ref p), some (.ref d), some (.int way), some (.int (k : Nat)), some (.int ((g0 : Int) - 1))] ∧ Ex H2 G, ?_, ?_⟩
      · refine ⟨_, rfl, (by show 0 ≤ sizeLine; decide), fun u nu => ?_⟩
        have X := ex_new (o := HO.lst []) nu
        have hu : upd H2 u (HO.lst []) u = some (HO.lst []) := upd_same
        generalize upd H2 u (HO.lst []) = G at X hu ⊢
        refine ⟨_, _, _, rfl, rfl, sq_lst (X _ _ hd2), sq_lst hu, _, rfl, ?_⟩
        by_cases n0 : ns = []
        · subst n0
          exact iteF ⟨0, nofun, rfl, X⟩
        · have i0 : (natV ns).isEmpty = false := by
            cases ns with
            | nil => exact absurd rfl n0
            | cons x l => rfl
          rw [i0]
          refine iteT ?_
          refine ⟨_, rfl, _, rfl, d, _, _, _, rfl, rfl, sq_lst (X _ _ hd2), at_lastN n0, ?_⟩
          refine ⟨ns.getLastD 0 + 1, fun n hn => Nat.lt_succ_of_le (le_lastD pw n hn), ?_, X⟩
          show _ = [_, _, _, _, some (V.int (((ns.getLastD 0 + 1 : Nat) : Int) - 1))]
          rw [show (((ns.getLastD 0 + 1 : Nat) : Int) - 1) = ((ns.getLastD 0 : Nat) : Int) by omega]
          rfl
      · rintro σ' G ⟨g0, hg0, rfl, X⟩
        have PG := P02.ex2 X
        have hdG := X _ _ hd2
        refine ⟨_, rfl, _, rfl, _, _, rfl, rfl, _, rfl, _, rfl, PG.1, ?_⟩
        intro g H3 hg P3
        have P03 := PG.trans P3
        have hd3 := P03.2 _ _ dp hd
        refine ⟨_, _, rfl, rfl, (by show 1 ≤ sizeLine; decide), fun u2 nu2 => ?_⟩
        have X2 := ex_new (o := HO.lst [V.int ((g0 : Int) - 1 + 1 + (g : Nat))]) nu2
        have hu2 : upd H3 u2 (HO.lst [V.int ((g0 : Int) - 1 + 1 + (g : Nat))]) u2 = some (HO.lst [V.int ((g0 : Int) - 1 + 1 + (g : Nat))]) := upd_same
        generalize upd H3 u2 (HO.lst [V.int ((g0 : Int) - 1 + 1 + (g : Nat))]) = G2 at X2 hu2 ⊢
        have hd4 := X2 _ _ hd3
        have P04 := P03.ex2 X2
        refine ⟨_, _, _, _, rfl, rfl, hd4, hu2, ?_⟩
        refine ⟨by rw [natV_len]; exact sz_big (by show ns.length + 1 ≤ _; omega), fun r nr => ?_⟩
        have e3 : natV ns ++ [V.int ((g0 : Int) - 1 + 1 + (g : Nat))] = natV (ns ++ [g0 + g]) := by
          rw [show (g0 : Int) - 1 + 1 + (g : Nat) = ((g0 + g : Nat) : Int) by omega]
          exact natV_snoc ns _
        rw [e3]
        exact q r _ _ (P04.ex2 (ex_new nr)) (pot_ne P04 nr) upd_same (near_end pw fun n hn => Nat.lt_of_lt_of_le (hg0 n hn) (Nat.le_add_right _ _)) (fun z => by have := congrArg List.length z; rw [List.length_append] at this; simp at this) (by rw [List.length_append]; simp)
    · have hkl : k < ns.length := by
        have c := of_decide_eq_false (Bool.eq_false_iff.mpr c)
        omega
      have ak := natV_at (ns := ns) (i := (k : Int)) rfl hkl
      refine ⟨_, rfl, rfl, _, rfl, ite2 (fun c => ?_) (fun c => ?_)⟩
      · refine ⟨_, rfl, fun σ' G => ∃ g0 : Nat, (∀ n ∈ ns, n < g0) ∧ σ' = [some (.ref p), some (.ref d), some (.int way), some (.int (k : Nat)), some (.int ((g0 : Int) - 1))] ∧ Ex H2 G, ?_, ?_⟩
        · refine ⟨_, rfl, (by show 0 ≤ sizeLine; decide), fun u nu => ?_⟩
          have X := ex_new (o := HO.lst []) nu
          have hu : upd H2 u (HO.lst []) u = some (HO.lst []) := upd_same
          generalize upd H2 u (HO.lst []) = G at X hu ⊢
          refine ⟨_, _, _, rfl, rfl, sq_lst (X _ _ hd2), sq_lst hu, _, rfl, ?_⟩
          by_cases n0 : ns = []
          · subst n0
            exact iteF ⟨0, nofun, rfl, X⟩
          · have i0 : (natV ns).isEmpty = false := by
              cases ns with
              | nil => exact absurd rfl n0
              | cons x l => rfl
            rw [i0]
            refine iteT ?_
            refine ⟨_, rfl, _, rfl, d, _, _, _, rfl, rfl, sq_lst (X _ _ hd2), at_lastN n0, ?_⟩
            refine ⟨ns.getLastD 0 + 1, fun n hn => Nat.lt_succ_of_le (le_lastD pw n hn), ?_, X⟩
            show _ = [_, _, _, _, some (V.int (((ns.getLastD 0 + 1 : Nat) : Int) - 1))]
            rw [show (((ns.getLastD 0 + 1 : Nat) : Int) - 1) = ((ns.getLastD 0 : Nat) : Int) by omega]
            rfl
        · rintro σ' G ⟨g0, hg0, rfl, X⟩
          have PG := P02.ex2 X
          have hdG := X _ _ hd2
          refine ⟨_, rfl, _, rfl, _, _, rfl, rfl, _, rfl, _, rfl, PG.1, ?_⟩
          intro g H3 hg P3
          have P03 := PG.trans P3
          have hd3 := P03.2 _ _ dp hd
          refine ⟨_, _, rfl, rfl, (by show 1 ≤ sizeLine; decide), fun u2 nu2 => ?_⟩
          have X2 := ex_new (o := HO.lst [V.int ((g0 : Int) - 1 + 1 + (g : Nat))]) nu2
          have hu2 : upd H3 u2 (HO.lst [V.int ((g0 : Int) - 1 + 1 + (g : Nat))]) u2 = some (HO.lst [V.int ((g0 : Int) - 1 + 1 + (g : Nat))]) := upd_same
          generalize upd H3 u2 (HO.lst [V.int ((g0 : Int) - 1 + 1 + (g : Nat))]) = G2 at X2 hu2 ⊢
          have hd4 := X2 _ _ hd3
          have P04 := P03.ex2 X2
          refine ⟨_, _, _, _, rfl, rfl, hd4, hu2, ?_⟩
          refine ⟨by rw [natV_len]; exact sz_big (by show ns.length + 1 ≤ _; omega), fun r nr => ?_⟩
          have e3 : natV ns ++ [V.int ((g0 : Int) - 1 + 1 + (g : Nat))] = natV (ns ++ [g0 + g]) := by
            rw [show (g0 : Int) - 1 + 1 + (g : Nat) = ((g0 + g : Nat) : Int) by omega]
            exact natV_snoc ns _
          rw [e3]
          exact q r _ _ (P04.ex2 (ex_new nr)) (pot_ne P04 nr) upd_same (near_end pw fun n hn => Nat.lt_of_lt_of_le (hg0 n hn) (Nat.le_add_right _ _)) (fun z => by have := congrArg List.length z; rw [List.length_append] at this; simp at this) (by rw [List.length_append]; simp)
      · refine ⟨_, rfl, rfl, _, rfl, ?_⟩
        try dsimp only [tNil]
        have gk : gN ns k = ns[k] := by
          unfold gN
          rw [List.getD_eq_getElem?_getD, List.getElem?_eq_getElem hkl]
          rfl
        rw [gk] at ak
        refine ite2 (fun c => iteT ?_) (fun c => ?_)
        · refine ⟨_, rfl, _, rfl, _, rfl, _, _, rfl, (sq_lst hd2), ?_⟩
          intro a2 na2
          have Xa2 := ex_new (o := HO.lst (cutV (natV ns) none (some (↑k : Int)))) na2
          have ha2 : upd H2 a2 (HO.lst (cutV (natV ns) none (some (↑k : Int)))) a2 = some (HO.lst (cutV (natV ns) none (some (↑k : Int)))) := upd_same
          generalize upd H2 a2 (HO.lst (cutV (natV ns) none (some (↑k : Int)))) = Ga2 at Xa2 ha2 ⊢
          refine ⟨_, rfl, _, rfl, _, _, rfl, rfl, _, rfl, _, _, rfl, (sq_lst (Xa2 _ _ hd2)), ?_⟩
          intro a3 na3
          have Xa3 := ex_new (o := HO.lst (cutV (natV ns) (some ((↑k : Int) + 1)) none)) na3
          have ha3 : upd Ga2 a3 (HO.lst (cutV (natV ns) (some ((↑k : Int) + 1)) none)) a3 = some (HO.lst (cutV (natV ns) (some ((↑k : Int) + 1)) none)) := upd_same
          generalize upd Ga2 a3 (HO.lst (cutV (natV ns) (some ((↑k : Int) + 1)) none)) = Ga3 at Xa3 ha3 ⊢
          refine ⟨_, _, _, _, rfl, rfl, (Xa3 _ _ ha2), ha3, ?_⟩
          rw [show ((k : Int) + 1) = ((k + 1 : Nat) : Int) from rfl, cut_dropV, cut_takeV, natV_drop, natV_take]
          have P3 := (P02.ex2 Xa2).ex2 Xa3
          have lw := near_less pw hkl
          refine ⟨sz_big (by rw [natV_len, natV_len, List.length_take, List.length_drop]; omega), fun r nr => ?_⟩
          rw [← natVapp]
          exact q r _ _ (P3.ex2 (ex_new nr)) (pot_ne P3 nr) upd_same lw.1 lw.2 (by rw [List.length_append, List.length_take, List.length_drop]; omega)
        · refine ⟨_, rfl, _, rfl, _, _, _, _, rfl, rfl, (sq_lst hd2), ak, _, _, rfl, rfl, _, rfl, ?_⟩
          refine ⟨.int ((ns[k] + 1 : Nat)), natD ns, .int _, .lst (sq_lst hd2) (dp_nat K _ _), rfl, shaped_nat _, ?_⟩
          rw [any_natD]
          refine ⟨_, rfl, ite2 (fun c2 => ?_) (fun c2 => ?_)⟩
          · refine ⟨_, rfl, _, rfl, _, rfl, _, _, rfl, (sq_lst hd2), ?_⟩
            intro a2 na2
            have Xa2 := ex_new (o := HO.lst (cutV (natV ns) none (some (↑k : Int)))) na2
            have ha2 : upd H2 a2 (HO.lst (cutV (natV ns) none (some (↑k : Int)))) a2 = some (HO.lst (cutV (natV ns) none (some (↑k : Int)))) := upd_same
            generalize upd H2 a2 (HO.lst (cutV (natV ns) none (some (↑k : Int)))) = Ga2 at Xa2 ha2 ⊢
            refine ⟨_, rfl, _, rfl, _, _, rfl, rfl, _, rfl, _, _, rfl, (sq_lst (Xa2 _ _ hd2)), ?_⟩
            intro a3 na3
            have Xa3 := ex_new (o := HO.lst (cutV (natV ns) (some ((↑k : Int) + 1)) none)) na3
            have ha3 : upd Ga2 a3 (HO.lst (cutV (natV ns) (some ((↑k : Int) + 1)) none)) a3 = some (HO.lst (cutV (natV ns) (some ((↑k : Int) + 1)) none)) := upd_same
            generalize upd Ga2 a3 (HO.lst (cutV (natV ns) (some ((↑k : Int) + 1)) none)) = Ga3 at Xa3 ha3 ⊢
            refine ⟨_, _, _, _, rfl, rfl, (Xa3 _ _ ha2), ha3, ?_⟩
            rw [show ((k : Int) + 1) = ((k + 1 : Nat) : Int) from rfl, cut_dropV, cut_takeV, natV_drop, natV_take]
            have P3 := (P02.ex2 Xa2).ex2 Xa3
            have lw := near_less pw hkl
            refine ⟨sz_big (by rw [natV_len, natV_len, List.length_take, List.length_drop]; omega), fun r nr => ?_⟩
            rw [← natVapp]
            exact q r _ _ (P3.ex2 (ex_new nr)) (pot_ne P3 nr) upd_same lw.1 lw.2 (by rw [List.length_append, List.length_take, List.length_drop]; omega)
          · refine ⟨_, rfl, _, rfl, _, rfl, _, _, rfl, (sq_lst hd2), ?_⟩
            intro a2 na2
            have Xa2 := ex_new (o := HO.lst (cutV (natV ns) none (some (↑k : Int)))) na2
            have ha2 : upd H2 a2 (HO.lst (cutV (natV ns) none (some (↑k : Int)))) a2 = some (HO.lst (cutV (natV ns) none (some (↑k : Int)))) := upd_same
            generalize upd H2 a2 (HO.lst (cutV (natV ns) none (some (↑k : Int)))) = Ga2 at Xa2 ha2 ⊢
            refine ⟨_, rfl, _, rfl, _, _, _, _, rfl, rfl, (sq_lst (Xa2 _ _ hd2)), ak, _, _, rfl, rfl, (by show 1 ≤ sizeLine; decide), ?_⟩
            intro a3 na3
            have Xa3 := ex_new (o := HO.lst [V.int ((↑ns[k] : Int) + 1)]) na3
            have ha3 : upd Ga2 a3 (HO.lst [V.int ((↑ns[k] : Int) + 1)]) a3 = some (HO.lst [V.int ((↑ns[k] : Int) + 1)]) := upd_same
            generalize upd Ga2 a3 (HO.lst [V.int ((↑ns[k] : Int) + 1)]) = Ga3 at Xa3 ha3 ⊢
            refine ⟨_, _, _, _, rfl, rfl, (Xa3 _ _ ha2), ha3, ?_⟩
            rw [cut_takeV, natV_take]
            rw [cut_takeV, natV_take] at ha2
            refine ⟨sz_big (by rw [natV_len, List.length_take]; show _ + 1 ≤ _; omega), fun a4 na4 => ?_⟩
            have e4 : natV (ns.take k) ++ [V.int ((ns[k] : Nat) + 1)] = natV (ns.take k ++ [ns[k] + 1]) := natV_snoc _ (ns[k] + 1)
            rw [e4]
            have Xa4 := ex_new (o := HO.lst (natV (ns.take k ++ [ns[k] + 1]))) na4
            have ha4 : upd Ga3 a4 (HO.lst (natV (ns.take k ++ [ns[k] + 1]))) a4 = some (HO.lst (natV (ns.take k ++ [ns[k] + 1]))) := upd_same
            generalize upd Ga3 a4 (HO.lst (natV (ns.take k ++ [ns[k] + 1]))) = Ga4 at Xa4 ha4 ⊢
            have P4 := ((P02.ex2 Xa2).ex2 Xa3).ex2 Xa4
            have hd4 := P4.2 _ _ dp hd
            refine ⟨_, rfl, _, rfl, _, _, rfl, rfl, _, rfl, d, _, rfl, (sq_lst (Xa4 _ _ (Xa3 _ _ (Xa2 _ _ hd2)))), ?_⟩
            intro a5 na5
            have Xa5 := ex_new (o := HO.lst (cutV (natV ns) (some ((↑k : Int) + 1)) none)) na5
            have ha5 : upd Ga4 a5 (HO.lst (cutV (natV ns) (some ((↑k : Int) + 1)) none)) a5 = some (HO.lst (cutV (natV ns) (some ((↑k : Int) + 1)) none)) := upd_same
            generalize upd Ga4 a5 (HO.lst (cutV (natV ns) (some ((↑k : Int) + 1)) none)) = Ga5 at Xa5 ha5 ⊢
            refine ⟨_, _, _, _, rfl, rfl, (Xa5 _ _ ha4), ha5, ?_⟩
            rw [show ((k : Int) + 1) = ((k + 1 : Nat) : Int) from rfl, cut_dropV, natV_drop]
            have P5 := P4.ex2 Xa5
            have mo := near_more pw hkl (of_decide_eq_false (Bool.eq_false_iff.mpr c2))
            refine ⟨sz_big (by rw [natV_len, natV_len, List.length_append, List.length_take, List.length_drop]; show _ + 1 + _ ≤ _; omega), fun r nr => ?_⟩
            rw [← natVapp]
            exact q r _ _ (P5.ex2 (ex_new nr)) (pot_ne P5 nr) upd_same mo.1 mo.2 (by rw [List.length_append, List.length_append, List.length_take, List.length_drop]; show _ + 1 + _ ≤ _; omega)
theorem ok__law_near {P : Program} {w : World} {K : PySem.W.Frag} {mg : Str → Option Value} {base : Heap} (T : Env K mg) : Fc P w K mg base 4 (He.ga K "_law_near") [] (sp__law_near K ) := by
  obtain ⟨fd, D, F⟩ := fb__law_near T
  exact F.all (D.bindsN fun _ _ _ _ _ _ us hl => match us, hl with | [_, _], _ => rfl)
end
section
theorem shs_one {K : PySem.W.Frag} {H : Hp} {t : Tr} {a : Addr} (h : ShAt K H t a) : ShsAt K H [t] [a] := by
  unfold ShsAt
  exact ⟨a, [], rfl, h, by unfold ShsAt; rfl⟩
end
section
def sp__law_halved (K : PySem.W.Frag) : Sp := fun vs H Q _ => ∃ (d : Addr) (ns : List Nat), vs = [.ref d] ∧ H d = some (.lst (natV ns)) ∧ ns.Pairwise (· < ·) ∧ ns.length ≤ 40 ∧ ∀ x ts H', Ex H H' → H x = none → SprAt K H' x ts → momsL ts = ns → Q (.ref x) H'
theorem halved_ok {ns : List Nat} {h st : Nat} (pw : ns.Pairwise (· < ·)) (h1 : 1 ≤ h) (hl : ns.length = 2 * h) (h40 : h ≤ 40) (hs : gN ns h = gN ns 0 + st) (e : (ns.take h).map (fun n => n + st) = ns.drop h) :
    (Tr.ov (atsL (ns.take h)) 2 st).ok ∧ (Tr.ov (atsL (ns.take h)) 2 st).moms = ns ∧ 1 ≤ st := by
  have hk : h < ns.length := by omega
  have g0 : gN ns 0 = (ns.take h).headD 0 := by
    unfold gN
    cases ns with
    | nil =>
      rw [List.length_nil] at hl
      omega
    | cons x l =>
      cases h with
      | zero => omega
      | succ h => rfl
  have gh : gN ns h = ns[h] := by
    unfold gN
    rw [List.getD_eq_getElem?_getD, List.getElem?_eq_getElem hk]
    rfl
  have ne : ns.take h ≠ [] := fun z => by
    have := congrArg List.length z
    rw [List.length_take, List.length_nil] at this
    omega
  have lt : ∀ x ∈ ns.take h, x < ns[h] := fun x hx => by
    have p := pw
    rw [← List.take_append_drop h ns] at p
    exact (List.pairwise_append.mp p).2.2 x hx _ (by rw [List.drop_eq_getElem_cons hk]; exact List.mem_cons_self)
  have l1 := lt _ (headD_mem ne)
  have l2 := lt _ (lastD_mem ne)
  have s1 : 1 ≤ st := by rw [gh, g0] at hs; rw [hs] at l1; omega
  have pt : (ns.take h).Pairwise (· < ·) := pw.sublist (List.take_sublist h ns)
  refine ⟨?_, ?_, s1⟩
  · unfold Tr.ok
    rw [moms_ats]
    refine ⟨fun z => ne (by unfold atsL at z; exact List.map_eq_nil_iff.mp z), Nat.le_refl 2, s1, by rw [List.length_take]; omega, by omega, pt, ok_ats _⟩
  · unfold Tr.moms
    rw [moms_ats, overN_succ, overN_succ]
    show (overN (ns.take h) 0 st ++ (ns.take h).map fun n => n + 0 * st) ++ _ = ns
    have z0 : overN (ns.take h) 0 st = [] := rfl
    have z1 : ((ns.take h).map fun n => n + 0 * st) = ns.take h := by
      conv => rhs; rw [← List.map_id (ns.take h)]
      exact List.map_congr_left fun a _ => by simp
    have z2 : ((ns.take h).map fun n => n + 1 * st) = ns.drop h := by
      rw [← e]
      exact List.map_congr_left fun a _ => by omega
    rw [z0, z1, z2, List.nil_append, List.take_append_drop]
theorem fb__law_halved {P : Program} {w : World} {K : PySem.W.Frag} {mg : Str → Option Value} {base : Heap} (T : Env K mg) : ∃ fd, FunD K "_law_halved" "_law_halved" (defArgs s__law_halved) (defBody s__law_halved) (defScope s__law_halved) [] [] (He.ga K "_law_halved") fd ∧ Fb P w K mg base 112 (He.ga K "_law_halved") fd ["_law_moments_here"] (sp__law_halved K) := by
  obtain ⟨fd, F⟩ := T.f__law_halved
  refine ⟨fd, F, fb_of F sc__law_halved (fun vs H Q E h => ?_) (fun cdv A outer s H vs Q E hr h => ?_)⟩
  · obtain ⟨d, ns, rfl, _⟩ := h
    rfl
  · obtain ⟨d, ns, rfl, hd, pw, hl, q⟩ := h
    refine ⟨_, (pss_cons (ps_set (i := 1) sc__law_halved.nd rfl (Or.inl rfl) (pe_op op_fdiv (pe_callB call_len (by rfl) T.n_len (by decide +kernel) (pa_cons (pv 0) pa_nil)) pe_int))
      (pss_cons (ps_if (PW.pt (pw_or (pt_cmpR op_lt (pe_callB call_len (by rfl) T.n_len (by decide +kernel) (pa_cons (pv 0) pa_nil)) pe_int (nomark _)) (pw_or1 (pt_cmpR op_ne (pe_callB call_len (by rfl) T.n_len (by decide +kernel) (pa_cons (pv 0) pa_nil)) (pe_op op_mul pe_int (pv 1)) (nomark _)))))
      (pss_one (ps_ret (c_call (ok__law_flat T) (hr.mono (by decide)) T.g__law_flat T.k__law_flat takes0 (pa_cons (pv 0) pa_nil))))
      pss_nil)
      (pss_cons (ps_set (i := 2) sc__law_halved.nd rfl (Or.inr rfl) (pe_op op_sub (pe_ix ix_list (pv 0) (pv 1) (fun _ _ => rfl)) (pe_ix ix_list (pv 0) pe_int (fun _ _ => rfl))))
      (pss_cons (ps_if (pt_cmpR (op_neD hr.rm.units) (pe_lc (own := [("_law_moment", 3)]) (by rfl) sc__law_halved.nd (pi_list (pe_slice sl_list (pv 0) po_none (po_some (pv 1)))) (blkOk_by (own := [("_law_moment", 3)]) (N := ["_law_moments_here", "_law_half", "_law_step", "_law_moment"]) (sc := defScope s__law_halved) (by decide +kernel)) (fun _ _ _ _ _ => (pg_name (i := 3) sc__law_halved.nd rfl (Or.inl rfl))) (fun _ _ _ _ _ => pts_nil) (fun _ _ _ _ _ => (pe_op op_add (pv 3) (pv 2)))) (pe_slice sl_list (pv 0) (po_some (pv 1)) po_none) (nomark _))
      (pss_one (ps_ret (c_call (ok__law_flat T) (hr.mono (by decide)) T.g__law_flat T.k__law_flat takes0 (pa_cons (pv 0) pa_nil))))
      pss_nil)
      (pss_one (ps_ret (c_make T.mk_Spread (ok_Spread_init T) (hr.mono (by decide)) T.g_Spread takes0 (pa_cons (pe_lst (pa_cons (c_make T.mk_Over (ok_Over_init T) (hr.mono (by decide)) T.g_Over takes0 (pa_cons (pe_lc (own := [("_law_moment", 3)]) (by rfl) sc__law_halved.nd (pi_list (pe_slice sl_list (pv 0) po_none (po_some (pv 1)))) (blkOk_by (own := [("_law_moment", 3)]) (N := ["_law_moments_here", "_law_half", "_law_step", "_law_moment"]) (sc := defScope s__law_halved) (by decide +kernel)) (fun _ _ _ _ _ => (pg_name (i := 3) sc__law_halved.nd rfl (Or.inl rfl))) (fun _ _ _ _ _ => pts_nil) (fun _ _ _ _ _ => (c_make T.mk_At (ok_At_init T) (hr.mono (by decide)) T.g_At takes0 (pa_cons (pv 3) pa_nil)))) (pa_cons pe_int (pa_cons (pv 2) pa_nil)))) pa_nil)) pa_nil)))))))), ?_⟩
    refine ⟨_, rfl, _, _, rfl, (.inl ⟨_, ⟨(sq_lst hd), rfl⟩⟩), _, _, rfl, rfl, ⟨(by decide), (by decide)⟩, _, rfl, _, _, rfl, (.inl ⟨_, ⟨(sq_lst hd), rfl⟩⟩), _, _, rfl, rfl, _, rfl, ?_⟩
    try dsimp only [tNil]
    rw [natV_len]
    have flat : ∀ G, Ex H G → sp__law_flat K [.ref d] G Q (fun _ _ _ => False) := fun G X => ⟨d, ns, rfl, X _ _ hd, pw, by omega, fun x H' X2 nx hS _ => q x _ H' (X.trans X2) (ex_fresh X nx) hS (moms_ats ns)⟩
    by_cases c1 : ns.length < 2
    · rw [decide_eq_true (show (ns.length : Int) < 2 by omega)]
      refine iteT (iteT ?_)
      exact ⟨_, rfl, flat H (.refl _)⟩
    · rw [decide_eq_false (show ¬ (ns.length : Int) < 2 by omega)]
      refine iteF ?_
      refine ⟨_, rfl, _, _, rfl, (.inl ⟨_, ⟨(sq_lst hd), rfl⟩⟩), _, rfl, _, _, rfl, rfl, (.inl ⟨(by decide), (by decide)⟩), rfl, _, rfl, ?_⟩
      try dsimp only [tNil]
      by_cases c2 : ns.length = 2 * (ns.length / 2)
      · rw [show decide (V.int ((natV ns).length : Nat) = V.int (2 * ((ns.length : Int) / 2))) = true from decide_eq_true (by rw [natV_len]; congr 1; omega)]
        refine iteF ?_
        obtain ⟨h, eh⟩ : ∃ h, h = ns.length / 2 := ⟨_, rfl⟩
        rw [show ((ns.length : Int) / 2) = ((h : Nat) : Int) by omega]
        have at1 := natV_at (ns := ns) (i := (h : Int)) rfl (by omega)
        have at0 := natV_at (ns := ns) (k := 0) (i := (0 : Int)) rfl (by omega)
        have pp : gN ns 0 < gN ns h := by
          unfold gN
          rw [List.getD_eq_getElem?_getD, List.getElem?_eq_getElem (by omega), List.getD_eq_getElem?_getD, List.getElem?_eq_getElem (by omega)]
          exact List.pairwise_iff_getElem.mp pw 0 h (by omega) (by omega) (by omega)
        obtain ⟨st, hst⟩ : ∃ st, gN ns h = gN ns 0 + st := ⟨gN ns h - gN ns 0, by omega⟩
        refine ⟨_, rfl, _, rfl, _, _, _, _, rfl, rfl, (sq_lst hd), at1, _, rfl, _, _, _, _, rfl, rfl, (sq_lst hd), at0, _, _, rfl, rfl, _, rfl, _, rfl, _, rfl, _, _, rfl, (sq_lst hd), ?_⟩
        intro a1 na1
        have Xa1 := ex_new (o := HO.lst (cutV (natV ns) none (some (↑h : Int)))) na1
        have ha1 : upd H a1 (HO.lst (cutV (natV ns) none (some (↑h : Int)))) a1 = some (HO.lst (cutV (natV ns) none (some (↑h : Int)))) := upd_same
        generalize upd H a1 (HO.lst (cutV (natV ns) none (some (↑h : Int)))) = Ga1 at Xa1 ha1 ⊢
        refine ⟨_, rfl, ⟨_, (sq_lst ha1)⟩, ?_⟩
        have ha1' : Ga1 a1 = some (.lst (natV (ns.take h))) := by rw [ha1, cut_takeV, natV_take]
        intro A nA
        refine lc_on (ns.take h) (fun n : Nat => V.int n) L2.walk_list (fun n => some (.int ((n + st : Nat) : Int))) (fun G => Ex Ga1 G) (fun G z e => ex_mut e nA) (.refl _) (by rw [List.length_take]; omega) (fun G e => sq_lst (e _ _ ha1')) (fun j n G acc N_ hn XG hB la k => ?_) fun G1 XG1 dG1 => ?_
        · refine ⟨rfl, _, rfl, _, rfl, _, _, rfl, rfl, acc, hB, la, ?_⟩
          have z := k G XG hB
          have e1 : ((n : Nat) : Int) + (((gN ns h : Nat) : Int) - ((gN ns 0 : Nat) : Int)) = ((n + st : Nat) : Int) := by omega
          rw [← e1] at z
          exact z
        have ed1 : (ns.take h).filterMap (fun n => some (V.int ((n + st : Nat) : Int))) = natV ((ns.take h).map fun n => n + st) := by
          unfold natV
          rw [List.filterMap_eq_map', List.map_map]
          rfl
        rw [ed1] at dG1
        have X1 := Xa1.trans XG1
        have hd1 := X1 _ _ hd
        refine ⟨_, rfl, _, rfl, _, rfl, _, _, rfl, (sq_lst hd1), ?_⟩
        intro a2 na2
        have Xa2 := ex_new (o := HO.lst (cutV (natV ns) (some (↑h : Int)) none)) na2
        have ha2 : upd G1 a2 (HO.lst (cutV (natV ns) (some (↑h : Int)) none)) a2 = some (HO.lst (cutV (natV ns) (some (↑h : Int)) none)) := upd_same
        generalize upd G1 a2 (HO.lst (cutV (natV ns) (some (↑h : Int)) none)) = Ga2 at Xa2 ha2 ⊢
        rw [show ((h : Nat) : Int) = ((h : Nat) : Int) from rfl, cut_dropV, natV_drop] at ha2
        have XA2 := XG1.trans Xa2
        have hd2 := Xa2 _ _ hd1
        have X2 := X1.trans Xa2
        refine ⟨_, _, .lst (sq_lst (Xa2 _ _ dG1)) (dp_nat K _ _), .lst (sq_lst ha2) (dp_nat K _ _), shaped_nat _, shaped_nat _, ?_⟩
        have e1 : PyData.eqv (.list (natD ((ns.take h).map fun n => n + st))) (.list (natD (ns.drop h))) = decide ((ns.take h).map (fun n => n + st) = ns.drop h) := by
          show PyData.eqvAll (natD _) (natD _) = _
          rw [eqv_natD]
        rw [e1]
        by_cases ee : (ns.take h).map (fun n => n + st) = ns.drop h
        · rw [decide_eq_true ee]
          refine ⟨_, rfl, iteF ?_⟩
          obtain ⟨hok, hmo, hs1⟩ := halved_ok pw (by omega) (by omega) (by omega) hst ee
          clear e1 dG1 ha2 ha1 ha1'
          refine ⟨_, rfl, _, rfl, _, rfl, _, _, rfl, (sq_lst hd2), ?_⟩
          intro a3 na3
          have Xa3 := ex_new (o := HO.lst (cutV (natV ns) none (some (↑h : Int)))) na3
          have ha3 : upd Ga2 a3 (HO.lst (cutV (natV ns) none (some (↑h : Int)))) a3 = some (HO.lst (cutV (natV ns) none (some (↑h : Int)))) := upd_same
          generalize upd Ga2 a3 (HO.lst (cutV (natV ns) none (some (↑h : Int)))) = Ga3 at Xa3 ha3 ⊢
          refine ⟨_, rfl, ⟨_, (sq_lst ha3)⟩, ?_⟩
          rw [cut_takeV, natV_take] at ha3
          intro D nD
          refine lc_flat (K := K) nD L2.walk_list (fun G e => sq_lst (K := K) (e _ _ ha3)) (by rw [List.length_take]; omega) (fun n G acc N XG hD la k => ?_) (fun as G4 X4 hD hSh => ?_)
          · refine ⟨rfl, _, rfl, fun x dx nx nd ne => at_new nx nd ne fun G5 X5 hx => ⟨rfl, acc, X5 _ _ hD, la, ?_⟩⟩
            exact k x G5 X5 (X5 _ _ hD) hx
          have est : ((gN ns h : Nat) : Int) - ((gN ns 0 : Nat) : Int) = ((st : Nat) : Int) := by omega
          have hn8 : (Tr.ov (atsL (ns.take h)) 2 st).nest ≤ 8 := by
            unfold Tr.nest
            rw [nest_ats]
            decide
          refine ⟨_, rfl, fun x dx nx nd ne => ⟨rfl, ?_⟩⟩
          rw [show (fun i j => V.int (i - j)) ((gN ns h : Nat) : Int) ((gN ns 0 : Nat) : Int) = V.int (st : Nat) from congrArg V.int est]
          refine over_newT nx nd ne (.inl hD) hSh hok hn8 fun G5 X5 hO => ⟨rfl, ?_⟩
          refine ⟨(by show 1 ≤ sizeLine; decide), ?_⟩
          intro a4 na4
          have Xa4 := ex_new (o := HO.lst [V.ref x]) na4
          have ha4 : upd G5 a4 (HO.lst [V.ref x]) a4 = some (HO.lst [V.ref x]) := upd_same
          generalize upd G5 a4 (HO.lst [V.ref x]) = Ga4 at Xa4 ha4 ⊢
          try dsimp only [tNil]
          have om : momsL [Tr.ov (atsL (ns.take h)) 2 st] = ns := by rw [momsL_one, hmo]
          have ok1 : okL_ [Tr.ov (atsL (ns.take h)) 2 st] := okL_one hok
          have n1 : nestL [Tr.ov (atsL (ns.take h)) 2 st] ≤ 8 := by rw [nestL_one]; exact hn8
          have sp1 : sprB [Tr.ov (atsL (ns.take h)) 2 st] = true := by
            unfold sprB
            rw [ris_of ok1 (by rw [om]; exact pw), decide_eq_true (by rw [om]; omega)]
            rfl
          refine fun z dz nz ndz nez => spread_new nz ndz nez (as := [x]) (.inl ha4) (shs_one (hO.mono Xa4)) n1 ok1 sp1 fun G6 X6 hSp => ⟨rfl, ?_⟩
          have XX := ((((X2.trans Xa3).trans X4).trans X5).trans Xa4)
          exact q z _ G6 (XX.trans X6) (ex_fresh XX nz) hSp om
        · rw [decide_eq_false ee]
          exact ⟨_, rfl, iteT ⟨_, rfl, flat _ X2⟩⟩
      · rw [show decide (V.int ((natV ns).length : Nat) = V.int (2 * ((ns.length : Int) / 2))) = false from decide_eq_false (fun z => c2 (by rw [natV_len] at z; injection z with z; omega))]
        exact iteT ⟨_, rfl, flat _ (.refl _)⟩
theorem ok__law_halved {P : Program} {w : World} {K : PySem.W.Frag} {mg : Str → Option Value} {base : Heap} (T : Env K mg) : Fc P w K mg base 112 (He.ga K "_law_halved") [] (sp__law_halved K ) := by
  obtain ⟨fd, D, F⟩ := fb__law_halved T
  exact F.all (D.bindsN fun _ _ _ _ _ _ us hl => match us, hl with | [_], _ => rfl)
end
section
def sp__law_equal (K : PySem.W.Frag) : Sp := fun vs H Q _ => ∃ (a b : Addr) (ts us : List Tr), vs = [.ref a, .ref b] ∧ SprAt K H a ts ∧ SprAt K H b us ∧ momsL ts = momsL us ∧ ∀ H', Ex H H' → Q (.bl true) H'
theorem fb__law_equal {P : Program} {w : World} {K : PySem.W.Frag} {mg : Str → Option Value} {base : Heap} (T : Env K mg) : ∃ fd, FunD K "_law_equal" "_law_equal" (defArgs s__law_equal) (defBody s__law_equal) (defScope s__law_equal) [] [] (He.ga K "_law_equal") fd ∧ Fb P w K mg base 110 (He.ga K "_law_equal") fd ["_law_one", "_law_other"] (sp__law_equal K) := by
  obtain ⟨fd, F⟩ := T.f__law_equal
  refine ⟨fd, F, fb_of F sc__law_equal (fun vs H Q E h => ?_) (fun cdv A outer s H vs Q E hr h => ?_)⟩
  · obtain ⟨a, b, ts, us, rfl, _⟩ := h
    rfl
  · obtain ⟨a, b, ts, us, rfl, ha, hb, e, q⟩ := h
    refine ⟨_, (pss_cons (ps_if (PW.pt (pw_or (pt_cmpR op_notBl (pe_cmpR (op_eqO (rco_mono (k := 1) (rco_or (rco_LK K T.m_Spread_eq (ok_Spread_eq T)) (rco_RK K T.nb_Spread T.m_Spread_eq (ok_Spread_eq T))) (by decide)) (hr.mono (by decide))) (pv 0) (pv 1) (nomark _)) pe_bl (nomark _)) (pw_or1 (pt_cmpR op_notBl (pe_cmpR (op_neOK K T.nb_Spread T.m_Spread_eq (ok_Spread_eq T) (hr.mono (by decide))) (pv 0) (pv 1) (nomark _)) pe_bl (nomark _)))))
      (pss_one (ps_ret pe_bl))
      pss_nil)
      (pss_one (ps_ret (pe_and (pe_cmpR (op_inOK K (rco_mono (k := 1) (rco_or (rco_LK K T.m_Spread_eq (ok_Spread_eq T)) (rco_RK K T.nb_Spread T.m_Spread_eq (ok_Spread_eq T))) (by decide)) (hr.mono (by decide))) (pv 0) (pe_lst (pa_cons pe_non (pa_cons pe_int (pa_cons (pv 1) pa_nil)))) (by rfl)) (pe_one (pe_cmpR op_eq (pe_bmK K PySem.F.plainAttrs_list PySem.F.slot_list_count PySem.F.type_list_count (mt_countO K (rco_mono (k := 1) (rco_or (rco_LK K T.m_Spread_eq (ok_Spread_eq T)) (rco_RK K T.nb_Spread T.m_Spread_eq (ok_Spread_eq T))) (by decide)) (hr.mono (by decide))) (pe_lst (pa_cons (pv 1) (pa_cons pe_non pa_nil))) (pa_cons (pv 0) pa_nil)) pe_int (nomark _))))))), ?_⟩
    obtain ⟨dx1, kp1, hh1, as1, ha1, _⟩ := id ha
    obtain ⟨dx2, kp2, hh2, as2, ha2, _⟩ := id hb
    have em : decide (momsL ts = momsL us) = true := decide_eq_true e
    refine ⟨_, rfl, _, rfl, .inl ⟨a, _, _, _, rfl, ha1, ty_ins T.i_Spread T.c_Spread ha2, .inl rfl, a, _, rfl, .inl ⟨ts, b, _, ha, rfl, hb, ?_⟩⟩⟩
    rw [em]
    refine ⟨_, _, rfl, rfl, _, rfl, _, rfl, _, rfl, _, _, _, _, rfl, ha1, ty_ins T.i_Spread T.c_Spread ha2, (.inl rfl), _, _, rfl, .inl ⟨ts, b, _, ha, rfl, hb, ?_⟩⟩
    rw [em]
    refine ⟨true, rfl, ?_⟩
    refine ⟨_, _, rfl, rfl, _, rfl, _, rfl, _, rfl, (by show 3 ≤ sizeLine; decide), ?_⟩
    intro a3 na3
    have Xa3 := ex_new (o := HO.lst [V.non, V.int 7, V.ref b]) na3
    have ha3 : upd H a3 (HO.lst [V.non, V.int 7, V.ref b]) a3 = some (HO.lst [V.non, V.int 7, V.ref b]) := upd_same
    generalize upd H a3 (HO.lst [V.non, V.int 7, V.ref b]) = Ga3 at Xa3 ha3 ⊢
    have haG := ha.mono Xa3
    have hbG := hb.mono Xa3
    have X1 := Xa3
    have ha1G := Xa3 _ _ ha1
    have hb1G := Xa3 _ _ ha2
    refine ⟨a, a3, [.non, .int 7, .ref b], rfl, rfl, sq_lst ha3, .inr ⟨nofun, .inr ⟨a, _, _, rfl, ha1G, .non, a, _, rfl, .inr ⟨_, .base .non, T.kit_NoneType_Spread, false, rfl, iteF ?_⟩⟩⟩⟩
    refine ⟨sq_lst ha3, .inr ⟨nofun, .inr ⟨a, _, _, rfl, ha1G, .int _, a, _, rfl, .inr ⟨_, .base (.int _), T.kit_int_Spread, false, rfl, iteF ?_⟩⟩⟩⟩
    have key : ∀ (W : Bool → Hp → Prop), W true Ga3 → inW (rOr (rEqL K (He.ga K ("Spread")) (sp_Spread_eq K)) (rEqR K (He.ga K ("Spread")) (sp_Spread_eq K))) K a3 [V.non, V.int 7, V.ref b] a [V.ref b] Ga3 W := fun W w => ⟨sq_lst ha3, if c : b = a then .inl ⟨by rw [c], w⟩ else .inr ⟨fun z => c (by cases z; rfl), .inl ⟨b, _, _, _, rfl, hb1G, ty_ins T.i_Spread T.c_Spread ha1G, .inl rfl, b, _, rfl, .inl ⟨us, a, ts, hbG, rfl, haG, true, by rw [decide_eq_true e.symm], iteT w⟩⟩⟩⟩
    refine key _ ⟨true, rfl, iteT ?_⟩
    refine ⟨_, rfl, (by show 2 ≤ sizeLine; decide), ?_⟩
    intro a4 na4
    have Xa4 := ex_new (o := HO.lst [V.ref b, V.non]) na4
    have ha4 : upd Ga3 a4 (HO.lst [V.ref b, V.non]) a4 = some (HO.lst [V.ref b, V.non]) := upd_same
    generalize upd Ga3 a4 (HO.lst [V.ref b, V.non]) = Ga4 at Xa4 ha4 ⊢
    refine ⟨(.inl ⟨rfl, ⟨_, (sq_lst ha4)⟩⟩), _, rfl, ?_⟩
    have X02 := Xa3.trans Xa4
    have ha1H := Xa4 _ _ ha1G
    have hb1H := Xa4 _ _ hb1G
    have haH := haG.mono Xa4
    have hbH := hbG.mono Xa4
    refine ⟨a4, [.ref b, .non], a, rfl, rfl, ?_⟩
    have key2 : ∀ (W : Int → Hp → Prop), W 1 Ga4 → cntW (rOr (rEqL K (He.ga K ("Spread")) (sp_Spread_eq K)) (rEqR K (He.ga K ("Spread")) (sp_Spread_eq K))) K a4 [.ref b, .non] a [.ref b, .non] 0 Ga4 W := fun W w => by
      have tl : cntW (rOr (rEqL K (He.ga K ("Spread")) (sp_Spread_eq K)) (rEqR K (He.ga K ("Spread")) (sp_Spread_eq K))) K a4 [.ref b, .non] a [.non] 1 Ga4 W := ⟨sq_lst ha4, .inr ⟨nofun, .inr ⟨a, _, _, rfl, ha1H, .non, a, _, rfl, .inr ⟨_, .base .non, T.kit_NoneType_Spread, false, rfl, sq_lst ha4, w⟩⟩⟩⟩
      exact ⟨sq_lst ha4, if c : b = a then .inl ⟨by rw [c], tl⟩ else .inr ⟨fun z => c (by cases z; rfl), .inl ⟨b, _, _, _, rfl, hb1H, ty_ins T.i_Spread T.c_Spread ha1H, .inl rfl, b, _, rfl, .inl ⟨us, a, ts, hbH, rfl, haH, true, by rw [decide_eq_true e.symm], tl⟩⟩⟩⟩
    refine key2 _ ?_
    refine ⟨rfl, ?_⟩
    try dsimp only [tNil]
    rw [decide_eq_true rfl]
    exact q _ X02
theorem ok__law_equal {P : Program} {w : World} {K : PySem.W.Frag} {mg : Str → Option Value} {base : Heap} (T : Env K mg) : Fc P w K mg base 110 (He.ga K "_law_equal") [] (sp__law_equal K ) := by
  obtain ⟨fd, D, F⟩ := fb__law_equal T
  exact F.all (D.bindsN fun _ _ _ _ _ _ us hl => match us, hl with | [_, _], _ => rfl)
end
section
/-- == by the own one: left, right, right against an instance without one -/
def EqS (K : PySem.W.Frag) : R2 := rOr (rEqL K (He.ga K "Spread") (sp_Spread_eq K)) (rOr (rEqR K (He.ga K "Spread") (sp_Spread_eq K)) (rEqRD K (He.ga K "Spread") (sp_Spread_eq K)))
/-- what is not equal to a spread of these shorts -/
def Unl (K : PySem.W.Frag) (H : Hp) (ts : List Tr) (v : V) : Prop := (∃ b us, v = .ref b ∧ SprAt K H b us ∧ momsL ts ≠ momsL us) ∨
  (∃ t, TyX K H v t ∧ PySem.W.kitOne K t (.ref (SpreadC K)) = some false ∧ (Dec K H v ∨ ∃ b D dy gs, v = .ref b ∧ H b = some (.ins D dy gs) ∧ NoEq K D ∧ NoSub K D (.ref (SpreadC K))) ∧ ∀ b, v = .ref b → ∃ o, H b = some o ∧ ∀ dx fs, o ≠ .ins (SpreadC K) dx fs)
theorem ty_mono {K : PySem.W.Frag} {H H' : Hp} {x : V} {t : Value} (e : Ex H H') (h : TyX K H x t) : TyX K H' x t := by
  cases h with
  | base b =>
    cases b with
    | non => exact .base .non
    | bl b => exact .base (.bl b)
    | int b => exact .base (.int b)
    | str b => exact .base (.str b)
    | flt b => exact .base (.flt b)
    | lst h => exact .base (.lst (e _ _ h))
    | frz h => exact .base (.frz (e _ _ h))
    | tup h => exact .base (.tup (e _ _ h))
    | dK h => exact .base (.dK (e _ _ h))
    | dT h => exact .base (.dT (e _ _ h))
    | ins h c1 c2 c3 c4 c5 => exact .base (.ins (e _ _ h) c1 c2 c3 c4 c5)
  | byt b => exact .byt b
  | set h => exact .set (e _ _ h)
  | kList h c => exact .kList h c
  | kTuple h c => exact .kTuple h c
  | kDict h c => exact .kDict h c
  | fTuple h => exact .fTuple (e _ _ h)
  | fDict h => exact .fDict (e _ _ h)
theorem sql_mono {K : PySem.W.Frag} {H H' : Hp} {a : Addr} {xs : List V} (e : Ex H H') (h : SqL K H a xs) : SqL K H' a xs := by
  rcases h with (h | ⟨o, h⟩) | h
  · exact .inl (.inl (e _ _ h))
  · exact .inl (.inr ⟨o, e _ _ h⟩)
  · exact .inr h
theorem dec_mono {K : PySem.W.Frag} {H H' : Hp} {v : V} (e : Ex H H') (h : Dec K H v) : Dec K H' v := by
  cases h with
  | non => exact .non
  | bl b => exact .bl b
  | int i => exact .int i
  | str z => exact .str z
  | lst h => exact .lst (sql_mono e h)
  | tup h => exact .tup (ex_sqt e h)
  | dK h => exact .dK (e _ _ h)
theorem Unl.mono {K : PySem.W.Frag} {H H' : Hp} {ts : List Tr} {v : V} (e : Ex H H') (u : Unl K H ts v) : Unl K H' ts v := by
  rcases u with ⟨b, us, rfl, h, ne⟩ | ⟨t, ty, kt, h⟩
  · exact .inl ⟨b, us, rfl, h.mono e, ne⟩
  · refine .inr ⟨t, ty_mono e ty, kt, ?_, fun b z => ?_⟩
    · rcases h.1 with h | ⟨b, D, dy, gs, rfl, h, r⟩
      · exact .inl (dec_mono e h)
      · exact .inr ⟨b, D, dy, gs, rfl, e _ _ h, r⟩
    · obtain ⟨o, ho, no⟩ := h.2 b z
      exact ⟨o, e _ _ ho, no⟩
theorem natV_inj : ∀ {a b : List Nat}, natV a = natV b → a = b
  | [], [], _ => rfl
  | [], _ :: _, h => nomatch h
  | _ :: _, [], h => nomatch h
  | x :: a, y :: b, h => by
    unfold natV at h
    rw [List.map_cons, List.map_cons] at h
    injection h with h1 h2
    injection h1 with h1
    rw [natV_inj (a := a) (b := b) (by unfold natV; exact h2), show x = y by omega]
theorem Unl.ne {K : PySem.W.Frag} {H : Hp} {ts : List Tr} {v : V} {a : Addr} (ha : SprAt K H a ts) (u : Unl K H ts v) : v ≠ .ref a := by
  rintro rfl
  obtain ⟨dx, kp, hh, as, h, h1, h2, _⟩ := id ha
  rcases u with ⟨b, us, e, ⟨dy, kq, hk, bs, g, g1, g2, _⟩, ne⟩ | ⟨t, ty, kt, _, h3⟩
  · cases e
    rw [h] at g
    unfold sprF at g
    simp only [Option.some.injEq, HO.ins.injEq, List.cons.injEq, Prod.mk.injEq, V.ref.injEq, true_and, and_true] at g
    obtain ⟨_, _, rfl⟩ := g
    rw [h2] at g2
    injection g2 with g2
    injection g2 with g2
    exact ne (natV_inj g2)
  · obtain ⟨o, ho, no⟩ := h3 a rfl
    rw [h] at ho
    cases ho
    exact no _ _ rfl
theorem unl_eq {K : PySem.W.Frag} {H : Hp} {ts : List Tr} {v : V} {a : Addr} {Q : VK} (cS : ∀ {b : Addr} {us}, SprAt K H b us → TyX K H (.ref b) (.ref (SpreadC K))) (ha : SprAt K H a ts) (u : Unl K H ts v) (q : Q (.bl false) H) : EqS K v (.ref a) H Q := by
  have hne := u.ne ha
  obtain ⟨dx, kp, hh, as, h, _⟩ := id ha
  rcases u with ⟨b, us, rfl, hb, ne⟩ | ⟨t, ty, kt, h2, _⟩
  · obtain ⟨dy, kq, hk, bs, g, _⟩ := id hb
    exact .inl ⟨b, _, _, _, rfl, g, cS ha, .inl rfl, b, _, rfl, .inl ⟨us, a, ts, hb, rfl, ha, by rw [decide_eq_false (Ne.symm ne)]; exact q⟩⟩
  · rcases h2 with d | ⟨b, D, dy, gs, rfl, g, nq, ns⟩
    · exact .inr (.inl ⟨a, _, _, rfl, h, d, a, _, rfl, .inr ⟨t, ty, kt, q⟩⟩)
    · exact .inr (.inr ⟨a, _, _, b, D, _, _, rfl, h, rfl, g, nq, fun z => hne (by rw [z]), ns, a, _, rfl, .inr ⟨t, ty, kt, q⟩⟩)
theorem unl_left {K : PySem.W.Frag} {H : Hp} {ts : List Tr} {v : V} {a : Addr} {Q : VK} (cS : ∀ {b : Addr} {us}, SprAt K H b us → TyX K H (.ref b) (.ref (SpreadC K))) (ha : SprAt K H a ts) (u : Unl K H ts v) (q : Q (.bl false) H) : rEqL K (He.ga K "Spread") (sp_Spread_eq K) (.ref a) v H Q := by
  obtain ⟨dx, kp, hh, as, h, _⟩ := id ha
  rcases u with ⟨b, us, rfl, hb, ne⟩ | ⟨t, ty, kt, h2, _⟩
  · obtain ⟨dy, kq, hk, bs, g, _⟩ := id hb
    exact ⟨a, _, _, _, rfl, h, cS hb, .inl rfl, a, _, rfl, .inl ⟨ts, b, us, ha, rfl, hb, by rw [decide_eq_false ne]; exact q⟩⟩
  · exact ⟨a, _, _, t, rfl, h, ty, .inr kt, a, _, rfl, .inr ⟨t, ty, kt, q⟩⟩
theorem unl_ne {K : PySem.W.Frag} {H : Hp} {ts : List Tr} {v : V} {a : Addr} {Q : VK} (cS : ∀ {b : Addr} {us}, SprAt K H b us → TyX K H (.ref b) (.ref (SpreadC K))) (ha : SprAt K H a ts) (u : Unl K H ts v) (q : Q (.bl true) H) : rNeL K (He.ga K "Spread") (sp_Spread_eq K) (.ref a) v H Q :=
  unl_left (Q := fun v H' => ∃ b, v = .bl b ∧ Q (.bl (!b)) H') cS ha u ⟨false, rfl, q⟩
theorem unl_in {K : PySem.W.Frag} {H : Hp} {ts : List Tr} {p a : Addr} {ys : List V} {Q : Bool → Hp → Prop} (cS : ∀ {b : Addr} {us}, SprAt K H b us → TyX K H (.ref b) (.ref (SpreadC K))) (ha : SprAt K H a ts) (hp : H p = some (.lst ys)) (q : Q false H) : ∀ l : List V, (∀ v ∈ l, Unl K H ts v) → inW (EqS K) K p ys a l H Q
  | [], _ => ⟨sq_lst hp, q⟩
  | v :: l, h => ⟨sq_lst hp, .inr ⟨(h v List.mem_cons_self).ne ha, unl_eq cS ha (h v List.mem_cons_self) ⟨false, rfl, iteF (unl_in cS ha hp q l fun w hw => h w (List.mem_cons_of_mem _ hw))⟩⟩⟩
theorem unl_cnt {K : PySem.W.Frag} {H : Hp} {ts : List Tr} {p a : Addr} {ys : List V} {Q : Int → Hp → Prop} (cS : ∀ {b : Addr} {us}, SprAt K H b us → TyX K H (.ref b) (.ref (SpreadC K))) (ha : SprAt K H a ts) (hp : H p = some (.lst ys)) (q : Q 0 H) : ∀ l : List V, (∀ v ∈ l, Unl K H ts v) → cntW (EqS K) K p ys a l 0 H Q
  | [], _ => ⟨sq_lst hp, q⟩
  | v :: l, h => ⟨sq_lst hp, .inr ⟨(h v List.mem_cons_self).ne ha, unl_eq cS ha (h v List.mem_cons_self) ⟨false, rfl, by rw [if_neg (by decide)]; exact unl_cnt cS ha hp q l fun w hw => h w (List.mem_cons_of_mem _ hw)⟩⟩⟩
theorem unl_base {K : PySem.W.Frag} {H : Hp} {ts : List Tr} {v : V} {t : Value} (ty : TyX K H v t) (kt : PySem.W.kitOne K t (.ref (SpreadC K)) = some false) (d : Dec K H v) (n : ∀ b, v = .ref b → ∃ o, H b = some o ∧ ∀ dx fs, o ≠ .ins (SpreadC K) dx fs) : Unl K H ts v := .inr ⟨t, ty, kt, .inl d, n⟩
def sp__law_unlike (K : PySem.W.Frag) : Sp := fun vs H Q _ => ∃ (a : Addr) (ts : List Tr) (v : V), vs = [.ref a, v] ∧ SprAt K H a ts ∧ ((Unl K H ts v ∧ ∀ H', Ex H H' → Q (.bl true) H') ∨ (∃ b us, v = .ref b ∧ SprAt K H b us ∧ momsL ts = momsL us ∧ Q (.bl false) H))
theorem fb__law_unlike {P : Program} {w : World} {K : PySem.W.Frag} {mg : Str → Option Value} {base : Heap} (T : Env K mg) : ∃ fd, FunD K "_law_unlike" "_law_unlike" (defArgs s__law_unlike) (defBody s__law_unlike) (defScope s__law_unlike) [] [] (He.ga K "_law_unlike") fd ∧ Fb P w K mg base 112 (He.ga K "_law_unlike") fd ["_law_one", "_law_other"] (sp__law_unlike K) := by
  obtain ⟨fd, F⟩ := T.f__law_unlike
  refine ⟨fd, F, fb_of F sc__law_unlike (fun vs H Q E h => ?_) (fun cdv A outer s H vs Q E hr h => ?_)⟩
  · obtain ⟨a, ts, v, rfl, _⟩ := h
    rfl
  · obtain ⟨a, ts, v, rfl, ha, qq⟩ := h
    refine ⟨_, (pss_cons (ps_if (PW.pt (pw_or (pt_cmpR op_notBl (pe_cmpR (op_eqO (rco_mono (k := 1) (rco_or (rco_LK K T.m_Spread_eq (ok_Spread_eq T)) (rco_RK K T.nb_Spread T.m_Spread_eq (ok_Spread_eq T))) (by decide)) (hr.mono (by decide))) (pv 0) (pv 1) (nomark _)) pe_bl (nomark _)) (pw_or1 (pt_cmpR op_notBl (pe_cmpR (op_neOK K T.nb_Spread T.m_Spread_eq (ok_Spread_eq T) (hr.mono (by decide))) (pv 0) (pv 1) (nomark _)) pe_bl (nomark _)))))
      (pss_one (ps_ret pe_bl))
      pss_nil)
      (pss_one (ps_ret (pe_and (pe_cmpR (op_notInO K (rco_mono (k := 1) (rco_or (rco_LK K T.m_Spread_eq (ok_Spread_eq T)) (rco_or (rco_RK K T.nb_Spread T.m_Spread_eq (ok_Spread_eq T)) (rco_RD K T.m_Spread_eq (ok_Spread_eq T)))) (by decide)) (hr.mono (by decide))) (pv 0) (pe_lst (pa_cons pe_non (pa_cons (pv 1) (pa_cons pe_str pa_nil)))) (by rfl)) (pe_one (pe_cmpR op_eq (pe_bmK K PySem.F.plainAttrs_list PySem.F.slot_list_count PySem.F.type_list_count (mt_countO K (rco_mono (k := 1) (rco_or (rco_LK K T.m_Spread_eq (ok_Spread_eq T)) (rco_or (rco_RK K T.nb_Spread T.m_Spread_eq (ok_Spread_eq T)) (rco_RD K T.m_Spread_eq (ok_Spread_eq T)))) (by decide)) (hr.mono (by decide))) (pe_lst (pa_cons (pv 1) (pa_cons pe_int pa_nil))) (pa_cons (pv 0) pa_nil)) pe_int (nomark _))))))), ?_⟩
    have cS : ∀ {G : Hp} {b : Addr} {us}, SprAt K G b us → TyX K G (.ref b) (.ref (SpreadC K)) := fun hb => by
      obtain ⟨dy, kq, hk, bs, g, _⟩ := hb
      exact ty_ins T.i_Spread T.c_Spread g
    rcases qq with ⟨hv, q⟩ | ⟨b, us, rfl, hb, em, q⟩
    case inr =>
      obtain ⟨dx, kp, hh, as, h, _⟩ := id ha
      refine ⟨_, rfl, _, rfl, .inl ⟨a, _, _, _, rfl, h, cS hb, .inl rfl, a, _, rfl, .inl ⟨ts, b, us, ha, rfl, hb, ?_⟩⟩⟩
      rw [decide_eq_true em]
      exact ⟨_, _, rfl, rfl, _, rfl, q⟩
    refine ⟨_, rfl, _, rfl, .inl (unl_left cS ha hv ?_)⟩
    refine ⟨_, _, rfl, rfl, _, rfl, _, rfl, _, rfl, ?_⟩
    refine unl_ne cS ha hv ?_
    refine ⟨_, _, rfl, rfl, _, rfl, _, rfl, _, rfl, (by show 3 ≤ sizeLine; decide), ?_⟩
    intro a1 na1
    have Xa1 := ex_new (o := HO.lst [V.non, v, V.str (Str.ofString "-")]) na1
    have ha1 : upd H a1 (HO.lst [V.non, v, V.str (Str.ofString "-")]) a1 = some (HO.lst [V.non, v, V.str (Str.ofString "-")]) := upd_same
    generalize upd H a1 (HO.lst [V.non, v, V.str (Str.ofString "-")]) = Ga1 at Xa1 ha1 ⊢
    have hb : ∀ {G : Hp}, Unl K G ts .non ∧ Unl K G ts (.str (Str.ofString "-")) ∧ Unl K G ts (.int 7) := ⟨unl_base (.base .non) T.kit_NoneType_Spread .non nofun, unl_base (.base (.str _)) T.kit_str_Spread (.str _) nofun, unl_base (.base (.int _)) T.kit_int_Spread (.int _) nofun⟩
    have ha1' := ha.mono Xa1
    refine ⟨a, a1, _, rfl, rfl, unl_in cS ha1' ha1 ?_ _ fun w hw => ?_⟩
    · refine ⟨true, rfl, iteT ?_⟩
      refine ⟨_, rfl, (by show 2 ≤ sizeLine; decide), ?_⟩
      intro a2 na2
      have Xa2 := ex_new (o := HO.lst [v, V.int 7]) na2
      have ha2 : upd Ga1 a2 (HO.lst [v, V.int 7]) a2 = some (HO.lst [v, V.int 7]) := upd_same
      generalize upd Ga1 a2 (HO.lst [v, V.int 7]) = Ga2 at Xa2 ha2 ⊢
      refine ⟨(.inl ⟨rfl, ⟨_, (sq_lst ha2)⟩⟩), _, rfl, ?_⟩
      have X2 := Xa1.trans Xa2
      refine ⟨a2, _, a, rfl, rfl, unl_cnt cS (ha1'.mono Xa2) ha2 ?_ _ fun w hw => ?_⟩
      · refine ⟨rfl, ?_⟩
        try dsimp only [tNil]
        rw [decide_eq_true rfl]
        exact q _ X2
      · simp only [List.mem_cons, List.not_mem_nil, or_false] at hw
        rcases hw with rfl | rfl
        · exact hv.mono X2
        · exact hb.2.2
    · simp only [List.mem_cons, List.not_mem_nil, or_false] at hw
      rcases hw with rfl | rfl | rfl
      · exact hb.1
      · exact hv.mono Xa1
      · exact hb.2.1
theorem ok__law_unlike {P : Program} {w : World} {K : PySem.W.Frag} {mg : Str → Option Value} {base : Heap} (T : Env K mg) : Fc P w K mg base 112 (He.ga K "_law_unlike") [] (sp__law_unlike K ) := by
  obtain ⟨fd, D, F⟩ := fb__law_unlike T
  exact F.all (D.bindsN fun _ _ _ _ _ _ us hl => match us, hl with | [_, _], _ => rfl)
end
section
def SprP (K : PySem.W.Frag) (H : Hp) (p a : Addr) (ts : List Tr) : Prop := SprAt K H a ts ∧ HeldN K (fun b => b ≠ p) H a
theorem SprP.mono {K : PySem.W.Frag} {H H' : Hp} {p a : Addr} {ts : List Tr} (h : SprP K H p a ts) (e : Ex H H') : SprP K H' p a ts := ⟨h.1.mono e, h.2.ex h.1 fun o z => e _ _ z⟩
theorem SprP.pot {K : PySem.W.Frag} {H H' : Hp} {p a : Addr} {ts : List Tr} (h : SprP K H p a ts) (hp : Pot H p) (P : PotOn H H' p) : SprP K H' p a ts := by
  obtain ⟨⟨dx, kp, hd, as, h1, h2, h3, h4⟩, n⟩ := h
  have na : a ≠ p := pot_other hp h1 (fun _ _ z => nomatch z)
  have nk : kp ≠ p := pot_other hp h2 (fun _ _ z => nomatch z)
  have nh : hd ≠ p := n dx kp hd h1
  have o : Oth p H H' := fun b ob nb z => P.2 _ _ nb z
  have g1 := P.2 _ _ na h1
  refine ⟨⟨dx, kp, hd, as, g1, P.2 _ _ nk h2, P.2 _ _ nh h3, h4.oth o fun ob z => ?_⟩, fun dx' kp' hd' z => ?_⟩
  · obtain ⟨x, y, e, _⟩ := hp
    rw [e] at z
    cases z
    exact ⟨_, rfl⟩
  · rw [g1] at z
    rw [← (sprF_inj (ins_inj z).2).2]
    exact nh
theorem SprP.of {K : PySem.W.Frag} {H H' : Hp} {p a : Addr} {ts : List Tr} (h : SprAt K H' a ts) (n : HeldN K (fun b => H b = none) H' a) (hp : Pot H p) : SprP K H' p a ts := ⟨h, fun dx kp hd z e => by
  obtain ⟨x, y, g, _⟩ := hp
  have w : H hd = none := n dx kp hd z
  rw [e, g] at w
  cases w⟩
end
section
def sp__law_others_unlike (K : PySem.W.Frag) : Sp := fun vs H Q _ => ∃ (p a d : Addr) (ts : List Tr) (ns : List Nat), vs = [.ref p, .ref a, .ref d] ∧ Pot H p ∧ SprP K H p a ts ∧ d ≠ p ∧ H d = some (.lst (natV ns)) ∧ ns.length ≤ 1440 ∧ nestL ts ≤ 9 ∧ fitL ts ∧ pcsL ts ≤ 10000 ∧ ∀ H', PotOn H H' p → Q (.bl true) H'
theorem fb__law_others_unlike {P : Program} {w : World} {K : PySem.W.Frag} {mg : Str → Option Value} {base : Heap} (T : Env K mg) : ∃ fd, FunD K "_law_others_unlike" "_law_others_unlike" (defArgs s__law_others_unlike) (defBody s__law_others_unlike) (defScope s__law_others_unlike) [] [] (He.ga K "_law_others_unlike") fd ∧ Fb P w K mg base 114 (He.ga K "_law_others_unlike") fd ["_law_pot_here", "_law_one", "_law_moments_here"] (sp__law_others_unlike K) := by
  obtain ⟨fd, F⟩ := T.f__law_others_unlike
  refine ⟨fd, F, fb_of F sc__law_others_unlike (fun vs H Q E h => ?_) (fun cdv A outer s H vs Q E hr h => ?_)⟩
  · obtain ⟨p, a, d, ts, ns, rfl, _⟩ := h
    rfl
  · obtain ⟨p, a, d, ts, ns, rfl, hp, ha, dp, hd, hl, hn9, hf, hpc, q⟩ := h
    refine ⟨_, (pss_cons (ps_set (i := 3) sc__law_others_unlike.nd rfl (Or.inl rfl) (pe_lst (pa_cons pe_non (pa_cons pe_int (pa_cons pe_bl (pa_cons pe_str (pa_cons pe_str (pa_cons (pe_lst pa_nil) (pa_cons (pe_tup pa_nil) (pa_cons pe_dnewK (pa_cons (c_make T.mk_At (ok_At_init T) (hr.mono (by decide)) T.g_At takes0 (pa_cons pe_int pa_nil)) (pa_cons (c_make T.mk_Over (ok_Over_init T) (hr.mono (by decide)) T.g_Over takes0 (pa_cons (pe_lst (pa_cons (c_make T.mk_At (ok_At_init T) (hr.mono (by decide)) T.g_At takes0 (pa_cons pe_int pa_nil)) pa_nil)) (pa_cons pe_int (pa_cons pe_int pa_nil)))) pa_nil))))))))))))
      (pss_cons (ps_set (i := 3) sc__law_others_unlike.nd rfl (Or.inl rfl) (pe_op op_cat (pv 3) (pe_lst (pa_cons (pv 2) (pa_cons (pe_callTy call_tuple_of (by rfl) T.n_tuple (by decide +kernel) (pa_cons (pv 2) pa_nil)) (pa_cons (pe_callTy (call_strO T.m_Spread_str (ok_Spread_str T) (hr.mono (by decide))) (by rfl) T.n_str (by decide +kernel) (pa_cons (pv 1) pa_nil)) (pa_cons (pe_lst (pa_cons (pv 1) pa_nil)) pa_nil)))))))
      (pss_cons (ps_set (i := 4) sc__law_others_unlike.nd rfl (Or.inl rfl) (pe_ix ix_list (pv 3) (c_call (ok__law_draw T) (hr.mono (by decide)) T.g__law_draw T.k__law_draw takes0 (pa_cons (pv 0) (pa_cons (pe_callB call_len (by rfl) T.n_len (by decide +kernel) (pa_cons (pv 3) pa_nil)) pa_nil))) (fun _ _ => rfl)))
      (pss_one (ps_ret (pe_and (c_call (ok__law_unlike T) (hr.mono (by decide)) T.g__law_unlike T.k__law_unlike takes0 (pa_cons (pv 1) (pa_cons (pv 4) pa_nil))) (pe_one (pe_cmpR (op_notInO K (rco_mono (k := 1) (rco_or (rco_LK K T.m_Spread_eq (ok_Spread_eq T)) (rco_or (rco_RK K T.nb_Spread T.m_Spread_eq (ok_Spread_eq T)) (rco_RD K T.m_Spread_eq (ok_Spread_eq T)))) (by decide)) (hr.mono (by decide))) (pv 1) (pv 3) (by rfl))))))))), ?_⟩
    refine ⟨(by decide), ?_⟩
    intro a1 na1
    have Xa1 := ex_new (o := HO.lst []) na1
    have ha1 : upd H a1 (HO.lst []) a1 = some (HO.lst []) := upd_same
    generalize upd H a1 (HO.lst []) = Ga1 at Xa1 ha1 ⊢
    refine ⟨(by decide), ?_⟩
    intro a2 na2
    have Xa2 := ex_new (o := HO.tup []) na2
    have ha2 : upd Ga1 a2 (HO.tup []) a2 = some (HO.tup []) := upd_same
    generalize upd Ga1 a2 (HO.tup []) = Ga2 at Xa2 ha2 ⊢
    try dsimp only [tNil]
    intro a3 na3
    have Xa3 := ex_new (o := HO.dK []) na3
    have ha3 : upd Ga2 a3 (HO.dK []) a3 = some (HO.dK []) := upd_same
    generalize upd Ga2 a3 (HO.dK []) = Ga3 at Xa3 ha3 ⊢
    refine fun x1 dx1 nx1 nd1 ne1 => at_new (n := 5) nx1 nd1 ne1 fun G4 X4 hx1 => ⟨rfl, ?_⟩
    refine fun x2 dx2 nx2 nd2 ne2 => at_new (n := 5) nx2 nd2 ne2 fun G5 X5 hx2 => ⟨rfl, ?_⟩
    refine ⟨(by show 1 ≤ sizeLine; decide), ?_⟩
    intro a4 na4
    have Xa4 := ex_new (o := HO.lst [V.ref x2]) na4
    have ha4 : upd G5 a4 (HO.lst [V.ref x2]) a4 = some (HO.lst [V.ref x2]) := upd_same
    generalize upd G5 a4 (HO.lst [V.ref x2]) = Ga4 at Xa4 ha4 ⊢
    try dsimp only [tNil]
    have ok5 : (Tr.ov [.at 5] 2 3).ok := by
      unfold Tr.ok okL_ Tr.ok okL_
      rw [momsL_one, at_moms]
      exact ⟨nofun, by decide, by decide, by decide, by decide, List.pairwise_singleton _ _, trivial, trivial⟩
    have ne5 : (Tr.ov [.at 5] 2 3).nest ≤ 8 := by
      unfold Tr.nest
      rw [nestL_one, at_nest]
      decide
    refine fun x3 dx3 nx3 nd3 ne3 => ⟨rfl, over_newT (m := 2) (s := 3) nx3 nd3 ne3 (as := [x2]) (.inl ha4) (shs_one (by unfold ShAt; exact hx2.mono Xa4)) ok5 ne5 fun G6 X6 hx3 => ⟨rfl, ?_⟩⟩
    have X36 := ((X4.trans X5).trans Xa4).trans X6
    have X06 := ((Xa1.trans Xa2).trans Xa3).trans X36
    have P6 := (PotOn.refl hp).ex2 X06
    have hd6 := X06 _ _ hd
    have hS6 := ha.mono X06
    have h16 := ((Xa2.trans Xa3).trans X36) _ _ ha1
    have h26 := (Xa3.trans X36) _ _ ha2
    have h36 := X36 _ _ ha3
    have g16 := hx1.mono ((X5.trans Xa4).trans X6)
    clear ha1 ha2 ha3 ha4 hx1 hx2 Xa1 Xa2 Xa3 X4 X5 X6 Xa4 X36 X06
    refine ⟨(by show 10 ≤ sizeLine; decide), ?_⟩
    intro a5 na5
    have Xa5 := ex_new (o := HO.lst   [V.non, V.int 7, V.bl true, V.str (Str.ofString "-"), V.str (Str.ofString ""), V.ref a1, V.ref a2, V.ref a3, V.ref x1,     V.ref x3]) na5
    have ha5 : upd G6 a5 (HO.lst   [V.non, V.int 7, V.bl true, V.str (Str.ofString "-"), V.str (Str.ofString ""), V.ref a1, V.ref a2, V.ref a3, V.ref x1,     V.ref x3]) a5 = some (HO.lst   [V.non, V.int 7, V.bl true, V.str (Str.ofString "-"), V.str (Str.ofString ""), V.ref a1, V.ref a2, V.ref a3, V.ref x1,     V.ref x3]) := upd_same
    generalize upd G6 a5 (HO.lst   [V.non, V.int 7, V.bl true, V.str (Str.ofString "-"), V.str (Str.ofString ""), V.ref a1, V.ref a2, V.ref a3, V.ref x1,     V.ref x3]) = Ga5 at Xa5 ha5 ⊢
    refine ⟨_, rfl, _, rfl, _, rfl, ?_⟩
    refine ⟨_, _, rfl, .inl ⟨sq_lst (Xa5 _ _ hd6), fun a6 na6 => ?_⟩⟩
    have Xa6 := ex_new (o := HO.tup (natV ns)) na6
    have ha6 : upd Ga5 a6 (HO.tup (natV ns)) a6 = some (HO.tup (natV ns)) := upd_same
    generalize upd Ga5 a6 (HO.tup (natV ns)) = Ga6 at Xa6 ha6 ⊢
    have X56 := Xa5.trans Xa6
    have hS7 := hS6.mono X56
    obtain ⟨dx7, kp7, hh7, as7, hx7, _⟩ := id hS7.1
    refine ⟨_, rfl, a, dx7, _, rfl, hx7, a, ts, rfl, hS7.1, hn9, hf, hpc, fun G8 X8 => ⟨trivial, ?_⟩⟩
    refine ⟨_, rfl, (by show 1 ≤ sizeLine; decide), ?_⟩
    intro a7 na7
    have Xa7 := ex_new (o := HO.lst [V.ref a]) na7
    have ha7 : upd G8 a7 (HO.lst [V.ref a]) a7 = some (HO.lst [V.ref a]) := upd_same
    generalize upd G8 a7 (HO.lst [V.ref a]) = Ga7 at Xa7 ha7 ⊢
    refine ⟨(by show 4 ≤ sizeLine; decide), ?_⟩
    intro a8 na8
    have Xa8 := ex_new (o := HO.lst [V.ref d, V.ref a6, V.str (SX.S (rowT (txtL ts))), V.ref a7]) na8
    have ha8 : upd Ga7 a8 (HO.lst [V.ref d, V.ref a6, V.str (SX.S (rowT (txtL ts))), V.ref a7]) a8 = some (HO.lst [V.ref d, V.ref a6, V.str (SX.S (rowT (txtL ts))), V.ref a7]) := upd_same
    generalize upd Ga7 a8 (HO.lst [V.ref d, V.ref a6, V.str (SX.S (rowT (txtL ts))), V.ref a7]) = Ga8 at Xa8 ha8 ⊢
    refine ⟨_, _, _, _, rfl, rfl, (Xa8 _ _ (Xa7 _ _ (X8 _ _ (Xa6 _ _ ha5)))), ha8, ?_⟩
    have X68 := ((X56.trans X8).trans Xa7).trans Xa8
    have u1 : ∀ {G : Hp} {b : Addr} {xs : List V}, G b = some (.lst xs) → Unl K G ts (.ref b) := fun h => unl_base (.base (.lst h)) T.kit_list_Spread (.lst (sq_lst h)) (fun b z => by cases z; exact ⟨_, h, nofun⟩)
    have u2 : ∀ {G : Hp} {b : Addr} {xs : List V}, G b = some (.tup xs) → Unl K G ts (.ref b) := fun h => unl_base (.base (.tup h)) T.kit_tuple_Spread (.tup (sq_tup h)) (fun b z => by cases z; exact ⟨_, h, nofun⟩)
    have nA : He.ga K "At" ≠ SpreadC K := fun z => by
      have h := T.kit_At_Spread
      rw [z] at h
      have h2 := T.kit_Spread_Spread
      rw [show He.ga K "Spread" = SpreadC K from rfl] at h h2
      rw [h] at h2
      cases h2
    have nO : He.ga K "Over" ≠ SpreadC K := fun z => by
      have h := T.kit_Over_Spread
      rw [z] at h
      have h2 := T.kit_Spread_Spread
      rw [show He.ga K "Spread" = SpreadC K from rfl] at h h2
      rw [h] at h2
      cases h2
    generalize hLL : [V.non, V.int 7, V.bl true, V.str (Str.ofString "-"), V.str (Str.ofString ""), V.ref a1, V.ref a2, V.ref a3, V.ref x1, V.ref x3] ++ [V.ref d, V.ref a6, V.str (SX.S (rowT (txtL ts))), V.ref a7] = LL
    have lLL : LL.length = 14 := by rw [← hLL]; rfl
    refine ⟨by show 14 ≤ sizeLine; decide, fun a9 na9 => ?_⟩
    have Xa9 := ex_new (o := HO.lst LL) na9
    have ha9 : upd Ga8 a9 (HO.lst LL) a9 = some (HO.lst LL) := upd_same
    generalize upd Ga8 a9 (HO.lst LL) = Ga9 at Xa9 ha9 ⊢
    have P9 := P6.ex2 (X68.trans Xa9)
    refine ⟨_, rfl, _, rfl, _, rfl, _, _, rfl, (.inl ⟨_, ⟨(sq_lst ha9), rfl⟩⟩), _, _, rfl, P9.1, (by omega), (by omega), ?_⟩
    intro dr G10 k0 k1 P10
    have P0 := PotOn.refl hp
    have P7 := P6.ex2 (X56.trans X8)
    have tr : ∀ {b : Addr} {o : HO}, b ≠ p → Ga8 b = some o → G10 b = some o := fun nb h => P10.2 _ _ nb (Xa9 _ _ h)
    have g36 : G10 a3 = some (.dK []) := tr (pot_other P9.1 (Xa9 _ _ (X68 _ _ h36)) (fun _ _ z => nomatch z)) (X68 _ _ h36)
    have hS10 := hS6.mono (X68.trans Xa9)
    have hS10 := hS10.pot P9.1 P10
    have P010 := P9.trans P10
    have odd : ∀ v ∈ LL, Unl K G10 ts v := by
      rw [← hLL]
      intro v hv
      simp only [List.cons_append, List.nil_append, List.mem_cons, List.not_mem_nil, or_false] at hv
      rcases hv with rfl | rfl | rfl | rfl | rfl | rfl | rfl | rfl | rfl | rfl | rfl | rfl | rfl | rfl
      · exact unl_base (.base .non) T.kit_NoneType_Spread .non nofun
      · exact unl_base (.base (.int _)) T.kit_int_Spread (.int _) nofun
      · exact unl_base (.base (.bl _)) T.kit_bool_Spread (.bl _) nofun
      · exact unl_base (.base (.str _)) T.kit_str_Spread (.str _) nofun
      · exact unl_base (.base (.str _)) T.kit_str_Spread (.str _) nofun
      · exact u1 (tr (pot_ne P0 na1) (X68 _ _ h16))
      · exact u2 (tr (pot_other P9.1 (Xa9 _ _ (X68 _ _ h26)) (fun _ _ z => nomatch z)) (X68 _ _ h26))
      · exact unl_base (.base (.dK (g36))) T.kit_dict_Spread (.dK (g36)) (fun b z => by cases z; exact ⟨_, g36, nofun⟩)
      · obtain ⟨dx, g⟩ := g16.mono X68
        have g := tr (pot_other P9.1 (Xa9 _ _ g) (fun _ _ z => nomatch z)) g
        exact .inr ⟨_, ty_ins T.i_At T.c_At g, T.kit_At_Spread, .inr ⟨x1, _, _, _, rfl, g, T.nq_At, .inr T.kit_Spread_At⟩, fun b z => by cases z; exact ⟨_, g, fun dx fs z => nA (by injection z)⟩⟩
      · have h := hx3.mono X68
        unfold ShAt at h
        obtain ⟨dx, kp, as, g, _⟩ := h
        have g := tr (pot_other P9.1 (Xa9 _ _ g) (fun _ _ z => nomatch z)) g
        exact .inr ⟨_, ty_ins T.i_Over T.c_Over g, T.kit_Over_Spread, .inr ⟨x3, _, _, _, rfl, g, T.nq_Over, .inr T.kit_Spread_Over⟩, fun b z => by cases z; exact ⟨_, g, fun dx fs z => nO (by injection z)⟩⟩
      · exact u1 (tr dp (X68 _ _ hd6))
      · exact u2 (tr (pot_other P9.1 (Xa9 _ _ (((X8.trans Xa7).trans Xa8) _ _ ha6)) (fun _ _ z => nomatch z)) (((X8.trans Xa7).trans Xa8) _ _ ha6))
      · exact unl_base (.base (.str _)) T.kit_str_Spread (.str _) nofun
      · exact u1 (tr (pot_ne P7 na7) (Xa8 _ _ ha7))
    obtain ⟨w, hw, ew⟩ := at_mem k0 k1
    have h9 := P10.2 _ _ (pot_ne (P6.ex2 X68) na9) ha9
    refine ⟨a9, _, _, w, rfl, rfl, sq_lst h9, ew, ?_⟩
    refine ⟨_, rfl, _, rfl, ?_⟩
    refine ⟨a, ts, w, rfl, hS10.1, .inl ⟨odd w hw, fun G11 X11 => ⟨true, rfl, iteT ?_⟩⟩⟩
    have cS : ∀ {G : Hp} {b : Addr} {us}, SprAt K G b us → TyX K G (.ref b) (.ref (SpreadC K)) := fun hb => by
      obtain ⟨dy, kq, hk, bs, g, _⟩ := hb
      exact ty_ins T.i_Spread T.c_Spread g
    refine ⟨_, rfl, _, rfl, a, a9, _, rfl, rfl, unl_in cS (hS10.1.mono X11) (X11 _ _ h9) ?_ _ fun w hw => (odd w hw).mono X11⟩
    exact q _ (P010.ex2 X11)
theorem ok__law_others_unlike {P : Program} {w : World} {K : PySem.W.Frag} {mg : Str → Option Value} {base : Heap} (T : Env K mg) : Fc P w K mg base 114 (He.ga K "_law_others_unlike") [] (sp__law_others_unlike K ) := by
  obtain ⟨fd, D, F⟩ := fb__law_others_unlike T
  exact F.all (D.bindsN fun _ _ _ _ _ _ us hl => match us, hl with | [_, _, _], _ => rfl)
end
section
theorem dbl_moms (b l : Nat) : ∀ m, overN (overN [b] 2 l) m (2 * l) = overN [b] (2 * m) l
  | 0 => rfl
  | m + 1 => by
    rw [overN_succ (overN [b] 2 l) m (2 * l), dbl_moms b l m, show 2 * (m + 1) = 2 * m + 1 + 1 from rfl, overN_succ [b] (2 * m + 1) l, overN_succ [b] (2 * m) l, List.append_assoc]
    congr 1
    show [b + 0 * l + m * (2 * l), b + 1 * l + m * (2 * l)] = [b + 2 * m * l, b + (2 * m + 1) * l]
    have e1 : m * (2 * l) = 2 * m * l := by rw [← Nat.mul_assoc, Nat.mul_comm m 2]
    have e2 : (2 * m + 1) * l = 2 * m * l + l := by rw [Nat.add_mul, Nat.one_mul]
    rw [e1, e2]
    congr 1
    · omega
    · congr 1
      omega
theorem one_ok {b m l : Nat} (h2 : 2 ≤ m) (hl : 1 ≤ l) (hm : m ≤ 1440) : (Tr.ov [.at b] m l).ok := by
  unfold Tr.ok okL_ Tr.ok okL_
  rw [momsL_one, at_moms]
  exact ⟨nofun, h2, hl, by simpa using hm, by show b < l + b; omega, List.pairwise_singleton _ _, trivial, trivial⟩
theorem one_moms (b m l : Nat) : momsL [Tr.ov [.at b] m l] = overN [b] m l := by
  rw [momsL_one]
  unfold Tr.moms
  rw [momsL_one, at_moms]
theorem two_moms (b m l : Nat) : momsL [Tr.ov [.ov [.at b] 2 l] m (2 * l)] = overN [b] (2 * m) l := by
  rw [momsL_one]
  unfold Tr.moms
  rw [one_moms, dbl_moms]
theorem dbl_ok {b m l : Nat} (h2 : 2 ≤ m) (hl : 1 ≤ l) (hm : m ≤ 720) : (Tr.ov [.ov [.at b] 2 l] m (2 * l)).ok := by
  have ok1 : (Tr.ov [.at b] 2 l).ok := one_ok (Nat.le_refl 2) hl (by decide)
  have e : overN [b] 2 l = [b + 0 * l, b + 1 * l] := rfl
  unfold Tr.ok
  rw [one_moms, e]
  refine ⟨nofun, h2, by omega, by show m * 2 ≤ 1440; omega, by show b + 1 * l < 2 * l + (b + 0 * l); omega, List.pairwise_cons.mpr ⟨fun a ha => by cases List.mem_singleton.mp ha; omega, List.pairwise_singleton _ _⟩, okL_one ok1⟩
theorem one_spr {t : Tr} (ok : t.ok) (h : t.moms.length ≤ 1440) : sprB [t] = true := by
  unfold sprB
  rw [show risB [t] = true from rfl, momsL_one, decide_eq_true h]
  rfl
def sp__law_doubled_right (K : PySem.W.Frag) : Sp := fun vs H Q _ => ∃ p, vs = [.ref p] ∧ Pot H p ∧ ∀ H', PotOn H H' p → Q (.bl true) H'
theorem fb__law_doubled_right {P : Program} {w : World} {K : PySem.W.Frag} {mg : Str → Option Value} {base : Heap} (T : Env K mg) : ∃ fd, FunD K "_law_doubled_right" "_law_doubled_right" (defArgs s__law_doubled_right) (defBody s__law_doubled_right) (defScope s__law_doubled_right) [] [] (He.ga K "_law_doubled_right") fd ∧ Fb P w K mg base 114 (He.ga K "_law_doubled_right") fd ["_law_pot_here"] (sp__law_doubled_right K) := by
  obtain ⟨fd, F⟩ := T.f__law_doubled_right
  refine ⟨fd, F, fb_of F sc__law_doubled_right (fun vs H Q E h => ?_) (fun cdv A outer s H vs Q E hr h => ?_)⟩
  · obtain ⟨p, rfl, _⟩ := h
    rfl
  · obtain ⟨p, rfl, hp, q⟩ := h
    refine ⟨_, (pss_cons (ps_set (i := 1) sc__law_doubled_right.nd rfl (Or.inl rfl) (pe_op op_add pe_int (c_call (ok__law_draw T) (hr.mono (by decide)) T.g__law_draw T.k__law_draw takes0 (pa_cons (pv 0) (pa_cons pe_int pa_nil)))))
      (pss_cons (ps_par (i := 2) (j := 3) (by rfl) sc__law_doubled_right.nd rfl rfl (by decide) rfl rfl (pa_cons (c_call (ok__law_gap T) (hr.mono (by decide)) T.g__law_gap T.k__law_gap takes0 (pa_cons (pv 0) pa_nil)) (pa_cons (pe_op op_add pe_int (c_call (ok__law_gap T) (hr.mono (by decide)) T.g__law_gap T.k__law_gap takes0 (pa_cons (pv 0) pa_nil))) pa_nil)) (by rfl))
      (pss_cons (ps_set (i := 4) sc__law_doubled_right.nd rfl (Or.inl rfl) (c_make T.mk_Spread (ok_Spread_init T) (hr.mono (by decide)) T.g_Spread takes0 (pa_cons (pe_lst (pa_cons (c_make T.mk_Over (ok_Over_init T) (hr.mono (by decide)) T.g_Over takes0 (pa_cons (pe_lst (pa_cons (c_make T.mk_At (ok_At_init T) (hr.mono (by decide)) T.g_At takes0 (pa_cons (pv 2) pa_nil)) pa_nil)) (pa_cons (pe_op op_mul pe_int (pv 1)) (pa_cons (pv 3) pa_nil)))) pa_nil)) pa_nil)))
      (pss_cons (ps_set (i := 5) sc__law_doubled_right.nd rfl (Or.inl rfl) (c_make T.mk_Spread (ok_Spread_init T) (hr.mono (by decide)) T.g_Spread takes0 (pa_cons (pe_lst (pa_cons (c_make T.mk_Over (ok_Over_init T) (hr.mono (by decide)) T.g_Over takes0 (pa_cons (pe_lst (pa_cons (c_make T.mk_Over (ok_Over_init T) (hr.mono (by decide)) T.g_Over takes0 (pa_cons (pe_lst (pa_cons (c_make T.mk_At (ok_At_init T) (hr.mono (by decide)) T.g_At takes0 (pa_cons (pv 2) pa_nil)) pa_nil)) (pa_cons pe_int (pa_cons (pv 3) pa_nil)))) pa_nil)) (pa_cons (pv 1) (pa_cons (pe_op op_mul pe_int (pv 3)) pa_nil)))) pa_nil)) pa_nil)))
      (pss_cons (ps_set (i := 6) sc__law_doubled_right.nd rfl (Or.inl rfl) (c_make T.mk_Spread (ok_Spread_init T) (hr.mono (by decide)) T.g_Spread takes0 (pa_cons (pe_lst (pa_cons (c_make T.mk_Over (ok_Over_init T) (hr.mono (by decide)) T.g_Over takes0 (pa_cons (pe_lst (pa_cons (c_make T.mk_At (ok_At_init T) (hr.mono (by decide)) T.g_At takes0 (pa_cons (pv 2) pa_nil)) pa_nil)) (pa_cons (pe_op op_sub (pe_op op_mul pe_int (pv 1)) pe_int) (pa_cons (pv 3) pa_nil)))) pa_nil)) pa_nil)))
      (pss_cons (ps_if (PW.pt (pw_or (pt_not (pt_val (c_call (ok__law_equal T) (hr.mono (by decide)) T.g__law_equal T.k__law_equal takes0 (pa_cons (pv 4) (pa_cons (pv 5) pa_nil))))) (pw_or (pt_not (pt_val (c_call (ok__law_equal T) (hr.mono (by decide)) T.g__law_equal T.k__law_equal takes0 (pa_cons (pv 5) (pa_cons (pv 4) pa_nil))))) (pw_or1 (pt_cmpR op_ne (pe_callB (call_lenO T.m_Spread_len (ok_Spread_len T) (hr.mono (by decide))) (by rfl) T.n_len (by decide +kernel) (pa_cons (pv 5) pa_nil)) (pe_op op_mul pe_int (pv 1)) (nomark _))))))
      (pss_one (ps_ret pe_bl))
      pss_nil)
      (pss_one (ps_ret (pe_and (c_call (ok__law_unlike T) (hr.mono (by decide)) T.g__law_unlike T.k__law_unlike takes0 (pa_cons (pv 4) (pa_cons (pv 6) pa_nil))) (pe_one (c_call (ok__law_unlike T) (hr.mono (by decide)) T.g__law_unlike T.k__law_unlike takes0 (pa_cons (pv 6) (pa_cons (pv 5) pa_nil))))))))))))), ?_⟩
    refine ⟨_, rfl, p, 719, rfl, hp, by decide, by decide, fun d H1 d0 d1 P1 => ?_⟩
    obtain ⟨m0, rfl⟩ := Int.eq_ofNat_of_zero_le d0
    have P1' := P1.1
    refine ⟨_, _, rfl, rfl, _, rfl, _, rfl, P1', ?_⟩
    intro b H2 hb P2
    have P2' := P2.1
    refine ⟨_, rfl, p, rfl, P2', fun n H3 hn P3 => ?_⟩
    refine ⟨_, _, rfl, rfl, _, _, rfl, _, rfl, ?_⟩
    try dsimp only [tNil]
    obtain ⟨m, em⟩ : ∃ m : Nat, m = 2 + m0 := ⟨_, rfl⟩
    obtain ⟨l, el⟩ : ∃ l : Nat, l = 1 + n := ⟨_, rfl⟩
    rw [show (2 : Int) + ((m0 : Nat) : Int) = ((m : Nat) : Int) by omega, show (1 : Int) + ((n : Nat) : Int) = ((l : Nat) : Int) by omega]
    have m2 : 2 ≤ m := by omega
    have m720 : m ≤ 720 := by omega
    have l1 : 1 ≤ l := by omega
    clear em el
    refine fun x1 dx1 nx1 nd1 ne1 => at_new nx1 nd1 ne1 fun G1 Y1 hx1 => ⟨rfl, ?_⟩
    refine ⟨(by show 1 ≤ sizeLine; decide), ?_⟩
    intro a1 na1
    have Xa1 := ex_new (o := HO.lst [V.ref x1]) na1
    have ha1 : upd G1 a1 (HO.lst [V.ref x1]) a1 = some (HO.lst [V.ref x1]) := upd_same
    generalize upd G1 a1 (HO.lst [V.ref x1]) = Ga1 at Xa1 ha1 ⊢
    refine ⟨_, rfl, _, _, rfl, rfl, (.inl ⟨(by decide), (by decide)⟩), _, rfl, ?_⟩
    try dsimp only [tNil]
    rw [show (2 : Int) * ((m : Nat) : Int) = ((2 * m : Nat) : Int) by omega]
    have okA : (Tr.ov [.at b] (2 * m) l).ok := one_ok (by omega) l1 (by omega)
    have n1 : ∀ k, (Tr.ov [.at b] k l).nest ≤ 8 := fun k => by
      unfold Tr.nest
      rw [nestL_one, at_nest]
      decide
    have n1' : ∀ k, nestL [Tr.ov [.at b] k l] ≤ 8 := fun k => by
      rw [nestL_one]
      exact n1 k
    have lenA : ∀ k, (overN [b] k l).length = k := fun k => by rw [overN_len]; simp
    have sprA : ∀ k, (Tr.ov [.at b] k l).ok → k ≤ 1440 → sprB [Tr.ov [.at b] k l] = true := fun k o h => one_spr o (by rw [← momsL_one, one_moms, lenA]; exact h)
    refine fun y1 dy1 ny1 ndy1 ney1 => ⟨rfl, over_newT (as := [x1]) ny1 ndy1 ney1 (.inl ha1) (shs_one (by unfold ShAt; exact hx1.mono Xa1)) okA (n1 _) fun G2 Y2 hO1 => ⟨rfl, ?_⟩⟩
    refine ⟨(by show 1 ≤ sizeLine; decide), ?_⟩
    intro a2 na2
    have Xa2 := ex_new (o := HO.lst [V.ref y1]) na2
    have ha2 : upd G2 a2 (HO.lst [V.ref y1]) a2 = some (HO.lst [V.ref y1]) := upd_same
    generalize upd G2 a2 (HO.lst [V.ref y1]) = Ga2 at Xa2 ha2 ⊢
    refine fun z1 dz1 nz1 ndz1 nez1 => spread_new nz1 ndz1 nez1 (as := [y1]) (.inl ha2) (shs_one (hO1.mono Xa2)) (n1' _) (okL_one okA) (sprA _ okA (by omega)) fun G3 Y3 hz1 => ⟨rfl, ?_⟩
    have XA := (((Y1.trans Xa1).trans Y2).trans Xa2).trans Y3
    clear ha1 ha2 hx1 hO1 Xa1 Xa2 Y1 Y2 Y3
    refine ⟨_, rfl, ?_⟩
    try dsimp only [tNil]
    refine fun x2 dx2 nx2 nd2 ne2 => at_new nx2 nd2 ne2 fun G4 Y4 hx2 => ⟨rfl, ?_⟩
    refine ⟨(by show 1 ≤ sizeLine; decide), ?_⟩
    intro a3 na3
    have Xa3 := ex_new (o := HO.lst [V.ref x2]) na3
    have ha3 : upd G4 a3 (HO.lst [V.ref x2]) a3 = some (HO.lst [V.ref x2]) := upd_same
    generalize upd G4 a3 (HO.lst [V.ref x2]) = Ga3 at Xa3 ha3 ⊢
    have okB : (Tr.ov [.at b] 2 l).ok := one_ok (by omega) l1 (by omega)
    refine ⟨_, rfl, fun y2 dy2 ny2 ndy2 ney2 => ⟨rfl, over_newT (m := 2) (as := [x2]) ny2 ndy2 ney2 (.inl ha3) (shs_one (by unfold ShAt; exact hx2.mono Xa3)) okB (n1 _) fun G5 Y5 hO2 => ⟨rfl, ?_⟩⟩⟩
    refine ⟨(by show 1 ≤ sizeLine; decide), ?_⟩
    intro a4 na4
    have Xa4 := ex_new (o := HO.lst [V.ref y2]) na4
    have ha4 : upd G5 a4 (HO.lst [V.ref y2]) a4 = some (HO.lst [V.ref y2]) := upd_same
    generalize upd G5 a4 (HO.lst [V.ref y2]) = Ga4 at Xa4 ha4 ⊢
    have XB := (((Y4.trans Xa3).trans Y5).trans Xa4)
    refine ⟨_, rfl, _, rfl, _, _, rfl, rfl, (.inl ⟨(by decide), (by decide)⟩), ?_⟩
    try dsimp only [tNil]
    rw [show (2 : Int) * ((l : Nat) : Int) = ((2 * l : Nat) : Int) by omega]
    have okC : (Tr.ov [.ov [.at b] 2 l] m (2 * l)).ok := dbl_ok m2 l1 m720
    have n2 : (Tr.ov [.ov [.at b] 2 l] m (2 * l)).nest ≤ 8 := by
      unfold Tr.nest
      rw [nestL_one]
      unfold Tr.nest
      rw [nestL_one, at_nest]
      decide
    refine fun y3 dy3 ny3 ndy3 ney3 => ⟨rfl, over_newT (as := [y2]) ny3 ndy3 ney3 (.inl ha4) (shs_one (hO2.mono Xa4)) okC n2 fun G6 Y6 hO3 => ⟨rfl, ?_⟩⟩
    refine ⟨(by show 1 ≤ sizeLine; decide), ?_⟩
    intro a5 na5
    have Xa5 := ex_new (o := HO.lst [V.ref y3]) na5
    have ha5 : upd G6 a5 (HO.lst [V.ref y3]) a5 = some (HO.lst [V.ref y3]) := upd_same
    generalize upd G6 a5 (HO.lst [V.ref y3]) = Ga5 at Xa5 ha5 ⊢
    have sprC : sprB [Tr.ov [.ov [.at b] 2 l] m (2 * l)] = true := one_spr okC (by rw [← momsL_one, two_moms, lenA]; omega)
    refine fun z2 dz2 nz2 ndz2 nez2 => spread_new nz2 ndz2 nez2 (as := [y3]) (.inl ha5) (shs_one (hO3.mono Xa5)) (by rw [nestL_one]; exact n2) (okL_one okC) sprC fun G7 Y7 hz2 => ⟨rfl, ?_⟩
    have XC := ((XB.trans Y6).trans Xa5).trans Y7
    clear ha3 ha4 ha5 hx2 hO2 hO3 Xa3 Xa4 Xa5 Y4 Y5 Y6 Y7 XB
    have hz17 := hz1.mono XC
    refine ⟨_, rfl, ?_⟩
    refine fun x4 dx4 nx4 nd4 ne4 => at_new nx4 nd4 ne4 fun G8 Y8 hx4 => ⟨rfl, ?_⟩
    refine ⟨(by show 1 ≤ sizeLine; decide), ?_⟩
    intro a6 na6
    have Xa6 := ex_new (o := HO.lst [V.ref x4]) na6
    have ha6 : upd G8 a6 (HO.lst [V.ref x4]) a6 = some (HO.lst [V.ref x4]) := upd_same
    generalize upd G8 a6 (HO.lst [V.ref x4]) = Ga6 at Xa6 ha6 ⊢
    refine ⟨_, rfl, _, _, rfl, rfl, (.inl ⟨(by decide), (by decide)⟩), _, _, rfl, rfl, _, rfl, ?_⟩
    try dsimp only [tNil]
    rw [show (2 : Int) * ((m : Nat) : Int) - 1 = ((2 * m - 1 : Nat) : Int) by omega]
    have okD : (Tr.ov [.at b] (2 * m - 1) l).ok := one_ok (by omega) l1 (by omega)
    refine fun y4 dy4 ny4 ndy4 ney4 => ⟨rfl, over_newT (as := [x4]) ny4 ndy4 ney4 (.inl ha6) (shs_one (by unfold ShAt; exact hx4.mono Xa6)) okD (n1 _) fun G9 Y9 hO4 => ⟨rfl, ?_⟩⟩
    refine ⟨(by show 1 ≤ sizeLine; decide), ?_⟩
    intro a7 na7
    have Xa7 := ex_new (o := HO.lst [V.ref y4]) na7
    have ha7 : upd G9 a7 (HO.lst [V.ref y4]) a7 = some (HO.lst [V.ref y4]) := upd_same
    generalize upd G9 a7 (HO.lst [V.ref y4]) = Ga7 at Xa7 ha7 ⊢
    refine fun z3 dz3 nz3 ndz3 nez3 => spread_new nz3 ndz3 nez3 (as := [y4]) (.inl ha7) (shs_one (hO4.mono Xa7)) (n1' _) (okL_one okD) (sprA _ okD (by omega)) fun GA YA hz3 => ⟨rfl, ?_⟩
    have XD := ((((Y8.trans Xa6).trans Y9).trans Xa7)).trans YA
    have w1 := hz17.mono XD
    have w2 := hz2.mono XD
    have P4 := ((P3.ex2 XA).ex2 XC).ex2 XD
    have X0 : PotOn H GA p := (P1.trans P2).trans P4
    clear ha6 ha7 hx4 hO4 Xa6 Xa7 Y8 Y9 YA hz17 hz2
    have e12 : momsL [Tr.ov [.at b] (2 * m) l] = momsL [Tr.ov [.ov [.at b] 2 l] m (2 * l)] := by rw [one_moms, two_moms]
    have ne13 : momsL [Tr.ov [.at b] (2 * m) l] ≠ momsL [Tr.ov [.at b] (2 * m - 1) l] := fun e => by
      rw [one_moms, one_moms] at e
      have e := congrArg List.length e
      rw [lenA, lenA] at e
      omega
    refine ⟨_, rfl, _, rfl, _, _, _, _, rfl, w1, w2, e12, ?_⟩
    intro GB XB
    have v1 := w1.mono XB
    have v2 := w2.mono XB
    have e21 := e12.symm
    refine ⟨true, rfl, ?_⟩
    refine ⟨_, rfl, _, rfl, _, _, _, _, rfl, v2, v1, e21, ?_⟩
    intro GC XC'
    have q1 := v1.mono XC'
    have q2 := v2.mono XC'
    have q3 := (hz3.mono XB).mono XC'
    have XBC := XB.trans XC'
    have ll : (momsL [Tr.ov [.ov [.at b] 2 l] m (2 * l)]).length = 2 * m := by rw [two_moms, lenA]
    obtain ⟨dx5, kp5, hh5, as5, hz5, _⟩ := id q2
    refine ⟨true, rfl, ?_⟩
    refine ⟨_, rfl, _, _, _, rfl, hz5, _, _, rfl, q2, ⟨by omega, by omega⟩, ?_⟩
    rw [ll]
    refine ⟨_, rfl, _, _, rfl, rfl, (.inl ⟨(by decide), (by decide)⟩), rfl, _, rfl, ?_⟩
    try dsimp only [tNil]
    rw [show decide (V.int ((2 * m : Nat) : Int) = V.int (2 * ((m : Nat) : Int))) = true from decide_eq_true (congrArg V.int (by omega))]
    refine iteF ?_
    refine ⟨_, rfl, _, rfl, z1, _, .ref z3, rfl, q1, .inl ⟨.inl ⟨z3, _, rfl, q3, ne13⟩, fun GD XD' => ⟨true, rfl, iteT ?_⟩⟩⟩
    refine ⟨_, rfl, _, rfl, z3, _, .ref z2, rfl, q3.mono XD', .inl ⟨.inl ⟨z2, _, rfl, q2.mono XD', by rw [← e12]; exact ne13.symm⟩, fun GE XE => ?_⟩⟩
    exact q _ (X0.ex2 ((XBC.trans XD').trans XE))
theorem ok__law_doubled_right {P : Program} {w : World} {K : PySem.W.Frag} {mg : Str → Option Value} {base : Heap} (T : Env K mg) : Fc P w K mg base 114 (He.ga K "_law_doubled_right") [] (sp__law_doubled_right K ) := by
  obtain ⟨fd, D, F⟩ := fb__law_doubled_right T
  exact F.all (D.bindsN fun _ _ _ _ _ _ us hl => match us, hl with | [_], _ => rfl)
end
section
theorem lc_dts {K : PySem.W.Frag} {J : It} {Gd Qd : Hp → Prop} {G0 : Hp} {D : Addr} {bs : List Addr} {ts : List Tr} {g : TG} {tt : TT} {te : TE} {vs : List Nat} {σ : L2.St} (nD : G0 D = none) (w : L2.Walk J (bs.map V.ref).length Gd (L2.YAt (bs.map V.ref))) (hG : ∀ H, Ex G0 H → Gd H) (hB : DtsAt G0 ts bs) (hn : ts.length ≤ 2000)
    (hs : ∀ (c : Addr) (t : Tr) (H : Hp) (acc : List V) (N : Hp → Prop), t ∈ ts → DtAt H t c → Ex G0 H → H D = some (.lst acc) → acc.length < sizeLine → (∀ x H4, Ex H H4 → H4 D = some (.lst acc) → ShAt K H4 t x → N (upd H4 D (.lst (acc ++ [.ref x])))) → L3.Turn g tt te vs σ D (.ref c) H N)
    (hd : ∀ as H, Ex G0 H → H D = some (.lst (as.map V.ref)) → ShsAt K H ts as → Qd H) :
    ∃ W : Nat → Nat → Hp → Prop, (∃ m, W 0 m (upd G0 D (.lst []))) ∧ ∀ i m H, W i m H →
      (J.stop i H ∧ Qd H) ∨ (J.go i H ∧ ∃ Nx : Hp → Prop, (∀ H', Nx H' → ∃ m', m' < m ∧ W (i + 1) m' H') ∧ ∀ x H', J.yld i H x H' → L3.Turn g tt te vs σ D x H' Nx) := by
  have hlB := hB.len
  refine lc_any w (fun i acc G => Ex G0 G ∧ (G D = none ∨ ∃ xs, G D = some (.lst xs)) ∧ ∃ as, acc = as.map V.ref ∧ ShsAt K G (ts.take i) as) (fun i acc G z e => ?_) ⟨.refl _, .inl nD, [], rfl, by unfold ShsAt; rfl⟩ (by rw [List.length_map]; omega) (fun i acc G e => ?_) (fun i acc G e => hG _ e.1) (fun i x G G' acc N hi e hA la y k _ => ?_) (fun acc G e hA => ?_)
  · obtain ⟨e1, e2, as, e3, e4⟩ := e
    refine ⟨ex_mut e1 nD, .inr ⟨z, upd_same⟩, as, e3, e4.oth ((Oth.refl D G).upd) fun ob h => ?_⟩
    rcases e2 with h2 | ⟨xs, h2⟩
    · rw [h2] at h
      cases h
    · rw [h2] at h
      cases h
      exact ⟨xs, rfl⟩
  · obtain ⟨_, _, as, rfl, h1⟩ := e
    rw [List.length_map, h1.len, List.length_take]
    omega
  · obtain ⟨rfl, y⟩ := y
    obtain ⟨XG, _, as, rfl, h1⟩ := e
    rw [List.getElem?_map] at y
    obtain ⟨c, hc, rfl⟩ := Option.map_eq_some_iff.mp y
    obtain ⟨t, ht, hDt⟩ := hB.get hc
    refine hs c t _ _ _ (List.mem_of_getElem? ht) (hDt.mono XG) XG hA la fun x H4 X4 hD4 hx => k _ H4 hD4 ⟨XG.trans X4, .inr ⟨_, hD4⟩, as ++ [x], by rw [List.map_append]; rfl, ?_⟩
    rw [take_snoc ht]
    exact (h1.mono X4).snoc hx
  · obtain ⟨XG, _, as, rfl, h1⟩ := e
    rw [List.length_map, hlB, List.take_length] at h1
    exact hd as G XG hA h1
end
section
def sp__law_right (K : PySem.W.Frag) : Sp := fun vs H Q _ => ∃ p, vs = [.ref p] ∧ Pot H p ∧ ∀ H', PotOn H H' p → Q (.bl true) H'
theorem fb__law_right {P : Program} {w : World} {K : PySem.W.Frag} {mg : Str → Option Value} {base : Heap} (T : Env K mg) : ∃ fd, FunD K "_law_right" "_law_right" (defArgs s__law_right) (defBody s__law_right) (defScope s__law_right) [] [] (He.ga K "_law_right") fd ∧ Fb P w K mg base 130 (He.ga K "_law_right") fd ["_law_pot_here"] (sp__law_right K) := by
  obtain ⟨fd, F⟩ := T.f__law_right
  refine ⟨fd, F, fb_of F sc__law_right (fun vs H Q E h => ?_) (fun cdv A outer s H vs Q E hr h => ?_)⟩
  · obtain ⟨p, rfl, _⟩ := h
    rfl
  · obtain ⟨p, rfl, hp, q⟩ := h
    refine ⟨_, (pss_cons (ps_set (i := 1) sc__law_right.nd rfl (Or.inl rfl) (c_call (ok__law_spread T) (hr.mono (by decide)) T.g__law_spread T.k__law_spread takes0 (pa_cons (pv 0) pa_nil)))
      (pss_cons (ps_set (i := 2) sc__law_right.nd rfl (Or.inl rfl) (c_call (ok__law_row_moments T (Nat.le_add_right 40 _) (all__law_moments T 9)) (hr.mono (by decide)) T.g__law_row_moments T.k__law_row_moments takes0 (pa_cons (pv 1) pa_nil)))
      (pss_cons (ps_set (i := 3) sc__law_right.nd rfl (Or.inl rfl) (c_make T.mk_Spread (ok_Spread_init T) (hr.mono (by decide)) T.g_Spread takes0 (pa_cons (pe_lc (own := [("_law_short_here", 8)]) (by rfl) sc__law_right.nd (pi_tup (pv 1)) (blkOk_by (own := [("_law_short_here", 8)]) (N := ["_law_pot_here", "_law_row_here", "_law_moments_here", "_law_one", "_law_same", "_law_some", "_law_flat_here", "_law_other", "_law_short_here"]) (sc := defScope s__law_right) (by decide +kernel)) (fun _ _ _ _ _ => (pg_name (i := 8) sc__law_right.nd rfl (Or.inl rfl))) (fun _ _ _ _ _ => pts_nil) (fun _ _ _ _ _ => (c_call (all__law_made T 9) (hr.mono (by decide)) T.g__law_made T.k__law_made takes0 (pa_cons (pv 8) pa_nil)))) pa_nil)))
      (pss_cons (ps_set (i := 4) sc__law_right.nd rfl (Or.inl rfl) (c_makeK0 T.mk_Spread (ok_Spread_init_1_parts T) (hr.mono (by decide)) T.g_Spread takes0 (pk_cons (pe_callTy call_tuple_of (by rfl) T.n_tuple (by decide +kernel) (pa_cons (pe_lc (own := [("_law_short_here", 8)]) (by rfl) sc__law_right.nd (pi_tup (pv 1)) (blkOk_by (own := [("_law_short_here", 8)]) (N := ["_law_pot_here", "_law_row_here", "_law_moments_here", "_law_one", "_law_same", "_law_some", "_law_flat_here", "_law_other", "_law_short_here"]) (sc := defScope s__law_right) (by decide +kernel)) (fun _ _ _ _ _ => (pg_name (i := 8) sc__law_right.nd rfl (Or.inl rfl))) (fun _ _ _ _ _ => pts_nil) (fun _ _ _ _ _ => (c_call (all__law_made T 9) (hr.mono (by decide)) T.g__law_made T.k__law_made takes0 (pa_cons (pv 8) pa_nil)))) pa_nil)) pk_nil)))
      (pss_cons (ps_if (PW.pt (pw_or (pt_not (pt_val (c_call (ok__law_equal T) (hr.mono (by decide)) T.g__law_equal T.k__law_equal takes0 (pa_cons (pv 3) (pa_cons (pv 4) pa_nil))))) (pw_or (pt_not (pt_val (c_call (ok__law_equal T) (hr.mono (by decide)) T.g__law_equal T.k__law_equal takes0 (pa_cons (pv 4) (pa_cons (pv 3) pa_nil))))) (pw_or1 (pt_not (pt_val (c_call (ok__law_equal T) (hr.mono (by decide)) T.g__law_equal T.k__law_equal takes0 (pa_cons (pv 3) (pa_cons (pv 3) pa_nil)))))))))
      (pss_one (ps_ret pe_bl))
      pss_nil)
      (pss_cons (ps_set (i := 5) sc__law_right.nd rfl (Or.inl rfl) (pe_slice sl_list (pv 2) po_none (po_some pe_int)))
      (pss_cons (ps_par (i := 6) (j := 7) (by rfl) sc__law_right.nd rfl rfl (by decide) rfl rfl (pa_cons (c_call (ok__law_flat T) (hr.mono (by decide)) T.g__law_flat T.k__law_flat takes0 (pa_cons (pv 5) pa_nil)) (pa_cons (c_call (ok__law_flat T) (hr.mono (by decide)) T.g__law_flat T.k__law_flat takes0 (pa_cons (c_call (ok__law_near T) (hr.mono (by decide)) T.g__law_near T.k__law_near takes0 (pa_cons (pv 0) (pa_cons (pv 5) pa_nil))) pa_nil)) pa_nil)) (by rfl))
      (pss_cons (ps_if (PW.pt (pw_or (pt_not (pt_val (c_call (ok__law_equal T) (hr.mono (by decide)) T.g__law_equal T.k__law_equal takes0 (pa_cons (pv 6) (pa_cons (c_call (ok__law_halved T) (hr.mono (by decide)) T.g__law_halved T.k__law_halved takes0 (pa_cons (pv 5) pa_nil)) pa_nil))))) (pw_or1 (pt_not (pt_val (c_call (ok__law_equal T) (hr.mono (by decide)) T.g__law_equal T.k__law_equal takes0 (pa_cons (c_call (ok__law_halved T) (hr.mono (by decide)) T.g__law_halved T.k__law_halved takes0 (pa_cons (pv 5) pa_nil)) (pa_cons (pv 6) pa_nil))))))))
      (pss_one (ps_ret pe_bl))
      pss_nil)
      (pss_cons (ps_if (PW.pt (pw_or (pt_not (pt_val (c_call (ok__law_unlike T) (hr.mono (by decide)) T.g__law_unlike T.k__law_unlike takes0 (pa_cons (pv 6) (pa_cons (pv 7) pa_nil))))) (pw_or1 (pt_not (pt_val (c_call (ok__law_unlike T) (hr.mono (by decide)) T.g__law_unlike T.k__law_unlike takes0 (pa_cons (pv 7) (pa_cons (pv 6) pa_nil))))))))
      (pss_one (ps_ret pe_bl))
      pss_nil)
      (Evl.pss_cut (ps_if (PW.pt (pw_and (pt_cmpR op_lt (pe_callB call_len (by rfl) T.n_len (by decide +kernel) (pa_cons (pv 2) pa_nil)) pe_int (nomark _)) (pw_and1 (PW.pt (pw_or (pt_not (pt_val (c_call (ok__law_equal T) (hr.mono (by decide)) T.g__law_equal T.k__law_equal takes0 (pa_cons (pv 3) (pa_cons (pv 6) pa_nil))))) (pw_or1 (pt_not (pt_val (c_call (ok__law_equal T) (hr.mono (by decide)) T.g__law_equal T.k__law_equal takes0 (pa_cons (pv 6) (pa_cons (pv 3) pa_nil)))))))))))
      (pss_one (ps_ret pe_bl))
      pss_nil)
      (Evl.pss_cut (ps_if (PW.pt (pw_or (PW.pt (pw_and (pt_not (pt_val (c_call (ok__law_unlike T) (hr.mono (by decide)) T.g__law_unlike T.k__law_unlike takes0 (pa_cons (pv 3) (pa_cons (pv 7) pa_nil))))) (pw_and1 (pt_cmpR op_lt (pe_callB call_len (by rfl) T.n_len (by decide +kernel) (pa_cons (pv 2) pa_nil)) pe_int (nomark _))))) (pw_or1 (pt_not (pt_val (c_call (ok__law_equal T) (hr.mono (by decide)) T.g__law_equal T.k__law_equal takes0 (pa_cons (pv 3) (pa_cons (c_callK0 (ok_read_spread_0_text T) (hr.mono (by decide)) T.g_read_spread T.k_read_spread takes0 (pk_cons (pe_callTy (call_strO T.m_Spread_str (ok_Spread_str T) (hr.mono (by decide))) (by rfl) T.n_str (by decide +kernel) (pa_cons (pv 3) pa_nil)) pk_nil)) pa_nil))))))))
      (pss_one (ps_ret pe_bl))
      pss_nil)
      (Evl.pss_cut (ps_if (PW.pt (pw_and (pt_cmpR op_gt (pe_callB call_len (by rfl) T.n_len (by decide +kernel) (pa_cons (pv 2) pa_nil)) pe_int (nomark _)) (pw_and1 (pt_not (pt_val (c_call (ok__law_unlike T) (hr.mono (by decide)) T.g__law_unlike T.k__law_unlike takes0 (pa_cons (pv 3) (pa_cons (pv 6) pa_nil))))))))
      (pss_one (ps_ret pe_bl))
      pss_nil)
      (pss_one (ps_ret (pe_and (pe_cmpR op_eq (pe_callB (call_lenO T.m_Spread_len (ok_Spread_len T) (hr.mono (by decide))) (by rfl) T.n_len (by decide +kernel) (pa_cons (pv 3) pa_nil)) (pe_callB call_len (by rfl) T.n_len (by decide +kernel) (pa_cons (pv 2) pa_nil)) (nomark _)) (pe_and (pe_cmpR op_eq (pe_callB (call_lenO T.m_Spread_len (ok_Spread_len T) (hr.mono (by decide))) (by rfl) T.n_len (by decide +kernel) (pa_cons (pv 6) pa_nil)) (pe_callB call_len (by rfl) T.n_len (by decide +kernel) (pa_cons (pv 5) pa_nil)) (nomark _)) (pe_one (c_call (ok__law_others_unlike T) (hr.mono (by decide)) T.g__law_others_unlike T.k__law_others_unlike takes0 (pa_cons (pv 0) (pa_cons (pv 3) (pa_cons (pv 2) pa_nil))))))))))))))))))))), ?_⟩
    refine ⟨_, rfl, p, rfl, hp, fun r bs ts H2 hr2 hB hok h8 hri hl hb hp40 P2 => ?_⟩
    have hlB := hB.len
    have hts := len_moms hok
    have hf := fitL_of hok hb
    have hpc2 : pcsL ts ≤ 10000 := by omega
    have hsb : sprB ts = true := by
      unfold sprB
      rw [hri, decide_eq_true hl]
      rfl
    have pw := ris_sorted hok hri
    have hrd := read_text hok h8 hsb
    have hsg := seg_text (smL_of hok hb) hok
    have rl := rowT_sm (smL_of hok hb)
    have rl2 : (rowT (txtL ts)).length ≤ 10000 := by omega
    have hnn : ∀ t ∈ ts, t.nest + 1 ≤ 9 := fun t ht => Nat.succ_le_succ (Nat.le_trans (nestL_mem ht) h8)
    refine ⟨_, rfl, r, bs, ts, rfl, hr2, hB, hnn, hok, hl, fun u H3 X3 nu hu => ?_⟩
    have P3 := P2.ex2 X3
    have hr3 := X3 _ _ hr2
    have hB3 := hB.mono X3
    have up : u ≠ p := pot_ne P2 nu
    refine ⟨_, rfl, _, rfl, ⟨_, (sq_tup hr3)⟩, ?_⟩
    intro A nA
    refine lc_dts (K := K) nA L2.walk_tup (fun G e => sq_tup (K := K) (e _ _ hr3)) hB3 (by omega) (fun c t G acc N ht hDt XG hD la k => ?_) (fun as G4 X4 hA4 hSh4 => ?_)
    · refine ⟨rfl, _, rfl, c, t, rfl, hDt, hnn t ht, by have := hnn t ht; omega, okL_mem hok ht, fun a2 G2 X2 na2 hS2 => ⟨acc, X2 _ _ hD, la, ?_⟩⟩
      exact k a2 G2 X2 (X2 _ _ hD) hS2
    refine fun x1 dx1 nx1 nd1 ne1 => spread_newH nx1 nd1 ne1 (.inl hA4) hSh4 h8 hok hsb fun G5 X5 hSp1 hN1 => ⟨rfl, ?_⟩
    have X45 := X4.trans X5
    have P5 := P3.ex2 X45
    have S1 : SprP K G5 p x1 ts := .of hSp1 hN1 (P3.ex2 X4).1
    have hr5 := X45 _ _ hr3
    have hB5 := hB3.mono X45
    have hu5 := X45 _ _ hu
    clear hSp1 hN1 hA4 hSh4 hr3 hB3 hu
    refine ⟨_, rfl, _, rfl, ⟨_, (sq_tup hr5)⟩, ?_⟩
    intro B nB
    refine lc_dts (K := K) nB L2.walk_tup (fun G e => sq_tup (K := K) (e _ _ hr5)) hB5 (by omega) (fun c t G acc N ht hDt XG hD la k => ?_) (fun as G6 X6 hA6 hSh6 => ?_)
    · refine ⟨rfl, _, rfl, c, t, rfl, hDt, hnn t ht, by have := hnn t ht; omega, okL_mem hok ht, fun a2 G2 X2 na2 hS2 => ⟨acc, X2 _ _ hD, la, ?_⟩⟩
      exact k a2 G2 X2 (X2 _ _ hD) hS2
    refine ⟨_, _, rfl, .inl ⟨sq_lst hA6, fun tp ntp => ?_⟩⟩
    have Xtp := ex_new (o := .tup (as.map V.ref)) ntp
    have htp : upd G6 tp (.tup (as.map V.ref)) tp = some (.tup (as.map V.ref)) := upd_same
    generalize upd G6 tp (.tup (as.map V.ref)) = G7 at Xtp htp ⊢
    refine ⟨rfl, fun x2 dx2 nx2 nd2 ne2 => ⟨rfl, spread_newH nx2 nd2 ne2 (.inr htp) (hSh6.mono Xtp) h8 hok hsb fun G8 X8 hSp2 hN2 => ⟨rfl, ?_⟩⟩⟩
    have X58 := (X6.trans Xtp).trans X8
    have P8 := P5.ex2 X58
    have S28 : SprP K G8 p x2 ts := .of hSp2 hN2 (P5.ex2 (X6.trans Xtp)).1
    have S18 := S1.mono X58
    have hu8 := X58 _ _ hu5
    clear hSp2 hN2 hA6 hSh6 htp Xtp X6 X8 S1 hu5 hB5 hr5
    have s1 := S18.1
    have s2 := S28.1
    have er : momsL ts = momsL ts := rfl
    refine ⟨_, rfl, _, rfl, _, _, _, _, rfl, s1, s2, er, fun G9 X9 => ⟨true, rfl, ?_⟩⟩
    refine ⟨_, rfl, _, rfl, _, _, _, _, rfl, s2.mono X9, s1.mono X9, er, fun G10 X10 => ⟨true, rfl, ?_⟩⟩
    have X80 := X9.trans X10
    refine ⟨_, rfl, _, rfl, _, _, _, _, rfl, s1.mono X80, s1.mono X80, er, fun G11 X11 => ⟨true, rfl, iteF ?_⟩⟩
    have X8b := X80.trans X11
    have P11 := P8.ex2 X8b
    have S1b := S18.mono X8b
    have hub := X8b _ _ hu8
    clear s1 s2 S18 S28 hu8 X80 X9 X10 X11
    generalize hns : momsL ts = ns at hub pw
    have lns : ns.length ≤ 1440 := by rw [← hns]; exact hl
    refine ⟨_, rfl, _, rfl, u, _, rfl, sq_lst hub, fun v nv => ?_⟩
    have Xv := ex_new (o := HO.lst (cutV (natV ns) none (some 39))) nv
    have hv : upd G11 v (HO.lst (cutV (natV ns) none (some 39))) v = some (HO.lst (natV (ns.take 39))) := by
      rw [upd_same, show (39 : Int) = ((39 : Nat) : Int) from rfl, cut_takeV, natV_take]
    generalize upd G11 v (HO.lst (cutV (natV ns) none (some 39))) = G12 at Xv hv ⊢
    have vp : v ≠ p := pot_ne P11 nv
    have P12 := P11.ex2 Xv
    have S1c := S1b.mono Xv
    have huc := Xv _ _ hub
    clear S1b hub
    have pws : (ns.take 39).Pairwise (· < ·) := pw.sublist (List.take_sublist 39 ns)
    have ls : (ns.take 39).length ≤ 39 := by rw [List.length_take]; omega
    refine ⟨_, rfl, _, _, rfl, hv, pws, (by omega), ?_⟩
    intro f G13 X13 nf hSf hNf
    have P13 := P12.ex2 X13
    have SF : SprP K G13 p f (atsL (ns.take 39)) := .of hSf hNf P12.1
    have S1d := S1c.mono X13
    have hud := X13 _ _ huc
    have hvd := X13 _ _ hv
    have P13' := P13.1
    clear hSf hNf S1c huc hv X13 Xv
    have ls9 : (ns.take 39).length ≤ 1439 := by omega
    refine ⟨_, rfl, _, rfl, _, _, _, rfl, P13', vp, hvd, pws, ls9, ?_⟩
    intro rm ms G14 P14 rp hrm pwm nem lem
    have S1e := S1d.pot P13' P14
    have SFe := SF.pot P13' P14
    have hue := P14.2 _ _ up hud
    have hve := P14.2 _ _ vp hvd
    have PE := P13.trans P14
    have lm : ms.length ≤ 1440 := by omega
    clear S1d SF hud hvd P13 P14
    refine ⟨rm, ms, rfl, hrm, pwm, lm, fun o G15 X15 no hSo hNo => ?_⟩
    have P15 := PE.ex2 X15
    have SO : SprP K G15 p o (atsL ms) := .of hSo hNo PE.1
    have S1f := S1e.mono X15
    have SFf := SFe.mono X15
    have huf := X15 _ _ hue
    have hvf := X15 _ _ hve
    clear hSo hNo S1e SFe hue hve hrm PE X15
    have ls40 : (ns.take 39).length ≤ 40 := by omega
    refine ⟨_, _, rfl, _, rfl, _, rfl, _, _, rfl, hvf, pws, ls40, ?_⟩
    intro hx hts G16 X16 nhx hSh eh
    have f1 := SFf.1.mono X16
    have eh2 : momsL (atsL (ns.take 39)) = momsL hts := (moms_ats _).trans eh.symm
    refine ⟨f, hx, _, hts, rfl, f1, hSh, eh2, fun G17 X17 => ⟨true, rfl, ?_⟩⟩
    have X57 := X16.trans X17
    have hv7 := X57 _ _ hvf
    clear hSh f1 eh2 eh nhx
    refine ⟨_, rfl, _, _, rfl, hv7, pws, ls40, ?_⟩
    intro hy hty G18 X18 nhy hSy ey
    have X58' := X57.trans X18
    refine ⟨_, rfl, hy, f, hty, _, rfl, hSy, SFf.1.mono X58', ey.trans (moms_ats _).symm, fun G19 X19 => ⟨true, rfl, iteF ?_⟩⟩
    have X59 := X58'.trans X19
    have P19 := P15.ex2 X59
    have S1g := S1f.mono X59
    have SFg := SFf.mono X59
    have SOg := SO.mono X59
    have hug := X59 _ _ huf
    have hvg := X59 _ _ hvf
    clear X57 X58' X59 X16 X17 X18 X19 hSy nhy hv7 S1f SFf SO huf hvf P15
    have nfo : momsL (atsL (ns.take 39)) ≠ momsL (atsL ms) := by rw [moms_ats, moms_ats]; exact nem.symm
    refine ⟨_, rfl, _, rfl, f, _, .ref o, rfl, SFg.1, .inl ⟨.inl ⟨o, _, rfl, SOg.1, nfo⟩, fun G20 X20 => ⟨true, rfl, ?_⟩⟩⟩
    refine ⟨_, rfl, _, rfl, o, _, .ref f, rfl, SOg.1.mono X20, .inl ⟨.inl ⟨f, _, rfl, SFg.1.mono X20, nfo.symm⟩, fun G21 X21 => ⟨true, rfl, iteF ?_⟩⟩⟩
    have X9b := X20.trans X21
    have P21 := P19.ex2 X9b
    have S1h := S1g.mono X9b
    have SFh := SFg.mono X9b
    have SOh := SOg.mono X9b
    have huh := X9b _ _ hug
    have hvh := X9b _ _ hvg
    clear X20 X21 X9b S1g SFg SOg hug hvg P19
    refine ⟨fun σ G => Ex G21 G ∧ σ = [some (.ref p), some (.ref r), some (.ref u), some (.ref x1), some (.ref x2), some (.ref v), some (.ref f), some (.ref o), none], ?_, ?_⟩
    · refine ⟨_, rfl, _, _, rfl, (.inl ⟨_, ⟨(sq_lst huh), rfl⟩⟩), _, _, rfl, rfl, _, rfl, ?_⟩
      try dsimp only [tNil]
      rw [natV_len]
      refine ite2 (fun c => ?_) (fun c => iteF ⟨.refl _, rfl⟩)
      have c := of_decide_eq_true c
      have e1 : momsL ts = momsL (atsL (ns.take 39)) := by rw [moms_ats, hns, List.take_of_length_le (by omega)]
      refine ⟨_, rfl, _, rfl, _, _, _, _, rfl, S1h.1, SFh.1, e1, fun G22 X22 => ⟨true, rfl, ?_⟩⟩
      refine ⟨_, rfl, _, rfl, _, _, _, _, rfl, SFh.1.mono X22, S1h.1.mono X22, e1.symm, fun G23 X23 => ⟨true, rfl, iteF ⟨X22.trans X23, rfl⟩⟩⟩
    rintro σ G ⟨XG, rfl⟩
    have S1h' := S1h.mono XG
    have SFh' := SFh.mono XG
    have SOh' := SOh.mono XG
    have huh' := XG _ _ huh
    have hvh' := XG _ _ hvh
    have PG := P21.ex2 XG
    clear S1h SFh SOh huh hvh P21 XG
    have lmn : ns = ms → ¬ ns.length < 40 := fun e c => nem (by rw [← e, List.take_of_length_le (by omega)])
    refine ⟨fun σ G' => Ex G G' ∧ σ = [some (.ref p), some (.ref r), some (.ref u), some (.ref x1), some (.ref x2), some (.ref v), some (.ref f), some (.ref o), none], ?_, ?_⟩
    · by_cases ef : ns = ms
      · refine ⟨_, rfl, _, rfl, x1, _, .ref o, rfl, S1h'.1, .inr ⟨o, _, rfl, SOh'.1, by rw [moms_ats, hns]; exact ef, false, rfl, ?_⟩⟩
        refine ⟨_, rfl, _, _, rfl, (.inl ⟨_, ⟨(sq_lst huh'), rfl⟩⟩), _, _, rfl, rfl, _, rfl, ?_⟩
        try dsimp only [tNil]
        rw [natV_len, decide_eq_false (show ¬ (ns.length : Int) < 40 by have := lmn ef; omega)]
        refine iteF ?_
        have X30 : Ex G G := .refl _
        refine ⟨_, rfl, _, rfl, ?_⟩
        have hT := S1h'.mono X30
        obtain ⟨dxT, kpT, hhT, asT, hxT, _⟩ := id hT.1
        refine ⟨x1, dxT, _, rfl, hxT, x1, ts, rfl, hT.1, by omega, hf, hpc2, fun G31 X31 => ⟨trivial, rfl, rfl, ?_⟩⟩
        refine ⟨_, rfl, .inl ⟨_, rfl, rl2, hsg, fun ts' e a H6 X6 na hS6 => ?_, fun z => by rw [hrd] at z; cases z⟩⟩
        have et : ts = ts' := by rw [hrd] at e; cases e; rfl
        subst et
        exact ⟨x1, a, ts, ts, rfl, hT.1.mono (X31.trans X6), hS6, rfl, fun G33 X33 => ⟨true, rfl, iteF ⟨((X30).trans (X31.trans X6)).trans X33, rfl⟩⟩⟩
      · refine ⟨_, rfl, _, rfl, x1, _, .ref o, rfl, S1h'.1, .inl ⟨.inl ⟨o, _, rfl, SOh'.1, by rw [moms_ats, hns]; exact ef⟩, fun G30 X30 => ⟨true, rfl, ?_⟩⟩⟩
        refine ⟨_, rfl, _, rfl, ?_⟩
        have hT := S1h'.mono X30
        obtain ⟨dxT, kpT, hhT, asT, hxT, _⟩ := id hT.1
        refine ⟨x1, dxT, _, rfl, hxT, x1, ts, rfl, hT.1, by omega, hf, hpc2, fun G31 X31 => ⟨trivial, rfl, rfl, ?_⟩⟩
        refine ⟨_, rfl, .inl ⟨_, rfl, rl2, hsg, fun ts' e a H6 X6 na hS6 => ?_, fun z => by rw [hrd] at z; cases z⟩⟩
        have et : ts = ts' := by rw [hrd] at e; cases e; rfl
        subst et
        exact ⟨x1, a, ts, ts, rfl, hT.1.mono (X31.trans X6), hS6, rfl, fun G33 X33 => ⟨true, rfl, iteF ⟨((X30).trans (X31.trans X6)).trans X33, rfl⟩⟩⟩
    rintro σ G' ⟨XG, rfl⟩
    have S1i := S1h'.mono XG
    have SFi := SFh'.mono XG
    have hui := XG _ _ huh'
    have hvi := XG _ _ hvh'
    have PI := PG.ex2 XG
    clear S1h' SFh' SOh' huh' hvh' PG XG
    refine ⟨fun σ G2 => Ex G' G2 ∧ σ = [some (.ref p), some (.ref r), some (.ref u), some (.ref x1), some (.ref x2), some (.ref v), some (.ref f), some (.ref o), none], ?_, ?_⟩
    · refine ⟨_, rfl, _, _, rfl, (.inl ⟨_, ⟨(sq_lst hui), rfl⟩⟩), _, _, rfl, rfl, _, rfl, ?_⟩
      try dsimp only [tNil]
      rw [natV_len]
      refine ite2 (fun c => ?_) (fun c => iteF ⟨.refl _, rfl⟩)
      have c := of_decide_eq_true c
      have ne1 : momsL ts ≠ momsL (atsL (ns.take 39)) := fun e => by
        rw [moms_ats, hns] at e
        have e := congrArg List.length e
        omega
      exact ⟨_, rfl, _, rfl, x1, _, .ref f, rfl, S1i.1, .inl ⟨.inl ⟨f, _, rfl, SFi.1, ne1⟩, fun G22 X22 => ⟨true, rfl, iteF ⟨X22, rfl⟩⟩⟩⟩
    rintro σ GE ⟨XG, rfl⟩
    have S1j := S1i.mono XG
    have SFj := SFi.mono XG
    have huj := XG _ _ hui
    have hvj := XG _ _ hvi
    have PJ := PI.ex2 XG
    have s1 := S1j.1
    have sf := SFj.1
    obtain ⟨dx1', kp1', hh1', as1', hx1', _⟩ := id s1
    obtain ⟨dx2', kp2', hh2', as2', hx2', _⟩ := id sf
    have l1 : (momsL ts).length = ns.length := by rw [hns]
    have l2 : (momsL (atsL (ns.take 39))).length = (ns.take 39).length := by rw [moms_ats]
    clear S1i SFi hui hvi PI XG
    refine ⟨_, rfl, _, _, _, rfl, hx1', _, _, rfl, s1, ⟨(by omega), (by omega)⟩, _, rfl, _, _, rfl, (.inl ⟨_, ⟨(sq_lst huj), rfl⟩⟩), rfl, _, rfl, ?_⟩
    try dsimp only [tNil]
    rw [l1, natV_len, decide_eq_true rfl]
    refine iteT ?_
    refine ⟨_, rfl, _, _, _, rfl, hx2', _, _, rfl, sf, ⟨(by omega), (by omega)⟩, _, rfl, _, _, rfl, (.inl ⟨_, ⟨(sq_lst hvj), rfl⟩⟩), rfl, _, rfl, ?_⟩
    try dsimp only [tNil]
    rw [l2, natV_len, decide_eq_true rfl]
    refine iteT ?_
    refine ⟨_, rfl, _, rfl, _, rfl, p, x1, u, ts, ns, rfl, PJ.1, S1j, up, huj, lns, by omega, hf, hpc2, fun GF PF => ?_⟩
    exact q GF (PJ.trans PF)
theorem ok__law_right {P : Program} {w : World} {K : PySem.W.Frag} {mg : Str → Option Value} {base : Heap} (T : Env K mg) : Fc P w K mg base 130 (He.ga K "_law_right") [] (sp__law_right K ) := by
  obtain ⟨fd, D, F⟩ := fb__law_right T
  exact F.all (D.bindsN fun _ _ _ _ _ _ us hl => match us, hl with | [_], _ => rfl)
end
section
def sp_law (K : PySem.W.Frag) : Sp := fun vs H Q _ => ∃ (a : Addr) (ns : List Int), vs = [.ref a] ∧ SqL K H a (ns.map V.int) ∧ ns.length ≤ 63 ∧ ∀ H', Q (.bl true) H'
theorem ok_law {P : Program} {w : World} {K : PySem.W.Frag} {mg : Str → Option Value} {base : Heap} (T : Env K mg) {fd : FuncData} (F : FunD K "law" "law" (defArgs s_law) (defBody s_law) (defScope s_law) [] [] (He.ga K "law") fd) : Fb P w K mg base 131 (He.ga K "law") fd ["_law_script"] (sp_law K) := by
  refine fb_of F sc_law (fun vs H Q E h => ?_) (fun cdv A outer s H vs Q E hr h => ?_)
  · obtain ⟨a, ns, rfl, _⟩ := h
    rfl
  · obtain ⟨a, ns, rfl, hS, hl, q⟩ := h
    refine ⟨_, (pss_cons (ps_for (passes_of rfl) rfl (pi_range1 (by rfl) T.n_range (pa_cons (pe_callB (call_max2 rfl) (by rfl) T.n_max (by decide +kernel) (pa_cons pe_int (pa_cons (pe_callB (call_min2 rfl) (by rfl) T.n_min (by decide +kernel) (pa_cons (pe_callB call_len (by rfl) T.n_len (by decide +kernel) (pa_cons (pv 0) pa_nil)) (pa_cons pe_int pa_nil))) pa_nil))) pa_nil)) (pg_name (i := 1) sc_law.nd rfl (Or.inl rfl))
      (pss_cons (ps_set (i := 2) sc_law.nd rfl (Or.inl rfl) (c_call (ok__law_pot T) (hr.mono (by decide)) T.g__law_pot T.k__law_pot takes0 (pa_cons (pv 0) (pa_cons (pv 1) pa_nil))))
      (pss_one (ps_if (PW.pt (pw_or (pt_not (pt_val (c_call (ok__law_right T) (hr.mono (by decide)) T.g__law_right T.k__law_right takes0 (pa_cons (pv 2) pa_nil)))) (pw_or1 (pt_not (pt_val (c_call (ok__law_doubled_right T) (hr.mono (by decide)) T.g__law_doubled_right T.k__law_doubled_right takes0 (pa_cons (pv 2) pa_nil)))))))
      (pss_one (ps_ret pe_bl))
      pss_nil))))
      (pss_one (ps_ret pe_bl))), ?_⟩
    refine ⟨_, rfl, _, _, rfl, .inl ⟨_, hS, rfl⟩, _, _, rfl, _, _, rfl, _, rfl, (turns_lo 4 _ (by decide)), (turns_hi 4 _ (by decide)), for_range (fun i σ H' => Ex H H' ∧ ∃ v1 v2, σ = [some (.ref a), v1, v2]) ⟨.refl H, _, _, rfl⟩ ?_ ?_⟩
    · rintro i σ H1 hi ⟨X1, v1, v2, rfl⟩
      have i1 : i < 1000 := turns_lt 4 _ (by decide) hi
      refine ⟨_, rfl, _, rfl, a, ns, _, rfl, ex_sql X1 hS, by omega, by omega, fun p H2 np P2 K2 => ?_⟩
      have X2 : Ex H H2 := fun b o e => by rw [K2 b (ne_of_none (X1 b o e) np)]; exact X1 b o e
      have hp0 : H p = none := ex_fresh X1 np
      refine ⟨_, rfl, p, rfl, P2, fun H3 k3 => ⟨true, rfl, ?_⟩⟩
      refine ⟨_, rfl, p, rfl, k3.1, fun H4 k4 => ⟨true, rfl, iteF ⟨fun b o e => (k3.trans k4).2 b o (ne_of_none e hp0) (X2 b o e), _, _, rfl⟩⟩⟩
    · rintro σ H1 ⟨_, _, _, rfl⟩
      exact q _
end
end Toy
namespace Toy
open PySem PySem.Spec PyProof.Rows L2 L3
def xf1 : List Fx := [fun K => (He.Fa.glo "_wall").ok K,
  fun K => (He.Fa.glo "is_whole").ok K,
  fun K => (He.Fa.glo "is_moment").ok K,
  fun K => (He.Fa.glo "want_moment").ok K,
  fun K => (He.Fa.glo "want_below").ok K,
  fun K => (He.Fa.glo "moment_at").ok K,
  fun K => (He.Fa.glo "clock_of").ok K,
  fun K => (He.Fa.glo "show_moment").ok K,
  fun K => (He.Fa.glo "are_figures").ok K,
  fun K => (He.Fa.glo "number_of").ok K,
  fun K => (He.Fa.glo "day_of").ok K,
  fun K => (He.Fa.glo "read_moment").ok K,
  fun K => (He.Fa.glo "is_number").ok K,
  fun K => (He.Fa.glo "all_rising").ok K,
  fun K => (He.Fa.glo "shorts_in").ok K,
  fun K => (He.Fa.glo "row_moments").ok K,
  fun K => (He.Fa.glo "row_many").ok K,
  fun K => (He.Fa.glo "row_text").ok K,
  fun K => (He.Fa.glo "number_in").ok K,
  fun K => (He.Fa.glo "at_in").ok K,
  fun K => (He.Fa.glo "item_end").ok K,
  fun K => (He.Fa.glo "over_in").ok K,
  fun K => (He.Fa.glo "read_on").ok K,
  fun K => (He.Fa.glo "read_spread").ok K,
  fun K => (He.Fa.glo "_law_pot").ok K,
  fun K => (He.Fa.glo "_law_draw").ok K,
  fun K => (He.Fa.glo "_law_moments").ok K,
  fun K => (He.Fa.glo "_law_row_moments").ok K,
  fun K => (He.Fa.glo "_law_wide").ok K,
  fun K => (He.Fa.glo "_law_gap").ok K,
  fun K => (He.Fa.glo "_law_short").ok K,
  fun K => (He.Fa.glo "_law_row").ok K,
  fun K => (He.Fa.glo "_law_spread").ok K,
  fun K => (He.Fa.glo "_law_made").ok K,
  fun K => (He.Fa.glo "_law_flat").ok K,
  fun K => (He.Fa.glo "_law_near").ok K,
  fun K => (He.Fa.glo "_law_halved").ok K,
  fun K => (He.Fa.glo "_law_equal").ok K,
  fun K => (He.Fa.glo "_law_unlike").ok K,
  fun K => (He.Fa.glo "_law_others_unlike").ok K,
  fun K => (He.Fa.glo "_law_doubled_right").ok K,
  fun K => (He.Fa.glo "_law_right").ok K,
  fun K => (He.Fa.glo "law").ok K,
  fun K => (He.Fa.int "HOUR" (60)).ok K,
  fun K => (He.Fa.int "DAY" (1440)).ok K,
  fun K => (He.Fa.int "HOURS" (24)).ok K,
  fun K => (He.Fa.str "FIGURES_clock" "0123456789").ok K,
  fun K => (He.Fa.str "COLON" ":").ok K,
  fun K => (He.Fa.str "BLANK" " ").ok K,
  fun K => (He.Fa.int "MOST_MOMENTS" (1440)).ok K,
  fun K => (He.Fa.int "MOST_NESTED" (8)).ok K,
  fun K => (He.Fa.str "NO_PARTS" "-").ok K,
  fun K => (He.Fa.str "FIGURES_spreads" "0123456789").ok K,
  fun K => (He.Fa.free "all").ok K,
  fun K => (He.Fa.free "bool").ok K,
  fun K => (He.Fa.free "divmod").ok K,
  fun K => (He.Fa.free "int").ok K,
  fun K => (He.Fa.free "isinstance").ok K,
  fun K => (He.Fa.free "len").ok K,
  fun K => (He.Fa.free "list").ok K,
  fun K => (He.Fa.free "max").ok K,
  fun K => (He.Fa.free "min").ok K,
  fun K => (He.Fa.free "range").ok K,
  fun K => (He.Fa.free "str").ok K,
  fun K => (He.Fa.free "sum").ok K,
  fun K => (He.Fa.free "tuple").ok K,
  fun K => (He.Fa.free "zip").ok K,
  fun K => (He.Fa.glo "GoingError").ok K,
  exoB bmV "ValueError.__new__" "GoingError",
  fun K => (He.Fa.glo "NoTime").ok K,
  exoB bmV "ValueError.__new__" "NoTime",
  fun K => (He.Fa.glo "NoPiece").ok K,
  exoB bmV "ValueError.__new__" "NoPiece",
  fun K => (He.Fa.glo "Short").ok K,
  fun K => (He.Fa.glo "At").ok K,
  fun K => (He.Fa.glo "Over").ok K,
  fun K => (He.Fa.glo "Spread").ok K,
  sysB,
  fun K => (He.Fa.cls "Short").ok K,
  insB "Short",
  fun K => (He.Fa.meth "Short" "moments").ok K,
  fun K => (He.Fa.meth "Short" "pieces").ok K,
  fun K => (He.Fa.meth "Short" "begins").ok K,
  fun K => (He.Fa.meth "Short" "ends").ok K,
  fun K => (He.Fa.meth "Short" "means_many").ok K,
  fun K => (He.Fa.meth "Short" "nested").ok K,
  kitF "Short" "Short" true,
  kitF "Short" "Spread" false,
  kitFT "Short" "int" false,
  kitFT "Short" "bool" false]
def xf2 : List Fx := [kitFT "Short" "str" false,
  kitFT "Short" "list" false,
  kitFT "Short" "tuple" false,
  fun K => (He.Fa.cls "At").ok K,
  insB "At",
  fun K => (He.Fa.noat "At" "moment").ok K,
  fun K => (He.Fa.meth "At" "__init__").ok K,
  fun K => (He.Fa.meth "At" "moments").ok K,
  fun K => (He.Fa.meth "At" "pieces").ok K,
  fun K => (He.Fa.meth "At" "begins").ok K,
  fun K => (He.Fa.meth "At" "ends").ok K,
  fun K => (He.Fa.meth "At" "means_many").ok K,
  fun K => (He.Fa.meth "At" "nested").ok K,
  fun K => (He.Fa.meth "At" "__str__").ok K,
  fun K => (He.Fa.mkr "At").ok K,
  kitF "At" "Short" true,
  kitF "At" "Spread" false,
  kitFT "At" "int" false,
  kitFT "At" "bool" false,
  kitFT "At" "str" false,
  kitFT "At" "list" false,
  kitFT "At" "tuple" false,
  fun K => (He.Fa.cls "Over").ok K,
  insB "Over",
  fun K => (He.Fa.noat "Over" "kept").ok K,
  fun K => (He.Fa.noat "Over" "many").ok K,
  fun K => (He.Fa.noat "Over" "step").ok K,
  fun K => (He.Fa.meth "Over" "__init__").ok K,
  fun K => (He.Fa.meth "Over" "parts").ok K,
  fun K => (He.Fa.meth "Over" "moments").ok K,
  fun K => (He.Fa.meth "Over" "pieces").ok K,
  fun K => (He.Fa.meth "Over" "begins").ok K,
  fun K => (He.Fa.meth "Over" "ends").ok K,
  fun K => (He.Fa.meth "Over" "means_many").ok K,
  fun K => (He.Fa.meth "Over" "nested").ok K,
  fun K => (He.Fa.meth "Over" "__str__").ok K,
  fun K => (He.Fa.mkr "Over").ok K,
  kitF "Over" "Short" true,
  kitF "Over" "Spread" false,
  kitFT "Over" "int" false,
  kitFT "Over" "bool" false,
  kitFT "Over" "str" false,
  kitFT "Over" "list" false,
  kitFT "Over" "tuple" false,
  fun K => (He.Fa.cls "Spread").ok K,
  insB "Spread",
  fun K => (He.Fa.noat "Spread" "kept").ok K,
  fun K => (He.Fa.noat "Spread" "held").ok K,
  fun K => (He.Fa.meth "Spread" "__init__").ok K,
  fun K => (He.Fa.meth "Spread" "parts").ok K,
  fun K => (He.Fa.meth "Spread" "moments").ok K,
  fun K => (He.Fa.meth "Spread" "pieces").ok K,
  fun K => (He.Fa.meth "Spread" "__eq__").ok K,
  fun K => (He.Fa.meth "Spread" "__len__").ok K,
  fun K => (He.Fa.meth "Spread" "__str__").ok K,
  fun K => (He.Fa.meth "Spread" "__repr__").ok K,
  fun K => (He.Fa.mkr "Spread").ok K,
  noBaseF "Spread",
  kitF "Spread" "Short" false,
  kitF "Spread" "Spread" true,
  kitFT "Spread" "int" false,
  kitFT "Spread" "bool" false,
  kitFT "Spread" "str" false,
  kitFT "Spread" "list" false,
  kitFT "Spread" "tuple" false,
  kitBF "int" "Short" false,
  kitBF "bool" "Short" false,
  kitBF "str" "Short" false,
  kitBF "NoneType" "Short" false,
  kitBF "list" "Short" false,
  kitBF "tuple" "Short" false,
  kitBF "dict" "Short" false,
  kitBF "int" "Spread" false,
  kitBF "bool" "Spread" false,
  kitBF "str" "Spread" false,
  kitBF "NoneType" "Spread" false,
  kitBF "list" "Spread" false,
  kitBF "tuple" "Spread" false,
  kitBF "dict" "Spread" false,
  exm1F "NoTime" "NoTime" true,
  excCB "NoTime",
  kitF "NoTime" "GoingError" true,
  kitF "NoTime" "NoTime" true,
  kitF "NoTime" "NoPiece" false,
  kitFT "NoTime" "ValueError" true,
  kitFT "NoTime" "LookupError" false,
  kitFT "NoTime" "RuntimeError" false,
  noEqF "At",
  kitF "Spread" "At" false,
  noEqF "Over",
  kitF "Spread" "Over" false]
def xf : List Fx := xf1 ++ xf2
def d__wall : He.DefD := ⟨("_wall", none), "_wall", "_wall", defArgs s__wall, defBody s__wall, defScope s__wall, [], []⟩
def d_is_whole : He.DefD := ⟨("is_whole", none), "is_whole", "is_whole", defArgs s_is_whole, defBody s_is_whole, defScope s_is_whole, [], []⟩
def d_is_moment : He.DefD := ⟨("is_moment", none), "is_moment", "is_moment", defArgs s_is_moment, defBody s_is_moment, defScope s_is_moment, [], []⟩
def d_want_moment : He.DefD := ⟨("want_moment", none), "want_moment", "want_moment", defArgs s_want_moment, defBody s_want_moment, defScope s_want_moment, [], []⟩
def d_want_below : He.DefD := ⟨("want_below", none), "want_below", "want_below", defArgs s_want_below, defBody s_want_below, defScope s_want_below, [], []⟩
def d_moment_at : He.DefD := ⟨("moment_at", none), "moment_at", "moment_at", defArgs s_moment_at, defBody s_moment_at, defScope s_moment_at, [.int (0), .int (0), .int (0)], []⟩
def d_clock_of : He.DefD := ⟨("clock_of", none), "clock_of", "clock_of", defArgs s_clock_of, defBody s_clock_of, defScope s_clock_of, [], []⟩
def d_show_moment : He.DefD := ⟨("show_moment", none), "show_moment", "show_moment", defArgs s_show_moment, defBody s_show_moment, defScope s_show_moment, [], []⟩
def d_are_figures : He.DefD := ⟨("are_figures", none), "are_figures", "are_figures", defArgs s_are_figures, defBody s_are_figures, defScope s_are_figures, [], []⟩
def d_number_of : He.DefD := ⟨("number_of", none), "number_of", "number_of", defArgs s_number_of, defBody s_number_of, defScope s_number_of, [], []⟩
def d_day_of : He.DefD := ⟨("day_of", none), "day_of", "day_of", defArgs s_day_of, defBody s_day_of, defScope s_day_of, [], []⟩
def d_read_moment : He.DefD := ⟨("read_moment", none), "read_moment", "read_moment", defArgs s_read_moment, defBody s_read_moment, defScope s_read_moment, [], []⟩
def d_is_number : He.DefD := ⟨("is_number", none), "is_number", "is_number", defArgs s_is_number, defBody s_is_number, defScope s_is_number, [], []⟩
def d_Short_moments : He.DefD := ⟨("Short", some "moments"), "moments", "Short.moments", defArgs s_Short_moments, defBody s_Short_moments, defScope s_Short_moments, [], []⟩
def d_Short_pieces : He.DefD := ⟨("Short", some "pieces"), "pieces", "Short.pieces", defArgs s_Short_pieces, defBody s_Short_pieces, defScope s_Short_pieces, [], []⟩
def d_Short_begins : He.DefD := ⟨("Short", some "begins"), "begins", "Short.begins", defArgs s_Short_begins, defBody s_Short_begins, defScope s_Short_begins, [], []⟩
def d_Short_ends : He.DefD := ⟨("Short", some "ends"), "ends", "Short.ends", defArgs s_Short_ends, defBody s_Short_ends, defScope s_Short_ends, [], []⟩
def d_Short_means_many : He.DefD := ⟨("Short", some "means_many"), "means_many", "Short.means_many", defArgs s_Short_means_many, defBody s_Short_means_many, defScope s_Short_means_many, [], []⟩
def d_Short_nested : He.DefD := ⟨("Short", some "nested"), "nested", "Short.nested", defArgs s_Short_nested, defBody s_Short_nested, defScope s_Short_nested, [], []⟩
def d_all_rising : He.DefD := ⟨("all_rising", none), "all_rising", "all_rising", defArgs s_all_rising, defBody s_all_rising, defScope s_all_rising, [], []⟩
def d_shorts_in : He.DefD := ⟨("shorts_in", none), "shorts_in", "shorts_in", defArgs s_shorts_in, defBody s_shorts_in, defScope s_shorts_in, [], []⟩
def d_row_moments : He.DefD := ⟨("row_moments", none), "row_moments", "row_moments", defArgs s_row_moments, defBody s_row_moments, defScope s_row_moments, [], []⟩
def d_row_many : He.DefD := ⟨("row_many", none), "row_many", "row_many", defArgs s_row_many, defBody s_row_many, defScope s_row_many, [], []⟩
def d_row_text : He.DefD := ⟨("row_text", none), "row_text", "row_text", defArgs s_row_text, defBody s_row_text, defScope s_row_text, [], []⟩
def d_At_init : He.DefD := ⟨("At", some "__init__"), "__init__", "At.__init__", defArgs s_At_init, defBody s_At_init, defScope s_At_init, [], []⟩
def d_At_moments : He.DefD := ⟨("At", some "moments"), "moments", "At.moments", defArgs s_At_moments, defBody s_At_moments, defScope s_At_moments, [], []⟩
def d_At_pieces : He.DefD := ⟨("At", some "pieces"), "pieces", "At.pieces", defArgs s_At_pieces, defBody s_At_pieces, defScope s_At_pieces, [], []⟩
def d_At_begins : He.DefD := ⟨("At", some "begins"), "begins", "At.begins", defArgs s_At_begins, defBody s_At_begins, defScope s_At_begins, [], []⟩
def d_At_ends : He.DefD := ⟨("At", some "ends"), "ends", "At.ends", defArgs s_At_ends, defBody s_At_ends, defScope s_At_ends, [], []⟩
def d_At_means_many : He.DefD := ⟨("At", some "means_many"), "means_many", "At.means_many", defArgs s_At_means_many, defBody s_At_means_many, defScope s_At_means_many, [], []⟩
def d_At_nested : He.DefD := ⟨("At", some "nested"), "nested", "At.nested", defArgs s_At_nested, defBody s_At_nested, defScope s_At_nested, [], []⟩
def d_At_str : He.DefD := ⟨("At", some "__str__"), "__str__", "At.__str__", defArgs s_At_str, defBody s_At_str, defScope s_At_str, [], []⟩
def d_Over_init : He.DefD := ⟨("Over", some "__init__"), "__init__", "Over.__init__", defArgs s_Over_init, defBody s_Over_init, defScope s_Over_init, [.int (2), .int (60)], []⟩
def d_Over_parts : He.DefD := ⟨("Over", some "parts"), "parts", "Over.parts", defArgs s_Over_parts, defBody s_Over_parts, defScope s_Over_parts, [], []⟩
def d_Over_moments : He.DefD := ⟨("Over", some "moments"), "moments", "Over.moments", defArgs s_Over_moments, defBody s_Over_moments, defScope s_Over_moments, [], []⟩
def d_Over_pieces : He.DefD := ⟨("Over", some "pieces"), "pieces", "Over.pieces", defArgs s_Over_pieces, defBody s_Over_pieces, defScope s_Over_pieces, [], []⟩
def d_Over_begins : He.DefD := ⟨("Over", some "begins"), "begins", "Over.begins", defArgs s_Over_begins, defBody s_Over_begins, defScope s_Over_begins, [], []⟩
def d_Over_ends : He.DefD := ⟨("Over", some "ends"), "ends", "Over.ends", defArgs s_Over_ends, defBody s_Over_ends, defScope s_Over_ends, [], []⟩
def d_Over_means_many : He.DefD := ⟨("Over", some "means_many"), "means_many", "Over.means_many", defArgs s_Over_means_many, defBody s_Over_means_many, defScope s_Over_means_many, [], []⟩
def d_Over_nested : He.DefD := ⟨("Over", some "nested"), "nested", "Over.nested", defArgs s_Over_nested, defBody s_Over_nested, defScope s_Over_nested, [], []⟩
def d_Over_str : He.DefD := ⟨("Over", some "__str__"), "__str__", "Over.__str__", defArgs s_Over_str, defBody s_Over_str, defScope s_Over_str, [], []⟩
def d_Spread_init : He.DefD := ⟨("Spread", some "__init__"), "__init__", "Spread.__init__", defArgs s_Spread_init, defBody s_Spread_init, defScope s_Spread_init, [], []⟩
def d_Spread_parts : He.DefD := ⟨("Spread", some "parts"), "parts", "Spread.parts", defArgs s_Spread_parts, defBody s_Spread_parts, defScope s_Spread_parts, [], []⟩
def d_Spread_moments : He.DefD := ⟨("Spread", some "moments"), "moments", "Spread.moments", defArgs s_Spread_moments, defBody s_Spread_moments, defScope s_Spread_moments, [], []⟩
def d_Spread_pieces : He.DefD := ⟨("Spread", some "pieces"), "pieces", "Spread.pieces", defArgs s_Spread_pieces, defBody s_Spread_pieces, defScope s_Spread_pieces, [], []⟩
def d_Spread_eq : He.DefD := ⟨("Spread", some "__eq__"), "__eq__", "Spread.__eq__", defArgs s_Spread_eq, defBody s_Spread_eq, defScope s_Spread_eq, [], []⟩
def d_Spread_len : He.DefD := ⟨("Spread", some "__len__"), "__len__", "Spread.__len__", defArgs s_Spread_len, defBody s_Spread_len, defScope s_Spread_len, [], []⟩
def d_Spread_str : He.DefD := ⟨("Spread", some "__str__"), "__str__", "Spread.__str__", defArgs s_Spread_str, defBody s_Spread_str, defScope s_Spread_str, [], []⟩
def d_Spread_repr : He.DefD := ⟨("Spread", some "__repr__"), "__repr__", "Spread.__repr__", defArgs s_Spread_repr, defBody s_Spread_repr, defScope s_Spread_repr, [], []⟩
def d_number_in : He.DefD := ⟨("number_in", none), "number_in", "number_in", defArgs s_number_in, defBody s_number_in, defScope s_number_in, [], []⟩
def d_at_in : He.DefD := ⟨("at_in", none), "at_in", "at_in", defArgs s_at_in, defBody s_at_in, defScope s_at_in, [], []⟩
def d_item_end : He.DefD := ⟨("item_end", none), "item_end", "item_end", defArgs s_item_end, defBody s_item_end, defScope s_item_end, [], []⟩
def d_over_in : He.DefD := ⟨("over_in", none), "over_in", "over_in", defArgs s_over_in, defBody s_over_in, defScope s_over_in, [], []⟩
def d_read_on : He.DefD := ⟨("read_on", none), "read_on", "read_on", defArgs s_read_on, defBody s_read_on, defScope s_read_on, [], []⟩
def d_read_spread : He.DefD := ⟨("read_spread", none), "read_spread", "read_spread", defArgs s_read_spread, defBody s_read_spread, defScope s_read_spread, [], []⟩
def d__law_pot : He.DefD := ⟨("_law_pot", none), "_law_pot", "_law_pot", defArgs s__law_pot, defBody s__law_pot, defScope s__law_pot, [], []⟩
def d__law_draw : He.DefD := ⟨("_law_draw", none), "_law_draw", "_law_draw", defArgs s__law_draw, defBody s__law_draw, defScope s__law_draw, [], []⟩
def d__law_moments : He.DefD := ⟨("_law_moments", none), "_law_moments", "_law_moments", defArgs s__law_moments, defBody s__law_moments, defScope s__law_moments, [], []⟩
def d__law_row_moments : He.DefD := ⟨("_law_row_moments", none), "_law_row_moments", "_law_row_moments", defArgs s__law_row_moments, defBody s__law_row_moments, defScope s__law_row_moments, [], []⟩
def d__law_wide : He.DefD := ⟨("_law_wide", none), "_law_wide", "_law_wide", defArgs s__law_wide, defBody s__law_wide, defScope s__law_wide, [], []⟩
def d__law_gap : He.DefD := ⟨("_law_gap", none), "_law_gap", "_law_gap", defArgs s__law_gap, defBody s__law_gap, defScope s__law_gap, [], []⟩
def d__law_short : He.DefD := ⟨("_law_short", none), "_law_short", "_law_short", defArgs s__law_short, defBody s__law_short, defScope s__law_short, [], []⟩
def d__law_row : He.DefD := ⟨("_law_row", none), "_law_row", "_law_row", defArgs s__law_row, defBody s__law_row, defScope s__law_row, [], []⟩
def d__law_spread : He.DefD := ⟨("_law_spread", none), "_law_spread", "_law_spread", defArgs s__law_spread, defBody s__law_spread, defScope s__law_spread, [], []⟩
def d__law_made : He.DefD := ⟨("_law_made", none), "_law_made", "_law_made", defArgs s__law_made, defBody s__law_made, defScope s__law_made, [], []⟩
def d__law_flat : He.DefD := ⟨("_law_flat", none), "_law_flat", "_law_flat", defArgs s__law_flat, defBody s__law_flat, defScope s__law_flat, [], []⟩
def d__law_near : He.DefD := ⟨("_law_near", none), "_law_near", "_law_near", defArgs s__law_near, defBody s__law_near, defScope s__law_near, [], []⟩
def d__law_halved : He.DefD := ⟨("_law_halved", none), "_law_halved", "_law_halved", defArgs s__law_halved, defBody s__law_halved, defScope s__law_halved, [], []⟩
def d__law_equal : He.DefD := ⟨("_law_equal", none), "_law_equal", "_law_equal", defArgs s__law_equal, defBody s__law_equal, defScope s__law_equal, [], []⟩
def d__law_unlike : He.DefD := ⟨("_law_unlike", none), "_law_unlike", "_law_unlike", defArgs s__law_unlike, defBody s__law_unlike, defScope s__law_unlike, [], []⟩
def d__law_others_unlike : He.DefD := ⟨("_law_others_unlike", none), "_law_others_unlike", "_law_others_unlike", defArgs s__law_others_unlike, defBody s__law_others_unlike, defScope s__law_others_unlike, [], []⟩
def d__law_doubled_right : He.DefD := ⟨("_law_doubled_right", none), "_law_doubled_right", "_law_doubled_right", defArgs s__law_doubled_right, defBody s__law_doubled_right, defScope s__law_doubled_right, [], []⟩
def d__law_right : He.DefD := ⟨("_law_right", none), "_law_right", "_law_right", defArgs s__law_right, defBody s__law_right, defScope s__law_right, [], []⟩
def d_law : He.DefD := ⟨("law", none), "law", "law", defArgs s_law, defBody s_law, defScope s_law, [], []⟩
def fn : List He.DefD := [d__wall, d_is_whole, d_is_moment, d_want_moment, d_want_below, d_moment_at, d_clock_of, d_show_moment, d_are_figures, d_number_of, d_day_of, d_read_moment, d_is_number, d_Short_moments, d_Short_pieces, d_Short_begins, d_Short_ends, d_Short_means_many, d_Short_nested, d_all_rising, d_shorts_in, d_row_moments, d_row_many, d_row_text, d_At_init, d_At_moments, d_At_pieces, d_At_begins, d_At_ends, d_At_means_many, d_At_nested, d_At_str, d_Over_init, d_Over_parts, d_Over_moments, d_Over_pieces, d_Over_begins, d_Over_ends, d_Over_means_many, d_Over_nested, d_Over_str, d_Spread_init, d_Spread_parts, d_Spread_moments, d_Spread_pieces, d_Spread_eq, d_Spread_len, d_Spread_str, d_Spread_repr, d_number_in, d_at_in, d_item_end, d_over_in, d_read_on, d_read_spread, d__law_pot, d__law_draw, d__law_moments, d__law_row_moments, d__law_wide, d__law_gap, d__law_short, d__law_row, d__law_spread, d__law_made, d__law_flat, d__law_near, d__law_halved, d__law_equal, d__law_unlike, d__law_others_unlike, d__law_doubled_right, d__law_right, d_law]
abbrev R : PySem.W.OpenRow := PySem.W.OpenLaw.row PySem.Challenge.rw_shortgoings_k27_equal_spreads
def adr0 : List Addr := [3, 193, 430, 362, 290, 361, 192, 429, 289, 44, 31, 30, 238, 307, 378, 56, 43, 155, 162, 169, 176, 183, 190, 245, 252, 259, 266, 273, 280, 287]
def adr1 : List Addr := [314, 319, 326, 333, 340, 347, 352, 359, 385, 392, 399, 406, 413, 420, 427, 1, 21, 65, 72, 79, 86, 94, 101, 108, 113, 120, 127, 134, 141, 202]
def adr2 : List Addr := [207, 214, 219, 224, 439, 446, 453, 460, 467, 474, 481, 488, 493, 500, 507, 514, 521, 528, 535, 540, 545, 552, 557, 564, 571, 578, 585, 590, 597, 20]
def adr3 : List Addr := [55, 64, 71, 78, 85, 93, 87, 100, 107, 112, 119, 126, 133, 140, 201, 206, 213, 218, 223, 438, 445, 452, 459, 466, 473, 480, 487, 492, 499, 506]
def adr4 : List Addr := [513, 520, 527, 534, 539, 544, 551, 556, 563, 570, 577, 584, 589, 596, 154, 161, 168, 175, 182, 189, 237, 244, 251, 258, 265, 272, 279, 286, 306, 300]
def adr5 : List Addr := [313, 318, 325, 332, 339, 346, 351, 358, 377, 384, 391, 398, 405, 412, 419, 426]
def adr : List Addr := adr0 ++ adr1 ++ adr2 ++ adr3 ++ adr4 ++ adr5
abbrev hk : PySem.W.Hook := hookA adr xf fn
def ob (s : PySem.W.SharedT) : He.AlD := obsA adr xf fn (HandSHeadRun.getT s)
theorem ob_eq (s : PySem.W.SharedT) : ob s = hk.obs s.abs := obsA_eq (HandSHeadRun.getT_eq s)
def ns0 : List PySem.Str := ["_wall", "GoingError", "NoTime", "NoPiece", "HOUR", "DAY", "HOURS", "FIGURES_clock", "COLON", "BLANK", "is_whole", "is_moment", "want_moment", "want_below", "moment_at", "clock_of", "show_moment", "are_figures", "number_of", "day_of", "read_moment", "MOST_MOMENTS", "MOST_NESTED", "NO_PARTS", "is_number", "Short", "all_rising", "shorts_in", "row_moments", "row_many"]
def ns1 : List PySem.Str := ["row_text", "At", "Over", "FIGURES_spreads", "Spread", "number_in", "at_in", "item_end", "over_in", "read_on", "read_spread", "_law_pot", "_law_draw", "_law_moments", "_law_row_moments", "_law_wide", "_law_gap", "_law_short", "_law_row", "_law_spread", "_law_made", "_law_flat", "_law_near", "_law_halved", "_law_equal", "_law_unlike", "_law_others_unlike", "_law_doubled_right", "_law_right"]
def nss : List PySem.Str := ns0 ++ ns1
theorem run_a (w : World) : HandSHeadRun.RunA R (PySem.W.view R.prog [64]) 8000 nss w := by
  intro os
  kernel_rfl
theorem run_b (w : World) : HandSHeadRun.RunB R 8000 (fun s => xf1.all fun p => p (He.frG (HandSHeadRun.getT s) adr)) w := by
  intro os
  kernel_rfl
theorem run_c (w : World) : HandSHeadRun.RunB R 8000 (fun s => xf2.all fun p => p (He.frG (HandSHeadRun.getT s) adr)) w := by
  intro os
  kernel_rfl
theorem run_d (w : World) : ∀ os : OsState, (HandSHeadRun.endR R 8000 w os).map (fun s => (fn.all fun d => d.ok (He.frG (HandSHeadRun.getT s) adr), fn.map fun d => He.fnW (He.frG (HandSHeadRun.getT s) adr) d.at_)) = some (true, fn.map He.DefD.val) := by
  intro os
  kernel_rfl
theorem run (w : World) : HandSHeadRun.RunEq R (PySem.W.view R.prog [64]) hk ob 8000 nss w := HandSHeadRun.runEq_of (run_a w) (runC_of rfl (run_b w) (run_c w) (run_d w))
theorem env_of {K : PySem.W.Frag} {h : Heap} {mg : Str → Option Value} (X : K.In h) (G : h.Ns mainGlobals mg) (c : SaysX xf fn K) : Env K mg :=
  ⟨He.glo_ok X G (c.fact 0 (f := fun K => (He.Fa.glo "_wall").ok K) rfl),
  He.glo_ok X G (c.fact 1 (f := fun K => (He.Fa.glo "is_whole").ok K) rfl),
  He.glo_ok X G (c.fact 2 (f := fun K => (He.Fa.glo "is_moment").ok K) rfl),
  He.glo_ok X G (c.fact 3 (f := fun K => (He.Fa.glo "want_moment").ok K) rfl),
  He.glo_ok X G (c.fact 4 (f := fun K => (He.Fa.glo "want_below").ok K) rfl),
  He.glo_ok X G (c.fact 5 (f := fun K => (He.Fa.glo "moment_at").ok K) rfl),
  He.glo_ok X G (c.fact 6 (f := fun K => (He.Fa.glo "clock_of").ok K) rfl),
  He.glo_ok X G (c.fact 7 (f := fun K => (He.Fa.glo "show_moment").ok K) rfl),
  He.glo_ok X G (c.fact 8 (f := fun K => (He.Fa.glo "are_figures").ok K) rfl),
  He.glo_ok X G (c.fact 9 (f := fun K => (He.Fa.glo "number_of").ok K) rfl),
  He.glo_ok X G (c.fact 10 (f := fun K => (He.Fa.glo "day_of").ok K) rfl),
  He.glo_ok X G (c.fact 11 (f := fun K => (He.Fa.glo "read_moment").ok K) rfl),
  He.glo_ok X G (c.fact 12 (f := fun K => (He.Fa.glo "is_number").ok K) rfl),
  He.glo_ok X G (c.fact 13 (f := fun K => (He.Fa.glo "all_rising").ok K) rfl),
  He.glo_ok X G (c.fact 14 (f := fun K => (He.Fa.glo "shorts_in").ok K) rfl),
  He.glo_ok X G (c.fact 15 (f := fun K => (He.Fa.glo "row_moments").ok K) rfl),
  He.glo_ok X G (c.fact 16 (f := fun K => (He.Fa.glo "row_many").ok K) rfl),
  He.glo_ok X G (c.fact 17 (f := fun K => (He.Fa.glo "row_text").ok K) rfl),
  He.glo_ok X G (c.fact 18 (f := fun K => (He.Fa.glo "number_in").ok K) rfl),
  He.glo_ok X G (c.fact 19 (f := fun K => (He.Fa.glo "at_in").ok K) rfl),
  He.glo_ok X G (c.fact 20 (f := fun K => (He.Fa.glo "item_end").ok K) rfl),
  He.glo_ok X G (c.fact 21 (f := fun K => (He.Fa.glo "over_in").ok K) rfl),
  He.glo_ok X G (c.fact 22 (f := fun K => (He.Fa.glo "read_on").ok K) rfl),
  He.glo_ok X G (c.fact 23 (f := fun K => (He.Fa.glo "read_spread").ok K) rfl),
  He.glo_ok X G (c.fact 24 (f := fun K => (He.Fa.glo "_law_pot").ok K) rfl),
  He.glo_ok X G (c.fact 25 (f := fun K => (He.Fa.glo "_law_draw").ok K) rfl),
  He.glo_ok X G (c.fact 26 (f := fun K => (He.Fa.glo "_law_moments").ok K) rfl),
  He.glo_ok X G (c.fact 27 (f := fun K => (He.Fa.glo "_law_row_moments").ok K) rfl),
  He.glo_ok X G (c.fact 28 (f := fun K => (He.Fa.glo "_law_wide").ok K) rfl),
  He.glo_ok X G (c.fact 29 (f := fun K => (He.Fa.glo "_law_gap").ok K) rfl),
  He.glo_ok X G (c.fact 30 (f := fun K => (He.Fa.glo "_law_short").ok K) rfl),
  He.glo_ok X G (c.fact 31 (f := fun K => (He.Fa.glo "_law_row").ok K) rfl),
  He.glo_ok X G (c.fact 32 (f := fun K => (He.Fa.glo "_law_spread").ok K) rfl),
  He.glo_ok X G (c.fact 33 (f := fun K => (He.Fa.glo "_law_made").ok K) rfl),
  He.glo_ok X G (c.fact 34 (f := fun K => (He.Fa.glo "_law_flat").ok K) rfl),
  He.glo_ok X G (c.fact 35 (f := fun K => (He.Fa.glo "_law_near").ok K) rfl),
  He.glo_ok X G (c.fact 36 (f := fun K => (He.Fa.glo "_law_halved").ok K) rfl),
  He.glo_ok X G (c.fact 37 (f := fun K => (He.Fa.glo "_law_equal").ok K) rfl),
  He.glo_ok X G (c.fact 38 (f := fun K => (He.Fa.glo "_law_unlike").ok K) rfl),
  He.glo_ok X G (c.fact 39 (f := fun K => (He.Fa.glo "_law_others_unlike").ok K) rfl),
  He.glo_ok X G (c.fact 40 (f := fun K => (He.Fa.glo "_law_doubled_right").ok K) rfl),
  He.glo_ok X G (c.fact 41 (f := fun K => (He.Fa.glo "_law_right").ok K) rfl),
  He.glo_ok X G (c.fact 42 (f := fun K => (He.Fa.glo "law").ok K) rfl),
  gint_of X G (c.fact 43 (f := fun K => (He.Fa.int "HOUR" (60)).ok K) rfl),
  gint_of X G (c.fact 44 (f := fun K => (He.Fa.int "DAY" (1440)).ok K) rfl),
  gint_of X G (c.fact 45 (f := fun K => (He.Fa.int "HOURS" (24)).ok K) rfl),
  gstr_of X G (c.fact 46 (f := fun K => (He.Fa.str "FIGURES_clock" "0123456789").ok K) rfl),
  gstr_of X G (c.fact 47 (f := fun K => (He.Fa.str "COLON" ":").ok K) rfl),
  gstr_of X G (c.fact 48 (f := fun K => (He.Fa.str "BLANK" " ").ok K) rfl),
  gint_of X G (c.fact 49 (f := fun K => (He.Fa.int "MOST_MOMENTS" (1440)).ok K) rfl),
  gint_of X G (c.fact 50 (f := fun K => (He.Fa.int "MOST_NESTED" (8)).ok K) rfl),
  gstr_of X G (c.fact 51 (f := fun K => (He.Fa.str "NO_PARTS" "-").ok K) rfl),
  gstr_of X G (c.fact 52 (f := fun K => (He.Fa.str "FIGURES_spreads" "0123456789").ok K) rfl),
  He.free_ok X G (c.fact 53 (f := fun K => (He.Fa.free "all").ok K) rfl),
  He.free_ok X G (c.fact 54 (f := fun K => (He.Fa.free "bool").ok K) rfl),
  He.free_ok X G (c.fact 55 (f := fun K => (He.Fa.free "divmod").ok K) rfl),
  He.free_ok X G (c.fact 56 (f := fun K => (He.Fa.free "int").ok K) rfl),
  He.free_ok X G (c.fact 57 (f := fun K => (He.Fa.free "isinstance").ok K) rfl),
  He.free_ok X G (c.fact 58 (f := fun K => (He.Fa.free "len").ok K) rfl),
  He.free_ok X G (c.fact 59 (f := fun K => (He.Fa.free "list").ok K) rfl),
  He.free_ok X G (c.fact 60 (f := fun K => (He.Fa.free "max").ok K) rfl),
  He.free_ok X G (c.fact 61 (f := fun K => (He.Fa.free "min").ok K) rfl),
  He.free_ok X G (c.fact 62 (f := fun K => (He.Fa.free "range").ok K) rfl),
  He.free_ok X G (c.fact 63 (f := fun K => (He.Fa.free "str").ok K) rfl),
  He.free_ok X G (c.fact 64 (f := fun K => (He.Fa.free "sum").ok K) rfl),
  He.free_ok X G (c.fact 65 (f := fun K => (He.Fa.free "tuple").ok K) rfl),
  He.free_ok X G (c.fact 66 (f := fun K => (He.Fa.free "zip").ok K) rfl),
  He.glo_ok X G (c.fact 67 (f := fun K => (He.Fa.glo "GoingError").ok K) rfl),
  exo_of (c.fact 68 (f := exoB bmV "ValueError.__new__" "GoingError") rfl),
  He.glo_ok X G (c.fact 69 (f := fun K => (He.Fa.glo "NoTime").ok K) rfl),
  exo_of (c.fact 70 (f := exoB bmV "ValueError.__new__" "NoTime") rfl),
  He.glo_ok X G (c.fact 71 (f := fun K => (He.Fa.glo "NoPiece").ok K) rfl),
  exo_of (c.fact 72 (f := exoB bmV "ValueError.__new__" "NoPiece") rfl),
  He.glo_ok X G (c.fact 73 (f := fun K => (He.Fa.glo "Short").ok K) rfl),
  He.glo_ok X G (c.fact 74 (f := fun K => (He.Fa.glo "At").ok K) rfl),
  He.glo_ok X G (c.fact 75 (f := fun K => (He.Fa.glo "Over").ok K) rfl),
  He.glo_ok X G (c.fact 76 (f := fun K => (He.Fa.glo "Spread").ok K) rfl),
  sys_of (c.fact 77 (f := sysB) rfl),
  He.cls_ok (c.fact 78 (f := fun K => (He.Fa.cls "Short").ok K) rfl),
  insC_of (c.fact 79 (f := insB "Short") rfl),
  He.meth_ok (c.fact 80 (f := fun K => (He.Fa.meth "Short" "moments").ok K) rfl),
  He.meth_ok (c.fact 81 (f := fun K => (He.Fa.meth "Short" "pieces").ok K) rfl),
  He.meth_ok (c.fact 82 (f := fun K => (He.Fa.meth "Short" "begins").ok K) rfl),
  He.meth_ok (c.fact 83 (f := fun K => (He.Fa.meth "Short" "ends").ok K) rfl),
  He.meth_ok (c.fact 84 (f := fun K => (He.Fa.meth "Short" "means_many").ok K) rfl),
  He.meth_ok (c.fact 85 (f := fun K => (He.Fa.meth "Short" "nested").ok K) rfl),
  of_decide_eq_true (c.fact 86 (f := kitF "Short" "Short" true) rfl),
  of_decide_eq_true (c.fact 87 (f := kitF "Short" "Spread" false) rfl),
  of_decide_eq_true (c.fact 88 (f := kitFT "Short" "int" false) rfl),
  of_decide_eq_true (c.fact 89 (f := kitFT "Short" "bool" false) rfl),
  of_decide_eq_true (c.fact 90 (f := kitFT "Short" "str" false) rfl),
  of_decide_eq_true (c.fact 91 (f := kitFT "Short" "list" false) rfl),
  of_decide_eq_true (c.fact 92 (f := kitFT "Short" "tuple" false) rfl),
  He.cls_ok (c.fact 93 (f := fun K => (He.Fa.cls "At").ok K) rfl),
  insC_of (c.fact 94 (f := insB "At") rfl),
  He.noat_ok (c.fact 95 (f := fun K => (He.Fa.noat "At" "moment").ok K) rfl),
  He.meth_ok (c.fact 96 (f := fun K => (He.Fa.meth "At" "__init__").ok K) rfl),
  He.meth_ok (c.fact 97 (f := fun K => (He.Fa.meth "At" "moments").ok K) rfl),
  He.meth_ok (c.fact 98 (f := fun K => (He.Fa.meth "At" "pieces").ok K) rfl),
  He.meth_ok (c.fact 99 (f := fun K => (He.Fa.meth "At" "begins").ok K) rfl),
  He.meth_ok (c.fact 100 (f := fun K => (He.Fa.meth "At" "ends").ok K) rfl),
  He.meth_ok (c.fact 101 (f := fun K => (He.Fa.meth "At" "means_many").ok K) rfl),
  He.meth_ok (c.fact 102 (f := fun K => (He.Fa.meth "At" "nested").ok K) rfl),
  He.meth_ok (c.fact 103 (f := fun K => (He.Fa.meth "At" "__str__").ok K) rfl),
  He.mkr_ok (c.fact 104 (f := fun K => (He.Fa.mkr "At").ok K) rfl),
  of_decide_eq_true (c.fact 105 (f := kitF "At" "Short" true) rfl),
  of_decide_eq_true (c.fact 106 (f := kitF "At" "Spread" false) rfl),
  of_decide_eq_true (c.fact 107 (f := kitFT "At" "int" false) rfl),
  of_decide_eq_true (c.fact 108 (f := kitFT "At" "bool" false) rfl),
  of_decide_eq_true (c.fact 109 (f := kitFT "At" "str" false) rfl),
  of_decide_eq_true (c.fact 110 (f := kitFT "At" "list" false) rfl),
  of_decide_eq_true (c.fact 111 (f := kitFT "At" "tuple" false) rfl),
  He.cls_ok (c.fact 112 (f := fun K => (He.Fa.cls "Over").ok K) rfl),
  insC_of (c.fact 113 (f := insB "Over") rfl),
  He.noat_ok (c.fact 114 (f := fun K => (He.Fa.noat "Over" "kept").ok K) rfl),
  He.noat_ok (c.fact 115 (f := fun K => (He.Fa.noat "Over" "many").ok K) rfl),
  He.noat_ok (c.fact 116 (f := fun K => (He.Fa.noat "Over" "step").ok K) rfl),
  He.meth_ok (c.fact 117 (f := fun K => (He.Fa.meth "Over" "__init__").ok K) rfl),
  He.meth_ok (c.fact 118 (f := fun K => (He.Fa.meth "Over" "parts").ok K) rfl),
  He.meth_ok (c.fact 119 (f := fun K => (He.Fa.meth "Over" "moments").ok K) rfl),
  He.meth_ok (c.fact 120 (f := fun K => (He.Fa.meth "Over" "pieces").ok K) rfl),
  He.meth_ok (c.fact 121 (f := fun K => (He.Fa.meth "Over" "begins").ok K) rfl),
  He.meth_ok (c.fact 122 (f := fun K => (He.Fa.meth "Over" "ends").ok K) rfl),
  He.meth_ok (c.fact 123 (f := fun K => (He.Fa.meth "Over" "means_many").ok K) rfl),
  He.meth_ok (c.fact 124 (f := fun K => (He.Fa.meth "Over" "nested").ok K) rfl),
  He.meth_ok (c.fact 125 (f := fun K => (He.Fa.meth "Over" "__str__").ok K) rfl),
  He.mkr_ok (c.fact 126 (f := fun K => (He.Fa.mkr "Over").ok K) rfl),
  of_decide_eq_true (c.fact 127 (f := kitF "Over" "Short" true) rfl),
  of_decide_eq_true (c.fact 128 (f := kitF "Over" "Spread" false) rfl),
  of_decide_eq_true (c.fact 129 (f := kitFT "Over" "int" false) rfl),
  of_decide_eq_true (c.fact 130 (f := kitFT "Over" "bool" false) rfl),
  of_decide_eq_true (c.fact 131 (f := kitFT "Over" "str" false) rfl),
  of_decide_eq_true (c.fact 132 (f := kitFT "Over" "list" false) rfl),
  of_decide_eq_true (c.fact 133 (f := kitFT "Over" "tuple" false) rfl),
  He.cls_ok (c.fact 134 (f := fun K => (He.Fa.cls "Spread").ok K) rfl),
  insC_of (c.fact 135 (f := insB "Spread") rfl),
  He.noat_ok (c.fact 136 (f := fun K => (He.Fa.noat "Spread" "kept").ok K) rfl),
  He.noat_ok (c.fact 137 (f := fun K => (He.Fa.noat "Spread" "held").ok K) rfl),
  He.meth_ok (c.fact 138 (f := fun K => (He.Fa.meth "Spread" "__init__").ok K) rfl),
  He.meth_ok (c.fact 139 (f := fun K => (He.Fa.meth "Spread" "parts").ok K) rfl),
  He.meth_ok (c.fact 140 (f := fun K => (He.Fa.meth "Spread" "moments").ok K) rfl),
  He.meth_ok (c.fact 141 (f := fun K => (He.Fa.meth "Spread" "pieces").ok K) rfl),
  He.meth_ok (c.fact 142 (f := fun K => (He.Fa.meth "Spread" "__eq__").ok K) rfl),
  He.meth_ok (c.fact 143 (f := fun K => (He.Fa.meth "Spread" "__len__").ok K) rfl),
  He.meth_ok (c.fact 144 (f := fun K => (He.Fa.meth "Spread" "__str__").ok K) rfl),
  He.meth_ok (c.fact 145 (f := fun K => (He.Fa.meth "Spread" "__repr__").ok K) rfl),
  He.mkr_ok (c.fact 146 (f := fun K => (He.Fa.mkr "Spread").ok K) rfl),
  noBase_of (c.fact 147 (f := noBaseF "Spread") rfl),
  of_decide_eq_true (c.fact 148 (f := kitF "Spread" "Short" false) rfl),
  of_decide_eq_true (c.fact 149 (f := kitF "Spread" "Spread" true) rfl),
  of_decide_eq_true (c.fact 150 (f := kitFT "Spread" "int" false) rfl),
  of_decide_eq_true (c.fact 151 (f := kitFT "Spread" "bool" false) rfl),
  of_decide_eq_true (c.fact 152 (f := kitFT "Spread" "str" false) rfl),
  of_decide_eq_true (c.fact 153 (f := kitFT "Spread" "list" false) rfl),
  of_decide_eq_true (c.fact 154 (f := kitFT "Spread" "tuple" false) rfl),
  of_decide_eq_true (c.fact 155 (f := kitBF "int" "Short" false) rfl),
  of_decide_eq_true (c.fact 156 (f := kitBF "bool" "Short" false) rfl),
  of_decide_eq_true (c.fact 157 (f := kitBF "str" "Short" false) rfl),
  of_decide_eq_true (c.fact 158 (f := kitBF "NoneType" "Short" false) rfl),
  of_decide_eq_true (c.fact 159 (f := kitBF "list" "Short" false) rfl),
  of_decide_eq_true (c.fact 160 (f := kitBF "tuple" "Short" false) rfl),
  of_decide_eq_true (c.fact 161 (f := kitBF "dict" "Short" false) rfl),
  of_decide_eq_true (c.fact 162 (f := kitBF "int" "Spread" false) rfl),
  of_decide_eq_true (c.fact 163 (f := kitBF "bool" "Spread" false) rfl),
  of_decide_eq_true (c.fact 164 (f := kitBF "str" "Spread" false) rfl),
  of_decide_eq_true (c.fact 165 (f := kitBF "NoneType" "Spread" false) rfl),
  of_decide_eq_true (c.fact 166 (f := kitBF "list" "Spread" false) rfl),
  of_decide_eq_true (c.fact 167 (f := kitBF "tuple" "Spread" false) rfl),
  of_decide_eq_true (c.fact 168 (f := kitBF "dict" "Spread" false) rfl),
  of_decide_eq_true (c.fact 169 (f := exm1F "NoTime" "NoTime" true) rfl),
  excC_of (c.fact 170 (f := excCB "NoTime") rfl),
  of_decide_eq_true (c.fact 171 (f := kitF "NoTime" "GoingError" true) rfl),
  of_decide_eq_true (c.fact 172 (f := kitF "NoTime" "NoTime" true) rfl),
  of_decide_eq_true (c.fact 173 (f := kitF "NoTime" "NoPiece" false) rfl),
  of_decide_eq_true (c.fact 174 (f := kitFT "NoTime" "ValueError" true) rfl),
  of_decide_eq_true (c.fact 175 (f := kitFT "NoTime" "LookupError" false) rfl),
  of_decide_eq_true (c.fact 176 (f := kitFT "NoTime" "RuntimeError" false) rfl),
  noEq_of (c.fact 177 (f := noEqF "At") rfl),
  of_decide_eq_true (c.fact 178 (f := kitF "Spread" "At" false) rfl),
  noEq_of (c.fact 179 (f := noEqF "Over") rfl),
  of_decide_eq_true (c.fact 180 (f := kitF "Spread" "Over" false) rfl),
  c.def_ 0 (d := d__wall) rfl,
  c.def_ 1 (d := d_is_whole) rfl,
  c.def_ 2 (d := d_is_moment) rfl,
  c.def_ 3 (d := d_want_moment) rfl,
  c.def_ 4 (d := d_want_below) rfl,
  c.def_ 5 (d := d_moment_at) rfl,
  c.def_ 6 (d := d_clock_of) rfl,
  c.def_ 7 (d := d_show_moment) rfl,
  c.def_ 8 (d := d_are_figures) rfl,
  c.def_ 9 (d := d_number_of) rfl,
  c.def_ 10 (d := d_day_of) rfl,
  c.def_ 11 (d := d_read_moment) rfl,
  c.def_ 12 (d := d_is_number) rfl,
  c.def_ 13 (d := d_Short_moments) rfl,
  c.def_ 14 (d := d_Short_pieces) rfl,
  c.def_ 15 (d := d_Short_begins) rfl,
  c.def_ 16 (d := d_Short_ends) rfl,
  c.def_ 17 (d := d_Short_means_many) rfl,
  c.def_ 18 (d := d_Short_nested) rfl,
  c.def_ 19 (d := d_all_rising) rfl,
  c.def_ 20 (d := d_shorts_in) rfl,
  c.def_ 21 (d := d_row_moments) rfl,
  c.def_ 22 (d := d_row_many) rfl,
  c.def_ 23 (d := d_row_text) rfl,
  c.def_ 24 (d := d_At_init) rfl,
  c.def_ 25 (d := d_At_moments) rfl,
  c.def_ 26 (d := d_At_pieces) rfl,
  c.def_ 27 (d := d_At_begins) rfl,
  c.def_ 28 (d := d_At_ends) rfl,
  c.def_ 29 (d := d_At_means_many) rfl,
  c.def_ 30 (d := d_At_nested) rfl,
  c.def_ 31 (d := d_At_str) rfl,
  c.def_ 32 (d := d_Over_init) rfl,
  c.def_ 33 (d := d_Over_parts) rfl,
  c.def_ 34 (d := d_Over_moments) rfl,
  c.def_ 35 (d := d_Over_pieces) rfl,
  c.def_ 36 (d := d_Over_begins) rfl,
  c.def_ 37 (d := d_Over_ends) rfl,
  c.def_ 38 (d := d_Over_means_many) rfl,
  c.def_ 39 (d := d_Over_nested) rfl,
  c.def_ 40 (d := d_Over_str) rfl,
  c.def_ 41 (d := d_Spread_init) rfl,
  c.def_ 42 (d := d_Spread_parts) rfl,
  c.def_ 43 (d := d_Spread_moments) rfl,
  c.def_ 44 (d := d_Spread_pieces) rfl,
  c.def_ 45 (d := d_Spread_eq) rfl,
  c.def_ 46 (d := d_Spread_len) rfl,
  c.def_ 47 (d := d_Spread_str) rfl,
  c.def_ 48 (d := d_Spread_repr) rfl,
  c.def_ 49 (d := d_number_in) rfl,
  c.def_ 50 (d := d_at_in) rfl,
  c.def_ 51 (d := d_item_end) rfl,
  c.def_ 52 (d := d_over_in) rfl,
  c.def_ 53 (d := d_read_on) rfl,
  c.def_ 54 (d := d_read_spread) rfl,
  c.def_ 55 (d := d__law_pot) rfl,
  c.def_ 56 (d := d__law_draw) rfl,
  c.def_ 57 (d := d__law_moments) rfl,
  c.def_ 58 (d := d__law_row_moments) rfl,
  c.def_ 59 (d := d__law_wide) rfl,
  c.def_ 60 (d := d__law_gap) rfl,
  c.def_ 61 (d := d__law_short) rfl,
  c.def_ 62 (d := d__law_row) rfl,
  c.def_ 63 (d := d__law_spread) rfl,
  c.def_ 64 (d := d__law_made) rfl,
  c.def_ 65 (d := d__law_flat) rfl,
  c.def_ 66 (d := d__law_near) rfl,
  c.def_ 67 (d := d__law_halved) rfl,
  c.def_ 68 (d := d__law_equal) rfl,
  c.def_ 69 (d := d__law_unlike) rfl,
  c.def_ 70 (d := d__law_others_unlike) rfl,
  c.def_ 71 (d := d__law_doubled_right) rfl,
  c.def_ 72 (d := d__law_right) rfl,
  c.def_ 73 (d := d_law) rfl⟩
end Toy
open PySem PySem.W PySem.Calls PyProof.Rows
set_option maxRecDepth 100000 in
set_option maxHeartbeats 0 in
theorem PySem.Challenge.cw_shortgoings_k27_equal_spreads_holds : PySem.Challenge.rw_shortgoings_k27_equal_spreads.Holds := by
  w_on; o_law
  refine HandSHeadRun.head_any (r := OpenLaw.row PySem.Challenge.rw_shortgoings_k27_equal_spreads) (q := view (OpenLaw.row PySem.Challenge.rw_shortgoings_k27_equal_spreads).prog [64]) (H := Toy.hk) (ob := Toy.ob) (M := 8000) (loose := Toy.nss) (d := HandSHeadRun.topDef (OpenLaw.row PySem.Challenge.rw_shortgoings_k27_equal_spreads).prog 64) (kwd := []) Toy.ob_eq
    (by kernel_rfl) (fun s => by kernel_rfl) Toy.run (by kernel_rfl) (by kernel_rfl) (by kernel_rfl) (by rfl) (by first | assumption | decide +kernel) (by decide +kernel) ⟨rfl, rfl, rfl, rfl, rfl, by decide +kernel⟩ ?hw ?hc
  case hw => w_witness2
  case hc =>
    refine L3.walk_end (l := PySem.Challenge.rw_shortgoings_k27_equal_spreads) (n := 63) (k := 131) (x := "_law_script") rfl (by decide) (by kernel_rfl) (L3.rm_caller.mono (by decide)) ?F
    intro w mg fa h Y G hmg0
    obtain ⟨K, KX, c⟩ := Y
    have hmg : mg ("law" : PySem.Str) = some (.ref fa) := by
      have e : (HandSHeadRun.topDef (OpenLaw.row PySem.Challenge.rw_shortgoings_k27_equal_spreads).prog 64).name = ("law" : PySem.Str) := by kernel_rfl
      rw [← e]
      exact hmg0
    have T := Toy.env_of KX G c
    have e := hmg.symm.trans T.g_law
    cases e
    obtain ⟨fd, F⟩ := T.f_law
    have b := L2.FunD.bindsA (ps := ["_law_script"]) F fun _ _ _ _ _ _ us hl => match us, hl with | [_], _ => rfl
    exact ⟨K, fd, Toy.sp_law K, KX, fun s v => b s [v] rfl, fun H a ns hl hS => ⟨a, ns, rfl, hS, hl, fun _ => rfl⟩, fun base _ _ => Toy.ok_law T F⟩
