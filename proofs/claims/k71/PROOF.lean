import PyProof.Rows.All
import Wide.All
import OpenK.AllK
import Wide.FinOn
import PyProof.EqAt
import PyProof.EqKinds
import PyProof.TupleCall
import HandS.ForMost
import HandS.ForExc
import HandS.Defaults
import HandS.MakeKwOnly
import HandS.WideBits
import HandS.IsInst
import HandS.Flow
import HandS.Style
import HandS.Evl
import HandS.StrMore
import HandS.TupAny
import HandS.SortInts
import HandS.RaiseMore
import HandS.Zip
import HandS.Head0
import HandS.Head1
import HandS.Head2
import HandS.HeadEnd
import HandS.HeadHook1
import HandS.HeadHook2
import HandS.Walk
import PyProof.Rows.StrJoinRep
import PyProof.StrLawsLast
import HandS.Codes
import HandS.ExcIs
import KE.KTryMore
import KE.KFmtOwn
import PyProof.InstSpecial
import HandS.TryOnly
import HandS.FStr
import HandS.Conv
import HandS.SetFor
import HandS.Strs
import HandS.OwnEq
import HandS.Deep
import HandS.RaiseFrom
import HandS.SuiteRaise
import HandS.Exc
import KE.GoesMore
import HandS.HotCalls
import HandS.ExcField
import HandS.More
import HandS.SetTxt0
import KE.KExcInit
import HandS.ExcInit
import HandS.ExcValue
import KE.KDictZip
import HandS.TupMul
import PySem.Challenge.RW_shortgoings_k71_cards_written
set_option Elab.async false
set_option linter.all false
set_option maxRecDepth 100000
set_option maxHeartbeats 4000000
namespace L3
open PySem PySem.Spec PyProof.Rows L2
structure Rm (k : Nat) (A : Around) : Prop where
  rm : Room k A
  gd : A.guards = some []
theorem Rm.mono {j k : Nat} {A : Around} (r : Rm k A) (h : j ≤ k) : Rm j A := ⟨r.rm.mono h, r.gd⟩
theorem Rm.deeper {k : Nat} {A : Around} (r : Rm (k + 1) A) (env : Env) : Rm k (A.deeper env) := ⟨r.rm.deeper env, r.gd⟩
theorem make_guards {A : Around} {C : Addr} {us : List Value} {kw : List (Str × Value)} : (A.under (.builtin "type.__call__" ⟨.ref C :: us, kw⟩)).guards = A.guards := by
  have e : Code.guards (.builtin "type.__call__" ⟨.ref C :: us, kw⟩) = [] := by
    first | rfl | simp [Code.guards, Code.isGuard, guardIds]
  show pushGuards (Code.guards (.builtin "type.__call__" ⟨.ref C :: us, kw⟩)) A.guards = A.guards
  rw [e]
  cases A.guards <;> rfl
theorem Rm.make {k : Nat} {A : Around} (r : Rm (k + 1) A) (C : Addr) (us : List Value) (kw : List (Str × Value)) : Rm k (A.under (.builtin "type.__call__" ⟨.ref C :: us, kw⟩)) :=
  ⟨r.rm.make C us kw, make_guards.trans r.gd⟩
structure Fb (P : Program) (w : World) (K : PySem.W.Frag) (mg : Str → Option Value) (base : Heap) (k : Nat) (f : Addr) (fd : FuncData) (ps : List Str) (sp : Sp) : Prop where
  len : ∀ vs H Q E, sp vs H Q E → vs.length = ps.length
  run : ∀ (A : Around) (outer : List Env) (s : Shared) (H : Hp) (args : Args) (us : List Value) (vs : List V) (Q : VK) (E : XK), Rm k A → Env0 P w K mg base A outer s H → BindsTo s fd args (ps.zip us) → Vals vs us → sp vs H Q E →
    codeAny (model P w) A (.call (.ref f) args) (CR (L2.CX P w) outer P w H s Q E) s
section
variable {P : Program} {w : World} {K : PySem.W.Frag} {mg : Str → Option Value} {base : Heap} {x qual : Str} {params : Arguments} {body : List Stmt} {scope : Scope} {dvs : List V} {kws : List (Str × V)} {f : Addr} {fd : FuncData} {k : Nat} {ps N : List Str} {sp : Sp}
theorem fb_of (F : FunD K x qual params body scope dvs kws f fd) (S : FnScope N ps scope) (len : ∀ vs H Q E, sp vs H Q E → vs.length = ps.length)
    (hbody : ∀ (cdv : Value) (A : Around) (outer : List Env) (s : Shared) (H : Hp) (vs : List V) (Q : VK) (E : XK), Rm k (A.deeper (envOfC qual scope s.heap.objs.size f cdv)) → sp vs H Q E →
      ∃ t, PSs (cxOf (L2.CX P w) P w K mg base N qual scope f cdv A outer s H E) body t ∧ t { nx := fun _ H' => Q .non H', rt := Q } (start N vs) H) : Fb P w K mg base (k + 1) f fd ps sp := by
  obtain ⟨oc, od, dV, kV, doc, pm, an, cdv, ct, osl, rfl, lk, hcd, _, _⟩ := F.ex
  refine ⟨len, fun A outer s H args us vs Q E hr e0 hb r hsp => ?_⟩
  have hl := len _ _ _ _ hsp
  have KX : K.In s.heap := e0.mod.kin.keeps fun b o e => (e0.bs b o e).1
  have lim : s.heap.NoLimit := e0.mod.nolimit.keeps fun b o e => (e0.bs b o e).1
  have hkind : ∀ y ∈ ps.zip us, scope.names.lookup y.1 = some .local ∨ (scope.names.lookup y.1 = some .cell ∧ ((cellsFrom (s.heap.objs.size + 1) scope.names []).lookup y.1).isSome = true) := fun ⟨n, v⟩ hy => by
    rcases S.par n (List.of_mem_zip hy).1 with q | q
    · exact .inl q
    · exact .inr ⟨q, PySem.W.cellsFrom_some _ _ _ (.inl q)⟩
  refine codeAny_call_function hr.rm.depth (KX _ _ lk) rfl S.co S.gen rfl (PySem.W.codeRec_of KX hcd) (hb _ _ _ _ ?_)
  refine wpAny_newFunctionEnv_cells S.kind hkind fun env he s1 x => ?_
  subst he
  refine ⟨lim.keeps x.toInCall.keep, codeAny_func ?_⟩
  obtain ⟨t, ht, hq⟩ := hbody cdv A outer s H vs Q E (hr.deeper _) hsp
  have I : Inv (cxOf (L2.CX P w) P w K mg base N qual scope f cdv A outer s H E) [] (start N vs) H s1 := inv_start S hr.rm.hd e0 hl r x
  refine wpAny_mono (ht.run [] s1 (start N vs) H _ I hq) (fun fl s' hs => ?_) fun e s' hs => hs
  have fin : ∀ {σ' : L2.St} {H' : Hp} {v : V} {u : Value}, Inv (cxOf (L2.CX P w) P w K mg base N qual scope f cdv A outer s H E) [] σ' H' s' → RelV v u → Q v H' → CE outer P w H s Q u s' :=
    fun {σ' H' v u} J rv q => ⟨v, H', J.os, J.bare, J.base, J.hok, rv, q⟩
  cases fl with
  | ret u =>
    obtain ⟨v, σ', H', J, rv, q⟩ := hs
    exact fin J rv q
  | next =>
    obtain ⟨σ', H', J, q⟩ := hs
    exact fin (v := V.non) (u := Value.none) J rfl q
  | brk =>
    obtain ⟨_, _, _, q⟩ := hs
    exact False.elim q
  | cont =>
    obtain ⟨_, _, _, q⟩ := hs
    exact False.elim q
theorem Fb.mono {j : Nat} (F : Fb P w K mg base j f fd ps sp) (h : j ≤ k) : Fb P w K mg base k f fd ps sp := ⟨F.len, fun A outer s H args us vs Q E hr => F.run A outer s H args us vs Q E (hr.mono h)⟩
theorem Fb.imp {sp' : Sp} (F : Fb P w K mg base k f fd ps sp) (h : ∀ vs H Q E, sp' vs H Q E → sp vs H Q E) : Fb P w K mg base k f fd ps sp' :=
  ⟨fun vs H Q E q => F.len vs H Q E (h _ _ _ _ q), fun A outer s H args us vs Q E hr he hb hv hs => F.run A outer s H args us vs Q E hr he hb hv (h _ _ _ _ hs)⟩
def Fc (P : Program) (w : World) (K : PySem.W.Frag) (mg : Str → Option Value) (base : Heap) (k : Nat) (f : Addr) (ks : List Str) (sp : Sp) : Prop :=
  ∀ (A : Around) (outer : List Env) (s : Shared) (H : Hp) (us ws : List Value) (vs : List V) (Q : VK) (E : XK), Rm k A → Env0 P w K mg base A outer s H → Vals vs (us ++ ws) → ws.length = ks.length → sp vs H Q E →
    codeAny (model P w) A (.call (.ref f) ⟨us, ks.zip ws⟩) (CR (L2.CX P w) outer P w H s Q E) s
theorem Fc.mono {j : Nat} {ks : List Str} (F : Fc P w K mg base j f ks sp) (h : j ≤ k) : Fc P w K mg base k f ks sp := fun A outer s H us ws vs Q E hr => F A outer s H us ws vs Q E (hr.mono h)
theorem Fc.imp {sp' : Sp} {ks : List Str} (F : Fc P w K mg base k f ks sp) (h : ∀ vs H Q E, sp' vs H Q E → sp vs H Q E) : Fc P w K mg base k f ks sp' :=
  fun A outer s H us ws vs Q E hr he hv hl hs => F A outer s H us ws vs Q E hr he hv hl (h _ _ _ _ hs)
/-- every parameter is given by place -/
theorem Fb.all (F : Fb P w K mg base k f fd ps sp) (hb : Binds K fd ps []) : Fc P w K mg base k f [] sp := fun A outer s H us ws vs Q E hr e0 r hl h => by
  cases ws with
  | cons w ws => cases hl
  | nil =>
    rw [List.append_nil] at r
    have KX : K.In s.heap := e0.mod.kin.keeps fun b o e => (e0.bs b o e).1
    have l2 : us.length = ps.length := by rw [← r.length]; exact F.len _ _ _ _ h
    have b := hb s us KX (by rw [List.append_nil]; exact l2)
    rw [List.append_nil] at b
    exact F.run A outer s H ⟨us, []⟩ us vs Q E hr e0 b r h
/-- some by place, some by name, some left out: g puts the given ones and the defaults into the parameters' order -/
theorem Fb.shape (D : FunD K x qual params body scope dvs kws f fd) (F : Fb P w K mg base k f fd ps sp) (n : Nat) (ks : List Str) (g : {α : Type} → List α → List α → List α) (hd : dvs ≠ [])
    (hrel : ∀ {vs ds : List V} {us its : List Value}, Vals vs us → Vals ds its → Vals (g vs ds) (g us its))
    (h : ∀ (T : Addr) (kV doc pm : Value) (an : Option Addr) (cdv ct : Value) (us ws its : List Value), us.length = n → ws.length = ks.length → its.length = dvs.length →
      ∃ k, bindArgs (PySem.W.fnOf x qual params body scope (.ref T) kV doc pm an cdv ct) ⟨us, ks.zip ws⟩ = seqItems? (.ref T) >>= k ∧ k (some its.toArray) = pure (ps.zip (g (us ++ ws) its))) :
    Fc P w K mg base k f ks (fun vs H Q E => vs.length = n + ks.length ∧ sp (g vs dvs) H Q E) := by
  obtain ⟨oc, od, dV, kV, doc, pm, an, cdv, ct, osl, rfl, lk, hcd, hD, hK⟩ := D.ex
  rcases hD with ⟨e, _⟩ | ⟨_, T, o, its, m, rfl, lT, oT, rT⟩
  · exact absurd e hd
  · intro A outer s H us ws vs Q E hr e0 r hl hsp
    have KX : K.In s.heap := e0.mod.kin.keeps fun b o e => (e0.bs b o e).1
    have l1 : its.length = dvs.length := rT.length.symm
    have l2 : us.length = n := by
      have e := r.length
      rw [hsp.1, List.length_append, hl] at e
      omega
    obtain ⟨k, e1, e2⟩ := h T kV doc pm an cdv ct us ws its l2 hl l1
    refine F.run A outer s H ⟨us, ks.zip ws⟩ (g (us ++ ws) its) (g vs dvs) Q E hr e0 (BindsTo.of_looks fun M => ?_) (hrel r rT) hsp.2
    rw [e1]
    exact looks_items KX lT oT (.of_pure e2)
/-- all parameters given, some by name, no defaults -/
theorem Fb.names (D : FunD K x qual params body scope [] kws f fd) (F : Fb P w K mg base k f fd ps sp) (n : Nat) (ks : List Str) (g : {α : Type} → List α → List α)
    (hrel : ∀ {vs : List V} {us : List Value}, Vals vs us → Vals (g vs) (g us))
    (h : ∀ (kV doc pm : Value) (an : Option Addr) (cdv ct : Value) (us ws : List Value), us.length = n → ws.length = ks.length →
      bindArgs (PySem.W.fnOf x qual params body scope .none kV doc pm an cdv ct) ⟨us, ks.zip ws⟩ = pure (ps.zip (g (us ++ ws)))) :
    Fc P w K mg base k f ks (fun vs H Q E => vs.length = n + ks.length ∧ sp (g vs) H Q E) := by
  obtain ⟨oc, od, dV, kV, doc, pm, an, cdv, ct, osl, rfl, lk, hcd, hD, hK⟩ := D.ex
  rcases hD with ⟨_, rfl⟩ | ⟨e, _⟩
  · intro A outer s H us ws vs Q E hr e0 r hl hsp
    have l2 : us.length = n := by
      have e := r.length
      rw [hsp.1, List.length_append, hl] at e
      omega
    exact F.run A outer s H ⟨us, ks.zip ws⟩ (g (us ++ ws)) (g vs) Q E hr e0 (.of_eq (h kV doc pm an cdv ct us ws l2 hl)) (hrel r) hsp.2
  · exact absurd rfl e
end
def tFc (sp : Sp) (W : WX) (t : TA) : TE := fun σ H Q => t σ H fun vs H1 => sp vs H1 Q (WE W σ)
section
variable {X : Cx} {k : Nat} {f C : Addr} {ks : List Str} {sp : Sp} {W : WX} {x m : Str} {p pos apos : Pos} {e o : Expr} {es : List Expr} {kws : List Keyword} {ta : TE} {t tk : TA}
theorem run_fc {pins : List (Addr × Obj)} {σ : L2.St} {H : Hp} {s : Shared} {Q : VK} {us ws : List Value} {vs : List V} (F : Fc X.prog X.w X.K X.mg X.base k f ks sp) (hr : Rm k X.A) (hx : Takes X W)
    (I : Inv X pins σ H s) (r : Vals vs (us ++ ws)) (hl : ws.length = ks.length) (h : sp vs H Q (WE W σ)) : wpAny (model X.prog X.w) X.A (call (.ref f) us (ks.zip ws)) (EP X pins σ Q) X.xe s := by
  refine wpAny_call (codeAny_mono (F X.A X.stack s H us ws vs Q (WE W σ) hr I.env0 r hl h) fun r s' hq => ?_)
  cases r with
  | error e => exact passAt hx σ pins H s e s' I hq
  | ok fl =>
    cases fl with
    | ret u => exact I.after hq
    | next => exact False.elim hq
    | brk => exact False.elim hq
    | cont => exact False.elim hq
/-- f(e, ..) -/
theorem c_call (F : Fc X.prog X.w X.K X.mg X.base k f [] sp) (hr : Rm k X.A) (hm : X.mg x = some (.ref f)) (hk : PySem.W.keepIn X.K (.ref f) = true) (hx : Takes X W)
    (ha : PA X (e :: es) t) (hg : Gl X x := by rfl) (hdb : (x == ("__debug__" : Str)) = false := by decide) (he : starEach (e :: es) X.env = (false, eval e X.env) :: starEach es X.env := by rfl) (hpl : (backTo pos (starEach es X.env)).any (·.1) = false := by rfl) :
    PE X (.Call (.Name x p) (e :: es) [] pos) (tFc sp W t) := by
  refine ⟨fun pins s σ H Q I h => ?_⟩
  refine wpAny_Call_Name_kw (ld_glob I hg hm ?_ hdb)
  refine PySem.W.callWith_K (h₀ := X.base) I.ok.mod.kin hk (thn (ha.run pos pins s σ H _ I h) fun us s1 ⟨vs, H1, I1, r, q⟩ => ⟨I1.kIn, ?_⟩) he hpl
  exact run_fc (ws := []) F hr hx I1 (by rw [List.append_nil]; exact r) rfl q
/-- f(k = v, ..) -/
theorem c_callK0 (F : Fc X.prog X.w X.K X.mg X.base k f ks sp) (hr : Rm k X.A) (hm : X.mg x = some (.ref f)) (hk : PySem.W.keepIn X.K (.ref f) = true) (hx : Takes X W)
    (hkw : PK X kws tk) (hg : Gl X x := by rfl) (hall : (backToKw pos (keywordEach kws X.env)).all (·.1.isSome) = true := by rfl) (hks : (backToKw pos (keywordEach kws X.env)).filterMap (·.1) = ks := by rfl)
    (hdb : (x == ("__debug__" : Str)) = false := by decide)
    (hpl : ((backTo pos (starEach [] X.env)).any (·.1) || (backToKw pos (keywordEach kws X.env)).any (·.1.isNone)) = false := by rfl) :
    PE X (.Call (.Name x p) [] kws pos) (fun σ H Q => tk σ H fun zs H2 => zs.length = ks.length ∧ sp zs H2 Q (WE W σ)) := by
  refine ⟨fun pins s σ H Q I h => ?_⟩
  refine wpAny_Call_Name_kw (ld_glob I hg hm ?_ hdb)
  refine PySem.W.callWith_KW0 (h₀ := X.base) I.ok.mod.kin hk hall ?_ hpl
  refine thn (hkw.run pos pins s σ H _ I h) fun ws s2 ⟨zs, H2, I2, rz, l2, q2⟩ => ⟨I2.kIn, ?_⟩
  rw [hks]
  exact run_fc (us := []) F hr hx I2 rz (rz.length.symm.trans l2) q2
end
theorem rm_caller : Rm 230 callerA := ⟨⟨rfl, by decide, by decide⟩, rfl⟩
section
variable {P : Program} {w : World} {K : PySem.W.Frag} {mg mb : Str → Option Value} {k : Nat} {fa a : Addr} {fd : FuncData} {x : Str} {sp : Sp} {s₁ : Shared} {vs : List Value} {ns : List Int}
/-- the law's call over one abstract heap, in which at most the script is tracked -/
theorem law_core (H : Hp) (KX : K.In s₁.heap) (hns : s₁.heap.Ns mainGlobals mg) (hb : s₁.heap.Ns builtinsNs mb) (hbb : ∀ x : Str, x ≠ "__name__" → mb x = bootBuiltins x) (hlim : s₁.heap.NoLimit) (hg : s₁.gens = #[])
    (ha : s₁.heap.get? a = some { cls := .type "list", data := .seq vs.toArray }) (hr : Rm k callerA)
    (F : ∀ base : Heap, K.In base → base.Ns mainGlobals mg → Fb P w K mg base k fa fd [x] sp) (hbind : ∀ (s : Shared) (u : Value), BindsTo s fd ⟨[u], []⟩ [(x, u)])
    (hO : Only H) (hsp : sp [.ref a] H (fun v _ => v = .bl true) fun _ _ _ => False) (hok : HOk P w H s₁.heap) (hA : ∀ b, H b ≠ none → b = a) (hK : H a ≠ none → K.lookup a = none) :
    codeAny (model P w) callerA (.call (.ref fa) ⟨[.ref a], []⟩) (fun r s' => r = .ok (.ret (.bool true)) ∧ OldK s₁.heap s'.heap ∧ s'.os = s₁.os ∧ AllBare s'.gens) s₁ := by
  have isA : ∀ {b : Addr} {u : HO}, H b = some u → b = a := fun {b u} q => hA b (fun z => nomatch (q.symm.trans z))
  have free : ∀ {b : Addr} {o : Obj} {es : Array DictEntry} {ep : Nat}, s₁.heap.get? b = some o → o.data = .dict es ep → H b = none := fun {b o es ep} e d => by
    cases q : H b with
    | none => rfl
    | some u =>
      have eb := isA q
      subst eb
      rw [ha] at e
      cases e
      cases (show Data.seq vs.toArray _ = Data.dict es ep from d)
  have nsK : ∀ {b : Addr} {m : Str → Option Value}, s₁.heap.Ns b m → (hidT s₁.heap H).Ns b m := fun {b m} ⟨o, es, ep, e, d, r⟩ => ⟨o, es, ep, hidT_get e (free e d), d, r⟩
  have inK : K.In (hidT s₁.heap H) := fun b o e => hidT_get (KX b o e) (by
    cases q : H b with
    | none => rfl
    | some u =>
      have eb := isA q
      subst eb
      rw [hK (fun z => nomatch (q.symm.trans z))] at e
      cases e)
  have hM : Mod K mg (hidT s₁.heap H) := ⟨inK, nsK hns, ⟨mb, nsK hb, hbb⟩, let ⟨mc, h1, h2⟩ := hlim; ⟨mc, nsK h1, h2⟩⟩
  have e0 : Env0 P w K mg (hidT s₁.heap H) callerA [] s₁ H := ⟨rfl, hM, fun b o e => of_hidT e, Nat.le_of_eq (hidT_size _ _), trivial, (fun b z => nomatch (show b ∈ ([] : List Addr) from z)), hok, .of_eq hg⟩
  refine codeAny_mono ((F _ inK (nsK hns)).run callerA [] s₁ H ⟨[.ref a], []⟩ [.ref a] [.ref a] _ _ hr e0 (hbind s₁ (.ref a)) (.cons rfl .nil) hsp) fun r s' h => ?_
  cases r with
  | error e =>
    obtain ⟨_, _, _, _, _, _, _, _, _, _, _, _, z⟩ := h
    exact z.elim
  | ok fl =>
    cases fl with
    | next => exact h.elim
    | brk => exact h.elim
    | cont => exact h.elim
    | ret u =>
      obtain ⟨v, H', os, bare, un, hok2, rv, rfl⟩ := h
      obtain rfl : u = Value.bool true := rv
      refine ⟨rfl, OldK.of_keep fun b o e => ?_, os, bare⟩
      cases q : H b with
      | none => exact un.keep b o e q (fun z => nomatch (show b ∈ ([] : List Addr) from z)) (fun z => nomatch z)
      | some u =>
        rcases hO b with z | ⟨ob, xs, z⟩
        · exact nomatch (q.symm.trans z)
        · have e1 := (hok b _ z).1
          have e2 := (hok2 b _ (un.frzs b ob _ z)).1
          rw [e] at e1
          cases e1
          exact e2
theorem law_end (KX : K.In s₁.heap) (hns : s₁.heap.Ns mainGlobals mg) (hb : s₁.heap.Ns builtinsNs mb) (hbb : ∀ x : Str, x ≠ "__name__" → mb x = bootBuiltins x) (hlim : s₁.heap.NoLimit) (hg : s₁.gens = #[])
    (ha : s₁.heap.get? a = some { cls := .type "list", data := .seq vs.toArray }) (hi : IntsAre vs ns) (hl : ns.length ≤ sizeLine) (hr : Rm k callerA)
    (F : ∀ base : Heap, K.In base → base.Ns mainGlobals mg → Fb P w K mg base k fa fd [x] sp) (hbind : ∀ (s : Shared) (u : Value), BindsTo s fd ⟨[u], []⟩ [(x, u)])
    (hsp : ∀ H : Hp, SqL K H a (ns.map V.int) → sp [.ref a] H (fun v _ => v = .bl true) fun _ _ _ => False) :
    codeAny (model P w) callerA (.call (.ref fa) ⟨[.ref a], []⟩) (fun r s' => r = .ok (.ret (.bool true)) ∧ OldK s₁.heap s'.heap ∧ s'.os = s₁.os ∧ AllBare s'.gens) s₁ := by
  have rv := vals_ints hi
  cases hk : K.lookup a with
  | some o =>
    have e := KX a o hk
    rw [ha] at e
    cases e
    have sq : SqL K (fun _ => none) a (ns.map V.int) := .inr ⟨_, vs.toArray, _, hk, rfl, rfl, rfl, by rw [List.size_toArray, hi.length]; exact hl, by simpa using rv⟩
    exact law_core (fun _ => none) KX hns hb hbb hlim hg ha hr F hbind (fun _ => .inl rfl) (hsp _ sq) (fun b u z => nomatch (show (none : Option HO) = some u from z)) (fun b z => absurd rfl z) fun z => absurd rfl z
  | none =>
    have h1 : ∀ b, b ≠ a → (upd (fun _ => none) a (.frz { cls := .type "list", data := .seq vs.toArray } (.lst (ns.map V.int)))) b = none := fun b n => upd_ne n
    refine law_core (upd (fun _ => none) a (.frz { cls := .type "list", data := .seq vs.toArray } (.lst (ns.map V.int)))) KX hns hb hbb hlim hg ha hr F hbind (fun b => ?_) (hsp _ (.inl (.inr ⟨_, upd_same⟩))) (fun b u z => ?_) (fun b z => ?_) fun _ => hk
    · by_cases n : b = a
      · subst n
        exact .inr ⟨_, _, upd_same⟩
      · exact .inl (h1 b n)
    · by_cases n : b = a
      · subst n
        rw [upd_same] at z
        cases z
        exact ⟨ha, by rw [List.length_map]; exact hl, vs, _, rv, ha⟩
      · rw [h1 b n] at z
        cases z
    · by_cases n : b = a
      · exact n
      · exact absurd (h1 b n) z
end
theorem walk_end {l : PySem.W.OpenLaw} {n k : Nat} {q : Program} {loose : List Str} {XP : (Str → Option Value) → Heap → Prop} {YP : World → Heap → Prop} {d : DefRec} {x : Str}
    (hn : l.most = some n) (hn2 : n ≤ sizeLine) (hdf : d.params.defaults = []) (hr : Rm k callerA)
    (F : ∀ (w : World) (mg : Str → Option Value) (fa : Addr) (h : Heap), YP w h → h.Ns mainGlobals mg → mg d.name = some (.ref fa) →
      ∃ (K : PySem.W.Frag) (fd : FuncData) (sp : Sp), K.In h ∧ (∀ (s : Shared) (u : Value), BindsTo s fd ⟨[u], []⟩ [(x, u)]) ∧
        (∀ (H : Hp) (a : Addr) (ns : List Int), ns.length ≤ n → SqL K H a (ns.map V.int) → sp [.ref a] H (fun v _ => v = .bl true) fun _ _ _ => False) ∧
        ∀ base : Heap, K.In base → base.Ns mainGlobals mg → Fb l.prog w K mg base k fa fd [x] sp) :
    PySem.W.WalkO q loose XP YP l.row.toRowW d [] (fun f vs => PySem.call f vs) := by
  refine Att.attach_call hn hdf fun w s₀ s₁ mg mb fa o pm cd doc a vs ns G Y ho hd hcd hmg hobj hints hlen hg => ?_
  obtain ⟨K, fd, sp, KX, hb, hsp, hF⟩ := F w mg fa _ Y G.T.g hmg
  exact law_end KX G.T.g G.T.b G.T.builtins G.T.nolimit hg hobj hints (Nat.le_trans hlen hn2) hr hF hb (fun H hS => hsp H a ns hlen hS)
end L3
set_option Elab.async false
set_option linter.all false
set_option maxRecDepth 100000
set_option maxHeartbeats 4000000
namespace L3
open PySem PySem.Spec PyProof.Rows L2
abbrev Fx := PySem.W.Frag → Bool
def obsX (xf : List Fx) (fn : List He.DefD) (K : PySem.W.Frag) : He.AlD := ((xf.all fun p => p K) && fn.all fun d => d.ok K, fn.map fun d => He.fnW K d.at_)
def SaysX (xf : List Fx) (fn : List He.DefD) (K : PySem.W.Frag) : Prop := obsX xf fn K = He.valD fn
section
variable {xf : List Fx} {fn : List He.DefD} {K : PySem.W.Frag}
theorem SaysX.fact (c : SaysX xf fn K) (i : Nat) {f : Fx} (h : xf[i]? = some f := by rfl) : f K = true := by
  have c1 := (He.ba (show ((xf.all fun f => f K) && fn.all fun d => d.ok K) = true from congrArg (fun z : He.AlD => z.1) c)).1
  exact List.all_eq_true.mp c1 f (List.mem_of_getElem? h)
theorem SaysX.def_ (c : SaysX xf fn K) (i : Nat) {d : He.DefD} (h : fn[i]? = some d := by rfl) : ∃ fd, FunD K d.name d.qual d.params d.body d.scope (d.dvs K) (d.kws K) (He.fAd K d.at_) fd := by
  have c2 := (He.ba (show ((xf.all fun f => f K) && fn.all fun d => d.ok K) = true from congrArg (fun z : He.AlD => z.1) c)).2
  have e : fn.map (fun d => He.fnW K d.at_) = fn.map He.DefD.val := congrArg (fun z : He.AlD => z.2) c
  have e2 : (fn.map fun d => He.fnW K d.at_)[i]? = (fn.map He.DefD.val)[i]? := by rw [e]
  rw [List.getElem?_map, List.getElem?_map, h] at e2
  exact He.DefD.funD (Option.some.inj e2) (List.all_eq_true.mp c2 d (List.mem_of_getElem? h))
end
structure Exo (K : PySem.W.Frag) (C : Addr) (bmB : List Value) (newId : String) : Prop where
  x : PySem.W.excIn K C bmB newId = true
  kp : PySem.W.keepIn K (.ref C) = true
  sub : PySem.W.subIn K (.ref C) (.type "BaseException") = some true
  ty : PySem.W.typeIn K (.ref C) = some (.type "type")
abbrev bmV : List Value := [.type "ValueError", .type "Exception", .type "BaseException", .type "object"]
def exoB (bmB : List Value) (newId : String) (x : Str) : Fx := fun K => PySem.W.excIn K (He.ga K x) bmB newId && (PySem.W.keepIn K (.ref (He.ga K x)) && (decide (PySem.W.subIn K (.ref (He.ga K x)) (.type "BaseException") = some true) && decide (PySem.W.typeIn K (.ref (He.ga K x)) = some (.type "type"))))
theorem exo_of {bmB : List Value} {newId : String} {x : Str} {K : PySem.W.Frag} (h : exoB bmB newId x K = true) : Exo K (He.ga K x) bmB newId := by
  obtain ⟨h1, h⟩ := He.ba h
  obtain ⟨h2, h⟩ := He.ba h
  obtain ⟨h3, h4⟩ := He.ba h
  exact ⟨h1, h2, of_decide_eq_true h3, of_decide_eq_true h4⟩
section
variable {K : PySem.W.Frag} {h : Heap} {mg : Str → Option Value}
theorem gint_of (X : K.In h) (G : h.Ns mainGlobals mg) {x : Str} {i : Int} (c : (He.Fa.int x i).ok K = true) : ∃ u, mg x = some u ∧ RelV (.int i) u := by
  obtain ⟨t, e⟩ := He.int_ok X G c
  exact ⟨_, e, ⟨t, rfl⟩⟩
theorem gstr_of (X : K.In h) (G : h.Ns mainGlobals mg) {x z : Str} (c : (He.Fa.str x z).ok K = true) : ∃ u, mg x = some u ∧ RelV (.str z) u := by
  obtain ⟨t, e⟩ := He.str_ok X G c
  exact ⟨_, e, ⟨t, rfl⟩⟩
end
/-- a module's constant -/
theorem pe_k {X : Cx} {x : Str} {v : V} {pos : Pos} (h : ∃ u, X.mg x = some u ∧ RelV v u) (hg : Gl X x := by rfl) (hdb : (x == ("__debug__" : Str)) = false := by decide) : PE X (.Name x pos) (tC v) := by
  obtain ⟨u, e, r⟩ := h
  exact pe_glob hg e r hdb
end L3
set_option Elab.async false
set_option linter.all false
set_option maxRecDepth 100000
set_option maxHeartbeats 4000000
namespace L3
open PySem PySem.Spec PyProof.Rows L2
abbrev Ex (H H' : Hp) : Prop := Same H H'
theorem ex_new {H : Hp} {p : Addr} {o : HO} (h : H p = none) : Ex H (upd H p o) := fun a u e => by
  rw [upd_ne (ne_of_none e h)]
  exact e
/-- an object that H does not know may change -/
theorem ex_mut {H H' : Hp} {p : Addr} {o : HO} (e : Ex H H') (h : H p = none) : Ex H (upd H' p o) := fun a u ha => by
  rw [upd_ne (ne_of_none ha h)]
  exact e a u ha
theorem ex_sql {K : PySem.W.Frag} {H H' : Hp} {a : Addr} {xs : List V} (e : Ex H H') (h : SqL K H a xs) : SqL K H' a xs := Same.seq e h
theorem ex_sqt {K : PySem.W.Frag} {H H' : Hp} {a : Addr} {xs : List V} (e : Ex H H') (h : SqT K H a xs) : SqT K H' a xs := by
  rcases h with (h | ⟨o, h⟩) | h
  · exact .inl (.inl (e _ _ h))
  · exact .inl (.inr ⟨o, e _ _ h⟩)
  · exact .inr h
theorem ex_fresh {H H' : Hp} {p : Addr} (e : Ex H H') (h : H' p = none) : H p = none := Same.free e h
theorem sq_lst {K : PySem.W.Frag} {H : Hp} {a : Addr} {xs : List V} (h : H a = some (.lst xs)) : SqL K H a xs := .inl (.inl h)
theorem sq_tup {K : PySem.W.Frag} {H : Hp} {a : Addr} {xs : List V} (h : H a = some (.tup xs)) : SqT K H a xs := .inl (.inl h)
/-- a value of a known type -/
def isW : V → Bool
  | .int _ => true
  | _ => false
def isM : V → Bool
  | .int i => decide (0 ≤ i)
  | _ => false
def Cl (K : PySem.W.Frag) (H : Hp) (x : V) : Prop := ∃ t b c, TyX K H x t ∧ PySem.W.kitOne K t (.type "int") = some b ∧ PySem.W.kitOne K t (.type "bool") = some c ∧ isW x = (b && !c)
section
variable {K : PySem.W.Frag} {H : Hp}
theorem cl_int (i : Int) : Cl K H (.int i) := ⟨_, true, false, .base (.int i), kit_ty (by decide +kernel), kit_ty (by decide +kernel), rfl⟩
end
theorem isM_w {x : V} (h : isM x = true) : ∃ i, x = .int i ∧ 0 ≤ i := by
  cases x with
  | int i => exact ⟨i, rfl, of_decide_eq_true h⟩
  | _ => cases h
/-- given values and defaults in the parameters' order -/
def pick {α : Type} (ix : List (Sum Nat Nat)) (us its : List α) : List α := ix.filterMap fun j => match j with
  | .inl i => us[i]?
  | .inr i => its[i]?
theorem pick_vals {vs ds : List V} {us its : List Value} (ix : List (Sum Nat Nat)) (r1 : Vals vs us) (r2 : Vals ds its) : Vals (pick ix vs ds) (pick ix us its) := by
  have one : ∀ {vs : List V} {us : List Value} (i : Nat), Vals vs us → (∃ v u, vs[i]? = some v ∧ us[i]? = some u ∧ RelV v u) ∨ (vs[i]? = none ∧ us[i]? = none) := fun {vs us} i r => by
    cases e : vs[i]? with
    | none => exact .inr ⟨rfl, r.none_of e⟩
    | some v =>
      obtain ⟨u, h1, h2⟩ := r.get e
      exact .inl ⟨v, u, rfl, h1, h2⟩
  induction ix with
  | nil => exact .nil
  | cons j ix ih =>
    unfold pick at ih ⊢
    cases j with
    | inl i =>
      rcases one i r1 with ⟨v, u, h1, h2, h3⟩ | ⟨h1, h2⟩
      · simp only [List.filterMap_cons, h1, h2]
        exact .cons h3 ih
      · simp only [List.filterMap_cons, h1, h2]
        exact ih
    | inr i =>
      rcases one i r2 with ⟨v, u, h1, h2, h3⟩ | ⟨h1, h2⟩
      · simp only [List.filterMap_cons, h1, h2]
        exact .cons h3 ih
      · simp only [List.filterMap_cons, h1, h2]
        exact ih
end L3
namespace L3
open PySem PySem.Spec PyProof.Rows L2
theorem log_of {n : Nat} (h : n < 10 ^ 200) : n.log2 < 1920 := PySem.Flt.log2_lt_of (by decide) (Nat.lt_trans h (by decide +kernel))
end L3
namespace L3
open PySem PySem.Spec PyProof.Rows L2
section
variable {K : PySem.W.Frag} {a : Addr} {xs : List V} {g : TG} {tt : TT} {te : TE} {vs : List Nat} {σ : L2.St} {H1 : Hp} {D : Addr} {Qd : Hp → Prop}
theorem small_len {n : Nat} (h : n ≤ 100000) : n < sizeLine := Nat.lt_of_le_of_lt h (by rw [sizeLine_eq]; decide)
abbrev Turn (g : TG) (tt : TT) (te : TE) (vs : List Nat) (σ : L2.St) (D : Addr) (x : V) (H : Hp) (N : Hp → Prop) : Prop :=
  g x (wipe σ vs) H fun σ2 H2 => wipe σ2 vs = wipe σ vs ∧ tt σ2 H2 fun b H3 => if b = true then te σ2 H3 fun y H4 => ∃ acc, H4 D = some (.lst acc) ∧ acc.length < sizeLine ∧ N (upd H4 D (.lst (acc ++ [y]))) else N H3
end
end L3
namespace L3
open PySem PySem.Spec PyProof.Rows L2
abbrev turns (most : Int) (n : Nat) : Int := if (if most < (n : Int) then most else (n : Int)) > (1 : Int) then (if most < (n : Int) then most else (n : Int)) else (1 : Int)
theorem turns_lo (most : Int) (n : Nat) (h : 0 < most ∧ most ≤ 63) : -(2 ^ 62) ≤ turns most n := by
  unfold turns
  split <;> split <;> omega
theorem turns_hi (most : Int) (n : Nat) (h : 0 < most ∧ most ≤ 63) : turns most n < 2 ^ 62 := by
  unfold turns
  split <;> split <;> omega
theorem turns_lt {i : Nat} (most : Int) (n : Nat) (h : 0 < most ∧ most ≤ 63) (hi : i < (turns most n).toNat) : i < 1000 := by
  unfold turns at hi
  split at hi <;> split at hi <;> omega
end L3
set_option Elab.async false
set_option linter.all false
set_option maxRecDepth 100000
set_option maxHeartbeats 4000000
namespace L3
open PySem PySem.Spec PyProof.Rows L2 TL
section
variable {J : It} {n : Nat} {G : Hp → Prop} {Y : Nat → Hp → V → Hp → Prop} {g : TG} {tt : TT} {te : TE} {vs : List Nat} {σ : L2.St} {H1 : Hp} {D : Addr} {Qd : Hp → Prop}
theorem range_fm_succ (fm : Nat → Option V) (i : Nat) : (List.range (i + 1)).filterMap fm = match fm i with
    | some y => (List.range i).filterMap fm ++ [y]
    | none => (List.range i).filterMap fm := by
  rw [List.range_succ, List.filterMap_append]
  cases e : fm i with
  | none => simp [e]
  | some y => simp [e]
theorem fm_len (fm : Nat → Option V) (i : Nat) : ((List.range i).filterMap fm).length ≤ i := by
  have := List.length_filterMap_le fm (List.range i)
  rwa [List.length_range] at this
theorem lc_fm (w : L2.Walk J n G Y) (fm : Nat → Option V) (I : Hp → Prop) (hI : ∀ H l, I H → I (upd H D (.lst l))) (i0 : I H1) (hn : n ≤ 100000) (hG : ∀ H, I H → G H)
    (hs : ∀ (i : Nat) (x : V) (H H' : Hp) (acc : List V) (N : Hp → Prop), i < n → I H → H D = some (.lst acc) → acc.length < sizeLine → Y i H x H' →
      (∀ H4, I H4 → H4 D = some (.lst acc) → match fm i with | some y => N (upd H4 D (.lst (acc ++ [y]))) | none => N H4) → Turn g tt te vs σ D x H' N)
    (hd : ∀ H, I H → H D = some (.lst ((List.range n).filterMap fm)) → Qd H) :
    ∃ W : Nat → Nat → Hp → Prop, (∃ m, W 0 m (upd H1 D (.lst []))) ∧ ∀ i m H, W i m H →
      (J.stop i H ∧ Qd H) ∨ (J.go i H ∧ ∃ Nx : Hp → Prop, (∀ H', Nx H' → ∃ m', m' < m ∧ W (i + 1) m' H') ∧ ∀ x H', J.yld i H x H' → Turn g tt te vs σ D x H' Nx) := by
  refine L2.lc_it w (fun i H => I H ∧ i ≤ n ∧ H D = some (.lst ((List.range i).filterMap fm))) ⟨hI _ _ i0, Nat.zero_le _, upd_same⟩ (fun i H _ p => hG H p.1) ?_ (fun H p => hd H p.1 p.2.2)
  rintro i x H H' hi ⟨p1, p2, p3⟩ y
  refine hs i x H H' _ _ hi p1 p3 (small_len (Nat.le_trans (fm_len fm i) (by omega))) y fun H4 i4 d4 => ?_
  have e := range_fm_succ fm i
  cases q : fm i with
  | none =>
    rw [q] at e
    exact ⟨i4, hi, by rw [e]; exact d4⟩
  | some y =>
    rw [q] at e
    exact ⟨hI _ _ i4, hi, by rw [upd_same, e]⟩
end
theorem range_map_get {α β : Type} (l : List α) (d : α) (f : α → β) : (List.range l.length).filterMap (fun i => some (f (l.getD i d))) = l.map f := by
  apply List.ext_getElem?
  intro i
  rw [List.filterMap_eq_map' (f := fun i => f (l.getD i d))]
  rw [List.getElem?_map, List.getElem?_map]
  by_cases h : i < l.length
  · rw [List.getElem?_range h, List.getElem?_eq_getElem h]
    simp [List.getD_eq_getElem?_getD, h]
  · rw [List.getElem?_eq_none (by simpa using h), List.getElem?_eq_none (by simpa using h)]
    rfl
section
variable {X : Cx} {o e : Expr} {to te : TE}
/-- x * n, x a text of one sign -/
theorem op_repS : OpR X (binaryOp .Mult) (fun x y H Q => ∃ (a : Str) (n : Int), x = .str a ∧ y = .int n ∧ a.length ≤ 1000 ∧ 0 ≤ n ∧ n ≤ 10000 ∧ Q (.str (Txt.mul a n)) H) := by
  intro pins s σ H x y v u Q I rx ry h
  obtain ⟨a, n, rfl, rfl, ha, h0, h1, q⟩ := h
  obtain ⟨t, rfl⟩ := rx
  obtain ⟨t', rfl⟩ := ry
  refine SB.mul ⟨?_, fun z _ => ?_, fun z _ => ?_⟩ fun t' k => ⟨.str _, H, I.tok _, ⟨_, rfl⟩, q⟩
  · rw [decide_eq_false (by omega), decide_eq_false (by omega)]
    rfl
  · have hn : 0 < n := by omega
    have h2 : (a.length : Int) * n ≤ 1000 * 10000 := Int.mul_le_mul (by omega) h1 h0 (by decide)
    have h3 : (a.length : Int) ≤ (2 ^ 63 - 1) / n := Int.le_ediv_of_mul_le hn (by omega)
    omega
  · unfold Builtin.Str.tooLong
    rw [decide_eq_false]
    have h2 : a.length * n.toNat ≤ 1000 * 10000 := Nat.mul_le_mul ha (by omega)
    rw [sizeLine_eq]
    omega
end
end L3
set_option Elab.async false
set_option linter.all false
set_option maxRecDepth 100000
set_option maxHeartbeats 4000000
namespace Mo
open PySem TL
def val (l : List Nat) : Nat := NumText.digitsVal l
def two (m : Nat) : List Nat := [48 + m / 10, 48 + m % 10]
def clk (m : Nat) : List Nat := numL (m % 1440 / 60) ++ 58 :: two (m % 60)
def shw (m : Nat) : List Nat := if m / 1440 = 0 then clk m else numL (m / 1440) ++ 32 :: clk m
theorem shw_len {m k : Nat} (hk : 0 < k) (h : m < 10 ^ k) : (shw m).length ≤ k + 8 := by
  have h1 : (numL (m % 1440 / 60)).length ≤ 2 := numL_len (by decide) (by omega)
  have h2 : (numL (m / 1440)).length ≤ k := numL_len hk (Nat.lt_of_le_of_lt (Nat.div_le_self _ _) h)
  unfold shw clk two
  split <;> simp <;> omega
end Mo
set_option Elab.async false
set_option linter.all false
set_option maxRecDepth 100000
set_option maxHeartbeats 4000000
namespace L3
open PySem PySem.Spec PyProof.Rows L2
def rIsA (K : PySem.W.Frag) (a : Addr) (cls : Value) (d : Option Addr) : List V → Hp → VK → Prop := fun xs H Q => ∃ (D : Addr) (c : V) (cv : Value) (b : Bool), cls = .ref D ∧ d = none ∧ ExcC K D ∧ xs = [.ref a, c] ∧ ClsV c cv ∧ PySem.W.kitOne K (.ref D) cv = some b ∧ Q (.bl b) H
def rIsAT (K : PySem.W.Frag) (a : Addr) (cls : Value) (d : Option Addr) : List V → Hp → VK → Prop := fun xs H Q => ∃ (D tp : Addr) (cs : List V) (us : List Value) (b : Bool), cls = .ref D ∧ d = none ∧ ExcC K D ∧ xs = [.ref a, .ref tp] ∧ H tp = some (.tup cs) ∧ Paired ClsV cs us ∧ PySem.W.kitAny K (.ref D) us = some b ∧ Q (.bl b) H
section
variable {X : Cx} {a : Addr} {cls : Value} {d : Option Addr} {oe : Obj} {pn : List (Addr × Obj)}
theorem suite_inst {pins : List (Addr × Obj)} {s : Shared} {σ : L2.St} {H : Hp} {D : Addr} (I : Inv (X.suite a ((a, oe) :: pn)) pins σ H s) (hz : Zc (.ref D) none oe) (hf : ∃ vs, oe.data = .fields vs) : PySem.W.InstAt s.heap a oe D none := by
  obtain ⟨hget, _⟩ := I.pin (a, oe) (List.mem_append.mpr (.inl List.mem_cons_self))
  obtain ⟨vs, hv⟩ := hf
  obtain ⟨oc, od, oda, osl⟩ := oe
  obtain ⟨h1, h2⟩ := hz
  dsimp only at h1 h2 hv
  subst h1 h2 hv
  exact ⟨hget, rfl, rfl, trivial⟩
theorem call_isA (hz : Zc cls d oe) (hf : ∃ vs, oe.data = .fields vs) : CallR (X.suite a ((a, oe) :: pn)) (.builtin "isinstance") (rIsA X.K a cls d) := by
  intro pins s σ H xs us Q I r h
  obtain ⟨D, c, cv, b, rfl, rfl, C, rfl, k, e, q⟩ := h
  obtain ⟨u1, u2, rfl, r1, r2⟩ := vals2 r
  have e2 := k.eq r2
  subst e2
  cases (show u1 = Value.ref a from r1)
  exact PySem.W.kia_one (PySem.W.handS_kitx_exc C.hg C.hk C.hs C.hd C.ha C.hn C.ht C.hm) I.kIn (suite_inst I hz hf) e (fun z => nomatch z) fun tk => ⟨.bl b, H, I.kept (t' := tk) fun _ _ z => z, rfl, q⟩
theorem call_isAT (hz : Zc cls d oe) (hf : ∃ vs, oe.data = .fields vs) : CallR (X.suite a ((a, oe) :: pn)) (.builtin "isinstance") (rIsAT X.K a cls d) := by
  intro pins s σ H xs us Q I r h
  obtain ⟨D, tp, cs, ws, b, rfl, rfl, C, rfl, hT, k, e, q⟩ := h
  obtain ⟨u1, u2, rfl, r1, r2⟩ := vals2 r
  cases (show u1 = Value.ref a from r1)
  cases (show u2 = Value.ref tp from r2)
  obtain ⟨_, its, rv, o, h1, h2, n, h3⟩ := (show ObjOk X.prog X.w H s.heap tp (.tup cs) from I.hok tp _ hT)
  have e3 := ClsV.all k rv
  subst e3
  obtain ⟨oc, od, dt, sl⟩ := o
  simp only at h2 h3
  subst h2 h3
  exact PySem.W.kia_tup (PySem.W.handS_kitx_exc C.hg C.hk C.hs C.hd C.ha C.hn C.ht C.hm) I.kIn (suite_inst I hz hf) h1 e (fun z => nomatch z) fun tk => ⟨.bl b, H, I.kept (t' := tk) fun _ _ z => z, rfl, q⟩
end
def excCB (x : Str) : Fx := fun K => He.eqO (PySem.W.findIn K (.ref (He.ga K x)) "__getattribute__") (some (some (.builtin "BaseException.__getattribute__"))) && (He.eqO (PySem.W.findIn K (.ref (He.ga K x)) "__getattr__") (some none) && (decide (PySem.W.subIn K (.ref (He.ga K x)) (.type "BaseException") = some true) && (PySem.W.hasDictIn K (He.ga K x) &&
  (He.eqO (PySem.W.findIn K (.ref (He.ga K x)) "__class__") (some (some (.builtin "object.__class__"))) && (He.eqO (PySem.W.specialIn K (.builtin "object.__class__") "__get__") (some (some (.builtin "getset_descriptor.__get__"))) && (decide (PySem.W.takesIn K (.builtin "object.__class__") = some true) && decide (PySem.W.mroIn K (He.ga K x) (.type "object") = some true)))))))
theorem excC_of {x : Str} {K : PySem.W.Frag} (h : excCB x K = true) : ExcC K (He.ga K x) := by
  obtain ⟨h1, h⟩ := He.ba h
  obtain ⟨h2, h⟩ := He.ba h
  obtain ⟨h3, h⟩ := He.ba h
  obtain ⟨h4, h⟩ := He.ba h
  obtain ⟨h5, h⟩ := He.ba h
  obtain ⟨h6, h⟩ := He.ba h
  obtain ⟨h7, h8⟩ := He.ba h
  exact ⟨He.eqO_ok h1, He.eqO_ok h2, of_decide_eq_true h3, h4, He.eqO_ok h5, He.eqO_ok h6, of_decide_eq_true h7, of_decide_eq_true h8⟩
def kitF (x y : Str) (b : Bool) : Fx := fun K => decide (PySem.W.kitOne K (.ref (He.ga K x)) (.ref (He.ga K y)) = some b)
def kitFT (x : Str) (y : String) (b : Bool) : Fx := fun K => decide (PySem.W.kitOne K (.ref (He.ga K x)) (.type y) = some b)
end L3
set_option Elab.async false
set_option linter.all false
set_option maxRecDepth 100000
set_option maxHeartbeats 4000000
namespace L3
open PySem PySem.Spec PyProof.Rows L2
def keyD : Key → PyData
  | .inl i => .int i
  | .inr x => .str x
def zipK : List (Key × V) → List PyData → List (PyData × PyData)
  | (k, _) :: r, d :: ds => (keyD k, d) :: zipK r ds
  | _, _ => []
inductive Dq (K : PySem.W.Frag) (H : Hp) : V → PyData → Prop
  | non : Dq K H .non .none
  | bl (b : Bool) : Dq K H (.bl b) (.bool b)
  | int (i : Int) : Dq K H (.int i) (.int i)
  | str (x : Str) : Dq K H (.str x) (.str x)
  | lst {a : Addr} {xs : List V} {ds : List PyData} : SqL K H a xs → xs.length = ds.length → (∀ (i : Nat) (x : V) (d : PyData), xs[i]? = some x → ds[i]? = some d → Dq K H x d) → Dq K H (.ref a) (.list ds)
  | tup {a : Addr} {xs : List V} {ds : List PyData} : SqT K H a xs → xs.length = ds.length → (∀ (i : Nat) (x : V) (d : PyData), xs[i]? = some x → ds[i]? = some d → Dq K H x d) → Dq K H (.ref a) (.tuple ds)
  | dct {a : Addr} {kvs : List (Key × V)} {ds : List PyData} : H a = some (.dK kvs) → kvs.length = ds.length → (∀ (i : Nat) (k : Key) (x : V) (d : PyData), kvs[i]? = some (k, x) → ds[i]? = some d → Dq K H x d) → Dq K H (.ref a) (.dict (zipK kvs ds))
theorem Dq.mono {K : PySem.W.Frag} {H H' : Hp} {x : V} {d : PyData} (e : Ex H H') (h : Dq K H x d) : Dq K H' x d := by
  induction h with
  | non => exact .non
  | bl b => exact .bl b
  | int i => exact .int i
  | str x => exact .str x
  | lst s l _ ih => exact .lst (ex_sql e s) l ih
  | tup s l _ ih => exact .tup (ex_sqt e s) l ih
  | dct s l _ ih => exact .dct (e _ _ s) l ih
end L3
set_option Elab.async false
set_option linter.all false
set_option maxRecDepth 100000
set_option maxHeartbeats 4000000
namespace L3
open PySem PySem.Spec PyProof.Rows L2
theorem Rm.in1 {k : Nat} {A : Around} (r : Rm (k + 1) A) : Rm k A.in1 := ⟨r.rm.in1, r.gd⟩
section
variable {X : Cx} {k : Nat} {f C : Addr} {ks : List Str} {sp : Sp} {W : WX} {x m : Str} {p pos apos : Pos} {e o : Expr} {es : List Expr} {kws : List Keyword} {ta : TE} {t tk : TA}
/-- a def that runs somewhere below the body -/
theorem run_fcA {A : Around} {pins : List (Addr × Obj)} {σ : L2.St} {H : Hp} {s : Shared} {Q : VK} {us ws : List Value} {vs : List V} (F : Fc X.prog X.w X.K X.mg X.base k f ks sp) (hr : Rm k A) (hf : A.frames = X.A.frames) (hx : Takes X W)
    (I : Inv X pins σ H s) (r : Vals vs (us ++ ws)) (hl : ws.length = ks.length) (h : sp vs H Q (WE W σ)) : wpAny (model X.prog X.w) A (call (.ref f) us (ks.zip ws)) (EP X pins σ Q) X.xe s := by
  have e0 : Env0 X.prog X.w X.K X.mg X.base A X.stack s H := by
    have e := I.env0
    exact ⟨by rw [hf]; exact e.frames, e.mod, e.bs, e.bsz, e.funs, e.frf, e.hok, e.bare⟩
  refine wpAny_call (codeAny_mono (F A X.stack s H us ws vs Q (WE W σ) hr e0 r hl h) fun r s' hq => ?_)
  cases r with
  | error e => exact passAt hx σ pins H s e s' I hq
  | ok fl =>
    cases fl with
    | ret u => exact I.after hq
    | next => exact False.elim hq
    | brk => exact False.elim hq
    | cont => exact False.elim hq
/-- o.m(e, ..) of an instance of the class at C -/
def tMt (C : Addr) (m : Str) (sp : Sp) (W : WX) (ta : TE) (t : TA) : TE := fun σ H Q => ta σ H fun x H1 => ∃ a dx fs, x = .ref a ∧ H1 a = some (.ins C dx fs) ∧ fs.lookup m = none ∧ t σ H1 fun vs H2 => sp (x :: vs) H2 Q (WE W σ)
theorem c_meth0 {pl : Sem Bool} (he : PE X o ta) (c : Cls X.K C) (hm : Meth X.K C m f) (F : Fc X.prog X.w X.K X.mg X.base k f [] sp) (hr : Rm k X.A) (hx : Takes X W)
    (ht : eval (.Call (.Attribute o m apos) [] [] pos) X.env = (do
      let ov ← eval o X.env
      standAt apos.atName
      let (f, first) ← holding [ov] (getMethod ov m pl)
      callWith pos f first (backTo pos (starEach [] X.env)) (backToKw pos (keywordEach [] X.env))) := by rfl) :
    PE X (.Call (.Attribute o m apos) [] [] pos) (tMt C m sp W ta tNil) := by
  refine ⟨fun pins s σ H Q I h => ?_⟩
  refine PySem.W.methodCall_KW (pl := pl) (thn (he.run pins s σ H _ I h) fun u s1 ⟨x, H1, I1, rx, a, dx, fs, ex, ea, l, q⟩ => ?_) ht
  subst ex
  obtain rfl : u = Value.ref a := rx
  refine getmeth_ok I1 ea c hm l ?_
  exact PySem.W.callWith_K0 (first := [.ref a]) I1.kIn hm.kp (run_fc (us := [.ref a]) (ws := []) (vs := [.ref a]) F hr hx I1 (.cons rfl .nil) rfl q)
theorem run_mk {pins : List (Addr × Obj)} {σ : L2.St} {H : Hp} {s : Shared} {Q : VK} {us ws : List Value} {vs : List V} (M : Mk X.K C f) (F : Fc X.prog X.w X.K X.mg X.base k f ks sp) (hr : Rm (k + 1) X.A) (hx : Takes X W)
    (I : Inv X pins σ H s) (r : Vals vs (us ++ ws)) (hl : ws.length = ks.length)
    (h : ∀ x dx, H x = none → H dx = none → dx ≠ x → sp (.ref x :: vs) (upd (upd H dx (.own x)) x (.ins C dx [])) (fun v H2 => v = .non ∧ Q (.ref x) H2) (WE W σ)) :
    wpAny (model X.prog X.w) X.A (call (.ref C) us (ks.zip ws)) (EP X pins σ Q) X.xe s := by
  have hq := h (s.heap.objs.size + 1) s.heap.objs.size (I.hok.fresh (Nat.le_succ _)) (I.hok.fresh (Nat.le_refl _)) (Nat.ne_of_lt (Nat.lt_succ_self _))
  have I2 := Inv.made (C := C) I
  refine wpAny_call (make_map (f := f) I.kIn M.makes M.init (beq_iff_eq.mp M.fn) (codeAny_mono (F _ X.stack _ _ (Value.ref (s.heap.objs.size + 1) :: us) ws (V.ref (s.heap.objs.size + 1) :: vs) _ (WE W σ) (hr.make C us (ks.zip ws))
    (I2.env0.make C us (ks.zip ws)) (.cons rfl r) hl hq) fun r s' hq' => ?_))
  cases r with
  | error e => exact passAt hx σ pins _ _ e s' I2 hq'
  | ok fl =>
    cases fl with
    | ret u =>
      obtain ⟨v, H', I3, rv, ev, q3⟩ := I2.after hq'
      subst ev
      exact ⟨rv, ⟨V.ref (s.heap.objs.size + 1), H', I3, rfl, q3⟩⟩
    | next => exact False.elim hq'
    | brk => exact False.elim hq'
    | cont => exact False.elim hq'
def tMk (C : Addr) (sp : Sp) (W : WX) (t : TA) : TE := fun σ H Q => t σ H fun vs H1 => ∀ x dx, H1 x = none → H1 dx = none → dx ≠ x →
  sp (.ref x :: vs) (upd (upd H1 dx (.own x)) x (.ins C dx [])) (fun v H2 => v = .non ∧ Q (.ref x) H2) (WE W σ)
theorem c_make (M : Mk X.K C f) (F : Fc X.prog X.w X.K X.mg X.base k f [] sp) (hr : Rm (k + 1) X.A) (hm : X.mg x = some (.ref C)) (hx : Takes X W)
    (ha : PA X (e :: es) t) (hg : Gl X x := by rfl) (hdb : (x == ("__debug__" : Str)) = false := by decide) (he : starEach (e :: es) X.env = (false, eval e X.env) :: starEach es X.env := by rfl) (hpl : (backTo pos (starEach es X.env)).any (·.1) = false := by rfl) :
    PE X (.Call (.Name x p) (e :: es) [] pos) (tMk C sp W t) := by
  refine ⟨fun pins s σ H Q I h => ?_⟩
  refine wpAny_Call_Name_kw (ld_glob I hg hm ?_ hdb)
  refine PySem.W.callWith_K (h₀ := X.base) I.ok.mod.kin M.kp (thn (ha.run pos pins s σ H _ I h) fun us s1 ⟨vs, H1, I1, r, q⟩ => ⟨I1.kIn, ?_⟩) he hpl
  exact run_mk (ws := []) M F hr hx I1 (by rw [List.append_nil]; exact r) rfl q
/-- xs is one instance of C; the promise of its method, at it -/
def rOwn (C : Addr) (sp : Sp) (G : V → Prop) : List V → Hp → VK → Prop := fun xs H Q => ∃ a dx fs, xs = [.ref a] ∧ H a = some (.ins C dx fs) ∧ sp [.ref a] H (fun v H' => G v ∧ Q v H') (fun _ _ _ => False)
def isTxt : V → Prop
  | .str _ => True
  | _ => False
end
section
variable {X : Cx} {k : Nat} {f C : Addr} {sp : Sp}
theorem call_strO (hm : Meth X.K C "__str__" f) (F : Fc X.prog X.w X.K X.mg X.base k f [] sp) (hr : Rm (k + 2) X.A) :
    CallR X (.type "str") (rOwn C sp isTxt) := by
  intro pins s σ H xs us Q I r h
  obtain ⟨a, dx, fs, rfl, ha, hsp⟩ := h
  obtain ⟨u, rfl, ru⟩ := vals1 r
  obtain rfl : u = Value.ref a := ru
  obtain ⟨mA, J, _⟩ := ins_get I.hok ha
  obtain ⟨od, J, _⟩ := J.look
  have run := run_fcA (A := X.A.in1.in1) (W := fun _ _ _ _ => False) (us := [.ref a]) (ws := []) (vs := [.ref a]) (σ := σ) F hr.in1.in1 rfl takes0 I (.cons rfl .nil) rfl hsp
  refine PySem.W.kso_call (by have := hr.in1.in1.rm.un; omega) I.kIn J hm.at_ hm.fn (wpAny_mono run (fun v s' hv => ?_) fun _ _ y => y)
  obtain ⟨z, H', I', rz, gz, q⟩ := hv
  cases z with
  | str y =>
    obtain ⟨t, rfl⟩ := rz
    exact ⟨.str y, H', I', ⟨t, rfl⟩, q⟩
  | _ => exact gz.elim
end
structure InsC (K : PySem.W.Frag) (C : Addr) : Prop where
  ha : PySem.W.findIn K (.ref C) "__class__" = some (some (.builtin "object.__class__"))
  hn : PySem.W.specialIn K (.builtin "object.__class__") "__get__" = some (some (.builtin "getset_descriptor.__get__"))
  ht : PySem.W.takesIn K (.builtin "object.__class__") = some true
  hm : PySem.W.mroIn K C (.type "object") = some true
def insB (x : Str) : Fx := fun K => He.eqO (PySem.W.findIn K (.ref (He.ga K x)) "__class__") (some (some (.builtin "object.__class__"))) && (He.eqO (PySem.W.specialIn K (.builtin "object.__class__") "__get__") (some (some (.builtin "getset_descriptor.__get__"))) &&
  (decide (PySem.W.takesIn K (.builtin "object.__class__") = some true) && decide (PySem.W.mroIn K (He.ga K x) (.type "object") = some true)))
theorem insC_of {x : Str} {K : PySem.W.Frag} (h : insB x K = true) : InsC K (He.ga K x) := by
  obtain ⟨h1, h⟩ := He.ba h
  obtain ⟨h2, h⟩ := He.ba h
  obtain ⟨h3, h4⟩ := He.ba h
  exact ⟨He.eqO_ok h1, He.eqO_ok h2, of_decide_eq_true h3, of_decide_eq_true h4⟩
theorem ty_ins {K : PySem.W.Frag} {H : Hp} {a C dx : Addr} {fs : List (Str × V)} (i : InsC K C) (c : Cls K C) (e : H a = some (.ins C dx fs)) : TyX K H (.ref a) (.ref C) := .base (.ins e c i.ha i.hn i.ht i.hm)
def kitBF (y : String) (x : Str) (b : Bool) : Fx := fun K => decide (PySem.W.kitOne K (.type y) (.ref (He.ga K x)) = some b)
def exm1F (x y : Str) (b : Bool) : Fx := fun K => decide (PySem.W.exmOne K (.ref (He.ga K x)) (.ref (He.ga K y)) = some b)
def sameF (x y m : Str) : Fx := fun K => decide (He.ma K (He.ga K x) m = He.ma K (He.ga K y) m)
section
variable {X : Cx} {K : PySem.W.Frag}
theorem op_in_seqK (K : PySem.W.Frag) (h : X.K = K := by rfl) : OpR X (compareOp .In) (rIn K false) := h ▸ op_in_seq
theorem ix_tupK (K : PySem.W.Frag) (h : X.K = K := by rfl) : IxR X (rIxT K) := h ▸ ix_tup
theorem pe_fldK (K : PySem.W.Frag) {e : Expr} {f : Str} {pos : Pos} {ta : TE} (he : PE X e ta) (hb : attributeBase e f X.env (eval e X.env) = eval e X.env) (h : X.K = K := by rfl) : PE X (.Attribute e f pos) (tFld K ta f) := h ▸ pe_fld he hb
end
end L3
set_option Elab.async false
set_option linter.all false
set_option maxRecDepth 100000
set_option maxHeartbeats 4000000
namespace L3
open PySem PySem.Spec PyProof.Rows L2
def okC (c : Nat) : Bool := decide (32 ≤ c) && (decide (c ≤ 126) && (decide (c ≠ 39) && decide (c ≠ 92)))
section
variable {J : It} {n : Nat} {G : Hp → Prop} {Y : Nat → Hp → V → Hp → Prop} {g : TG} {tt : TT} {te : TE} {vs : List Nat} {σ : L2.St} {H1 : Hp} {D : Addr} {Qd : Hp → Prop}
theorem lc_any (w : L2.Walk J n G Y) (I : Nat → List V → Hp → Prop) (hI : ∀ i acc H l, I i acc H → I i acc (upd H D (.lst l))) (i0 : I 0 [] H1) (hn : n ≤ 100000) (hl : ∀ i acc H, I i acc H → acc.length ≤ i) (hG : ∀ i acc H, I i acc H → G H)
    (hs : ∀ (i : Nat) (x : V) (H H' : Hp) (acc : List V) (N : Hp → Prop), i < n → I i acc H → H D = some (.lst acc) → acc.length < sizeLine → Y i H x H' →
      (∀ y H4, H4 D = some (.lst acc) → I (i + 1) (acc ++ [y]) H4 → N (upd H4 D (.lst (acc ++ [y])))) → (∀ H4, H4 D = some (.lst acc) → I (i + 1) acc H4 → N H4) → Turn g tt te vs σ D x H' N)
    (hd : ∀ acc H, I n acc H → H D = some (.lst acc) → Qd H) :
    ∃ W : Nat → Nat → Hp → Prop, (∃ m, W 0 m (upd H1 D (.lst []))) ∧ ∀ i m H, W i m H →
      (J.stop i H ∧ Qd H) ∨ (J.go i H ∧ ∃ Nx : Hp → Prop, (∀ H', Nx H' → ∃ m', m' < m ∧ W (i + 1) m' H') ∧ ∀ x H', J.yld i H x H' → Turn g tt te vs σ D x H' Nx) := by
  refine L2.lc_it w (fun i H => i ≤ n ∧ ∃ acc, I i acc H ∧ H D = some (.lst acc)) ⟨Nat.zero_le _, [], hI _ _ _ _ i0, upd_same⟩ (fun i H _ p => ?_) ?_ (fun H p => ?_)
  · obtain ⟨_, acc, p, _⟩ := p
    exact hG i acc H p
  · rintro i x H H' hi ⟨p1, acc, p2, p3⟩ y
    have := hl _ _ _ p2
    refine hs i x H H' acc _ hi p2 p3 (small_len (by omega)) y (fun y H4 d4 i4 => ⟨hi, _, hI _ _ _ _ i4, upd_same⟩) fun H4 d4 i4 => ⟨hi, _, i4, d4⟩
  · obtain ⟨_, acc, p, d⟩ := p
    exact hd acc H p d
end
end L3
set_option Elab.async false
set_option linter.all false
set_option maxRecDepth 100000
set_option maxHeartbeats 4000000
namespace SrtA
open PySem PyProof.Rows Srt SrtO
section
variable {prog : Program} {w : World} {A : Around} {E : Value → Shared → Prop} {s : Shared}
theorem collect_tup {l : Addr} {vs : List Value} {Q : List Value → Shared → Prop} (hl : s.heap.IsTuple l vs.toArray)
    (h : Q vs { s with heap := (s.heap.push (seqObj "list" #[] 0)).update s.heap.objs.size (Obj.mapSeq (· ++ vs.toArray)) }) (hsz : vs.length ≤ sizeLine) :
    wpAny (model prog w) A (collect (.ref l)) Q E s := by
  obtain ⟨o, ho, hc, n, hd⟩ := id hl
  unfold collect
  refine wpAny_bind (wpAny_runValue (codeAny_builtin entry_proto_collect' ?_))
  show wpAny _ _ (do again (.builtin "list.__iadd__" ⟨[← newList [], .ref l], []⟩)) _ _ s
  refine wpAny_bind (wpAny_newList (wpAny_pure ⟨Code.quiet_builtin _ (by decide +kernel), codeAny_builtin entry_list_iadd' ?_⟩))
  show wpAny _ _ (Builtin.List.listExtendWith (.ref s.heap.objs.size) (.ref l) (.ref s.heap.objs.size)) _ _ { s with heap := s.heap.push (seqObj "list" #[] 0) }
  unfold Builtin.List.listExtendWith
  have ho' : (s.heap.push (seqObj "list" #[] 0)).get? l = some o := Heap.get?_push_of_some _ ho
  refine wpAny_bind (wpAny_typeOf (T := "tuple") ⟨o, ho', hc⟩ ?_)
  have ht : (Value.type "tuple" == Value.type "tuple") = true := by rfl
  rw [if_pos (by rw [ht]; simp)]
  refine wpAny_bind (listItems_at ho' hd ?_)
  refine wpAny_bind (listItems_at (xs := #[]) (n := 0) (Heap.get?_push_size _ rfl) rfl ?_)
  rw [if_neg (by simp)]
  refine wpAny_bind (listUpdate_at (xs := #[]) (n := 0) (Heap.get?_push_size _ rfl) rfl ?_ (Nat.zero_le _) (by show (#[] ++ vs.toArray).size ≤ sizeLine + 1; simp only [Array.size_append, List.size_toArray, List.length_nil]; omega))
  refine wpAny_pure ?_
  show wpAny (model prog w) A (do
      let o ← load s.heap.objs.size
      match o.data with
      | .seq xs _ => pure xs.toList
      | _ => unsupported "internal:collect") Q E { s with heap := (s.heap.push (seqObj "list" #[] 0)).update s.heap.objs.size (Obj.mapSeq (· ++ vs.toArray)) }
  refine wpAny_bind (wpAny_load (get?_update_seq (Heap.get?_push_size _ rfl) _) ?_)
  show wpAny _ _ (pure ((#[] : Array Value) ++ vs.toArray).toList) Q E _
  rw [show ((#[] : Array Value) ++ vs.toArray).toList = vs by simp]
  exact wpAny_pure h
theorem sorted_tup {l : Addr} {vs : List Value} {ltv : Value → Value → Bool} {Q : Value → Shared → Prop} (O : Swo ltv) (hl : s.heap.IsTuple l vs.toArray) (hz : vs.length ≤ sizeLine)
    (hS : 2 ≤ vs.length → ∀ (h₁ : Heap) (a : Addr), h₁.get? a = some (seqObj "list" vs.toArray 0) → (∀ b o, s.heap.get? b = some o → b ≠ a ∧ h₁.get? b = some o) → SortableO prog w A.in1.in1 { s with heap := h₁ } a vs ltv)
    (h : ∀ out : List Value, Srtd ltv out → Stb ltv out vs → Q (.ref (s.heap.objs.size + 1)) { s with heap := sortedAll s.heap vs out.toArray }) :
    wpAny (model prog w) A (call (.builtin "sorted") [.ref l]) Q E s := by
  refine Calls.call_function_entry kind_sorted plain_sorted entry_sorted (args_sorted1 _) ?_
  unfold Builtin.«sorted»
  refine wpAny_bind (m := checkCount "sorted" 1 1 _) (wpAny_pure ?_)
  refine wpAny_bind (collect_tup hl ?_ hz)
  refine wpAny_bind (wpAny_newList ?_ hz)
  have hsz : ((s.heap.push (seqObj "list" #[] 0)).update s.heap.objs.size (Obj.mapSeq (· ++ vs.toArray))).objs.size = s.heap.objs.size + 1 := by
    rw [Heap.size_update, size_push']
  have hoL : (((s.heap.push (seqObj "list" #[] 0)).update s.heap.objs.size (Obj.mapSeq (· ++ vs.toArray))).push (seqObj "list" vs.toArray 0)).get? (s.heap.objs.size + 1) = some (seqObj "list" vs.toArray 0) := by
    rw [← hsz]; exact Heap.get?_push_size _ rfl
  have keep : ∀ b o, s.heap.get? b = some o → b ≠ s.heap.objs.size + 1 ∧ (((s.heap.push (seqObj "list" #[] 0)).update s.heap.objs.size (Obj.mapSeq (· ++ vs.toArray))).push (seqObj "list" vs.toArray 0)).get? b = some o := fun b o q => by
    have hlt : b < s.heap.objs.size := Heap.lt_size q
    refine ⟨Nat.ne_of_lt (Nat.lt_succ_of_lt hlt), Heap.get?_push_of_some _ ?_⟩
    rw [Heap.get?_update_ne _ _ _ _ (Nat.ne_of_lt hlt)]
    exact Heap.get?_push_of_some _ q
  show wpAny _ _ _ _ _ { s with heap := ((s.heap.push (seqObj "list" #[] 0)).update s.heap.objs.size (Obj.mapSeq (· ++ vs.toArray))).push (seqObj "list" vs.toArray 0) }
  rw [hsz]
  refine wpAny_bind (wpAny_holding (wpAny_call_entry slot_list_sort ⟨_, hoL, rfl⟩ entry_list_sort (list_sort_ord O hoL hz (fun h2 => hS h2 _ _ hoL keep) fun out hs hb => ⟨_, rfl, ?_⟩) (args_list_sort _)))
  exact wpAny_pure ⟨_, rfl, h out hs hb⟩
end
end SrtA
namespace L3
open PySem PySem.Spec PyProof.Rows L2
/-- the numbers in order -/
def srt (ns : List Int) : List Int := ns.mergeSort (fun a b => decide (a ≤ b))
theorem srt_perm (ns : List Int) : (srt ns).Perm ns := List.mergeSort_perm ns _
theorem srt_sorted (ns : List Int) : (srt ns).Pairwise (· ≤ ·) := by
  have h := List.pairwise_mergeSort (le := fun a b : Int => decide (a ≤ b)) (fun a b c h1 h2 => decide_eq_true (Int.le_trans (of_decide_eq_true h1) (of_decide_eq_true h2))) (fun a b => by
    rcases Int.le_total a b with h | h
    · rw [decide_eq_true h]; rfl
    · rw [decide_eq_true h, Bool.or_true]) ns
  exact h.imp fun h => of_decide_eq_true h
theorem sorted_uniq : ∀ {xs ys : List Int}, xs.Perm ys → xs.Pairwise (· ≤ ·) → ys.Pairwise (· ≤ ·) → xs = ys
  | [], ys, p, _, _ => p.nil_eq
  | x :: xs, [], p, _, _ => absurd p.symm.nil_eq (by simp)
  | x :: xs, y :: ys, p, hx, hy => by
    have e : x = y := by
      have h1 : x ∈ y :: ys := p.subset List.mem_cons_self
      have h2 : y ∈ x :: xs := p.symm.subset List.mem_cons_self
      have l1 : y ≤ x := by
        rcases List.mem_cons.mp h1 with h | h
        · omega
        · exact (List.pairwise_cons.mp hy).1 x h
      have l2 : x ≤ y := by
        rcases List.mem_cons.mp h2 with h | h
        · omega
        · exact (List.pairwise_cons.mp hx).1 y h
      omega
    subst e
    rw [sorted_uniq (List.perm_cons x |>.mp p) (List.pairwise_cons.mp hx).2 (List.pairwise_cons.mp hy).2]
theorem srt_eq {xs ns : List Int} (p : xs.Perm ns) (h : xs.Pairwise (· ≤ ·)) : xs = srt ns := sorted_uniq (p.trans (srt_perm ns).symm) h (srt_sorted ns)
/-- sorted(xs), xs a list or a tuple of whole numbers -/
def rSortedA (K : PySem.W.Frag) : List V → Hp → VK → Prop := fun vs H Q => ∃ (a : Addr) (ns : List Int), vs = [V.ref a] ∧ (SqL K H a (ns.map V.int) ∨ SqT K H a (ns.map V.int)) ∧ ∀ p : Addr, H p = none → Q (.ref p) (upd H p (.lst ((srt ns).map V.int)))
section
variable {X : Cx}
theorem cr_sortedA (K : PySem.W.Frag) (hK : X.K = K := by rfl) : CallR X (.builtin "sorted") (rSortedA K) := by
  subst hK
  intro pins s σ H vs us Q I r h
  obtain ⟨a, ns, rfl, hs | hs, q⟩ := h
  · exact cr_sortedI pins s σ H [.ref a] us Q I r ⟨a, ns, rfl, hs, fun ns' p h1 h2 hp => by rw [srt_eq h1 h2]; exact q p hp⟩
  · obtain ⟨its, rv, hl, hz⟩ := I.tuple hs
    rw [Vals.ref1 r]
    have hi := rv.ints
    refine SrtA.sorted_tup SrtO.swo_int hl (by rw [← rv.length]; exact hz) (fun h2 h₁ a' _ _ => SrtO.ints_sortable hi h2) fun out h1 h2 => ?_
    obtain ⟨k1, k2, k3⟩ := SrtO.ints_out hi h1 h2
    obtain ⟨ep, he'⟩ := PyProof.Rows.sortedAll_at s.heap its out.toArray
    have hlen : ((out.map SrtO.iv).map V.int).length ≤ sizeLine := by
      rw [List.length_map, k2.length_eq]
      rw [List.length_map] at hz
      exact hz
    have q2 := q (s.heap.objs.size + 1) (I.hok.fresh (Nat.le_succ _))
    rw [← srt_eq k2 k3] at q2
    exact ⟨.ref _, upd H (s.heap.objs.size + 1) (.lst ((out.map SrtO.iv).map V.int)), I.laid (t' := s.toks) (fun _ _ => PyProof.Rows.sortedAll_old) (Nat.le_succ _) ⟨hlen, out, ep, vals_of_ints k1, he'⟩, rfl, q2⟩
end
section
variable {X : Cx} {K : PySem.W.Frag}
def iSeq (K : PySem.W.Frag) (tl : TE) : TI := fun σ H R => iList K tl σ H R ∨ iTup K tl σ H R
theorem pi_seq {tg l : Expr} {tl : TE} (hl : PE X l tl) : PI X tg l (iSeq X.K tl) := ⟨fun pins s σ H R I h => h.elim ((pi_list hl).run pins s σ H R I) ((pi_tup hl).run pins s σ H R I)⟩
theorem pg_tupK (K : PySem.W.Frag) {es : List Expr} {k : Nat} {t : TGs} {n : Nat} {pos : Pos} (hc : X.calm = true) (h : PGs X es t)
    (hn : (assignEach es X.env).length = n := by rfl) (hst : (assignEach es X.env).findIdx? (·.1) = none := by rfl) (hK : X.K = K := by rfl) : PG X (.Tuple es k pos) (gTup K n t) := hK ▸ pg_tup hc h hn hst
theorem walk_zipT {a b : Addr} {xs ys : List V} {n : Nat} (hn : n = min xs.length ys.length) : L2.Walk (RZ.ItzT K a b) n (fun H => SqT K H a xs ∧ SqT K H b ys) (L2.YPair (fun i => xs[i]?) (fun i => ys[i]?)) := by
  subst hn
  refine ⟨fun i _ hi q => ?_, fun _ q => ⟨xs, ys, q.1, q.2, by omega⟩, fun i H v H' _ q y => ?_⟩
  · have h1 : i < xs.length := by omega
    have h2 : i < ys.length := by omega
    exact ⟨xs, ys, xs[i], ys[i], q.1, q.2, by simp [h1], by simp [h2]⟩
  · obtain ⟨T, x, z, h1, h2, h3, h4, h5⟩ := y
    exact ⟨T, x, z, h1, h2, h3, h4 xs q.1, h5 ys q.2⟩
theorem inV_int (d : Int) (ns : List Int) : inV (.int d) (ns.map V.int) = decide (d ∈ ns) := by
  induction ns with
  | nil => rfl
  | cons n r ih =>
    show (eqV (.int n) (.int d) || inV (.int d) (r.map V.int)) = _
    rw [ih]
    have e : eqV (.int n) (.int d) = decide (d = n) := by
      show decide (n = d) = _
      exact decide_eq_decide.mpr ⟨fun h => h.symm, fun h => h.symm⟩
    rw [e]
    by_cases h : d = n
    · simp [h]
    · simp [h]
theorem flat_ints (ns : List Int) : (ns.map V.int).all flatV = true := by
  induction ns with
  | nil => rfl
  | cons n r ih => exact (Bool.and_eq_true_iff.mpr ⟨rfl, ih⟩)
end
theorem isM_nat (n : Nat) : isM (.int (n : Int)) = true := decide_eq_true (Int.natCast_nonneg n)
theorem isM_no {n : Nat} {C : Prop} (h : isM (.int (n : Int)) = false) : C := absurd ((isM_nat n).symm.trans h) Bool.noConfusion
end L3
set_option Elab.async false
set_option linter.all false
set_option maxRecDepth 100000
set_option maxHeartbeats 4000000
namespace L3
open PySem PySem.Spec PyProof.Rows L2
section
variable {P : Program} {w : World} {A : Around} {E : Value → Shared → Prop} {s : Shared}
abbrev newSet (w : World) : Obj := { cls := .type "set", dict := none, data := .set #[] 0 (.fresh 0 0 (!w.params.followText "set-order")) }
end
end L3
set_option Elab.async false
set_option linter.all false
set_option maxRecDepth 100000
set_option maxHeartbeats 4000000
namespace L3
open PySem PySem.Spec PyProof.Rows L2
end L3
set_option Elab.async false
set_option linter.all false
set_option maxRecDepth 100000
set_option maxHeartbeats 4000000
namespace L3
open PySem PySem.Spec PyProof.Rows L2
theorem range_fm {α β : Type} (g : α → Option β) : ∀ l : List α, (List.range l.length).filterMap (fun i => l[i]?.bind g) = l.filterMap g
  | [] => rfl
  | x :: l => by
    rw [List.length_cons, List.range_succ_eq_map, List.filterMap_cons, List.filterMap_map, List.filterMap_cons]
    have ih := range_fm g l
    have e : ((fun i => (x :: l)[i]?.bind g) ∘ Nat.succ) = fun i => l[i]?.bind g := funext fun i => by simp
    rw [e, ih]
    simp
section
variable {J : It} {G : Hp → Prop} {g : TG} {tt : TT} {te : TE} {vs : List Nat} {σ : L2.St} {H1 : Hp} {D : Addr} {Qd : Hp → Prop}
/-- a comprehension over xs (told as values by v), each of which gives gm x, or nothing -/
theorem lc_on {α : Type} (xs : List α) (v : α → V) (w : L2.Walk J (xs.map v).length G (L2.YAt (xs.map v))) (gm : α → Option V) (I : Hp → Prop) (hI : ∀ H l, I H → I (upd H D (.lst l))) (i0 : I H1) (hn : xs.length ≤ 100000) (hG : ∀ H, I H → G H)
    (hs : ∀ (i : Nat) (x : α) (H : Hp) (acc : List V) (N : Hp → Prop), xs[i]? = some x → I H → H D = some (.lst acc) → acc.length < sizeLine →
      (∀ H4, I H4 → H4 D = some (.lst acc) → match gm x with | some y => N (upd H4 D (.lst (acc ++ [y]))) | none => N H4) → Turn g tt te vs σ D (v x) H N)
    (hd : ∀ H, I H → H D = some (.lst (xs.filterMap gm)) → Qd H) :
    ∃ W : Nat → Nat → Hp → Prop, (∃ m, W 0 m (upd H1 D (.lst []))) ∧ ∀ i m H, W i m H →
      (J.stop i H ∧ Qd H) ∨ (J.go i H ∧ ∃ Nx : Hp → Prop, (∀ H', Nx H' → ∃ m', m' < m ∧ W (i + 1) m' H') ∧ ∀ x H', J.yld i H x H' → Turn g tt te vs σ D x H' Nx) := by
  refine lc_fm w (fun i => xs[i]?.bind gm) I hI i0 (by rw [List.length_map]; exact hn) hG (fun i x H H' acc N hi p hD la y k => ?_) fun H p hD => hd H p ?_
  · obtain ⟨rfl, hx⟩ := y
    rw [List.getElem?_map] at hx
    obtain ⟨z, hz, rfl⟩ := Option.map_eq_some_iff.mp hx
    refine hs i z _ acc N hz p hD la fun H4 p4 d4 => ?_
    have := k H4 p4 d4
    simp only [hz, Option.bind_some] at this
    exact this
  · rw [hD, List.length_map, range_fm]
end
section
variable {J : It} {G : Hp → Prop} {g : TG} {tb : TS} {D : Ends} {σ : L2.St} {H : Hp}
/-- a for over xs (told as values by v) -/
theorem for_on {α : Type} (xs : List α) (v : α → V) (w : L2.Walk J (xs.map v).length G (L2.YAt (xs.map v))) (Pv : Nat → L2.St → Hp → Prop) (h0 : Pv 0 σ H) (hG : ∀ i σ H, Pv i σ H → G H)
    (hs : ∀ (i : Nat) (x : α) (σ : L2.St) (H : Hp), xs[i]? = some x → Pv i σ H → g (v x) σ H fun σ2 H2 => tb { D with nx := Pv (i + 1), ct := Pv (i + 1), bk := D.nx } σ2 H2) (hd : ∀ σ H, Pv xs.length σ H → D.nx σ H) :
    ∃ W : Nat → Nat → L2.St → Hp → Prop, (∃ m, W 0 m σ H) ∧ ∀ i m σ H, W i m σ H →
      (J.stop i H ∧ D.nx σ H) ∨ (J.go i H ∧ ∃ N : L2.St → Hp → Prop, (∀ σ' H', N σ' H' → ∃ m', m' < m ∧ W (i + 1) m' σ' H') ∧ ∀ x H', J.yld i H x H' → g x σ H' fun σ2 H2 => tb { D with nx := N, ct := N, bk := D.nx } σ2 H2) := by
  refine L2.for_it w Pv h0 (fun i σ H _ p => hG i σ H p) (fun i x σ H H' hi p y => ?_) (fun σ H p => hd σ H (by rw [List.length_map] at p; exact p))
  obtain ⟨rfl, hx⟩ := y
  rw [List.getElem?_map] at hx
  obtain ⟨z, hz, rfl⟩ := Option.map_eq_some_iff.mp hx
  exact hs i z σ _ hz p
end
theorem take_snoc {α : Type} {l : List α} {i : Nat} {x : α} (h : l[i]? = some x) : l.take (i + 1) = l.take i ++ [x] := by
  rw [List.take_add_one, h]
  rfl
/-- what stands elsewhere than at f stays -/
def Oth (f : Addr) (H H' : Hp) : Prop := ∀ b o, b ≠ f → H b = some o → H' b = some o
theorem Oth.refl (f : Addr) (H : Hp) : Oth f H H := fun _ _ _ e => e
theorem Oth.trans {f : Addr} {H H1 H2 : Hp} (a : Oth f H H1) (b : Oth f H1 H2) : Oth f H H2 := fun c o h e => b c o h (a c o h e)
theorem ex_oth {f : Addr} {H H1 : Hp} (a : Ex H H1) : Oth f H H1 := fun c o _ e => a c o e
theorem Oth.upd {f : Addr} {H H1 : Hp} {o : HO} (a : Oth f H H1) : Oth f H (L2.upd H1 f o) := fun b u nb e => by rw [upd_ne nb]; exact a b u nb e
theorem Oth.ex {f : Addr} {H0 H H1 : Hp} (x : Ex H0 H) (n : H0 f = none) (a : Oth f H H1) : Ex H0 H1 := fun b o e => a b o (ne_of_none e n) (x b o e)
theorem sz_le {n : Nat} (h : n ≤ 100000) : n ≤ sizeLine := Nat.le_of_lt (small_len h)
end L3
set_option Elab.async false
set_option linter.all false
set_option maxRecDepth 100000
set_option maxHeartbeats 4000000
namespace L3
open PySem PySem.Spec PyProof.Rows L2
theorem slA_of {K : PySem.W.Frag} {H : Hp} {a : Addr} {xs : List V} {lo hi : Option Int} {Q : VK} (ha : SqT K H a xs) (q : ∀ p H', Ex H H' → SqT K H' p (cutV xs lo hi) → Q (.ref p) H') : rSlA K (.ref a) lo hi H Q := by
  refine ⟨a, xs, rfl, ha, fun hw => q a H (.refl _) ?_, fun _ p np => q p _ (ex_new np) (sq_tup upd_same)⟩
  have e : cutV xs lo hi = xs := by
    unfold cutV
    rw [hw.1, hw.2]
    simp
  rw [e]
  exact ha
theorem tyOf_mono {K : PySem.W.Frag} {H H' : Hp} {x : V} {t : Value} (e : Ex H H') (h : TyOf K H x t) : TyOf K H' x t := by
  cases h with
  | non => exact .non
  | bl x => exact .bl x
  | int i => exact .int i
  | str x => exact .str x
  | flt x => exact .flt x
  | lst h => exact .lst (e _ _ h)
  | frz h => exact .frz (e _ _ h)
  | tup h => exact .tup (e _ _ h)
  | dK h => exact .dK (e _ _ h)
  | dT h => exact .dT (e _ _ h)
  | ins h cl ha hn htk hm => exact .ins (e _ _ h) cl ha hn htk hm
theorem tyX_mono {K : PySem.W.Frag} {H H' : Hp} {x : V} {t : Value} (e : Ex H H') (h : TyX K H x t) : TyX K H' x t := by
  cases h with
  | base h => exact .base (tyOf_mono e h)
  | byt b => exact .byt b
  | set h => exact .set (e _ _ h)
  | kList h c => exact .kList h c
  | kTuple h c => exact .kTuple h c
  | kDict h c => exact .kDict h c
  | fTuple h => exact .fTuple (e _ _ h)
  | fDict h => exact .fDict (e _ _ h)
theorem Cl.mono {K : PySem.W.Frag} {H H' : Hp} {x : V} (c : Cl K H x) (e : Ex H H') : Cl K H' x := let ⟨t, b, d, h1, h2⟩ := c; ⟨t, b, d, tyX_mono e h1, h2⟩
section
variable {J : It} {n : Nat} {G : Hp → Prop} {g : TG} {tt : TT} {te : TE} {vs : List Nat} {σ : L2.St} {H1 : Hp} {D : Addr} {Qd : Hp → Prop}
/-- a comprehension over pairs of xs and ys -/
theorem lc_zip {α β : Type} (xs : List α) (ys : List β) (v : α → V) (w : β → V) (wk : L2.Walk J n G (L2.YPair (fun i => (xs.map v)[i]?) (fun i => (ys.map w)[i]?))) (hn : n = min xs.length ys.length) (gm : α → β → Option V) (I : Hp → Prop) (hI : ∀ H l, I H → I (upd H D (.lst l))) (i0 : I H1) (hz : xs.length ≤ 100000) (hG : ∀ H, I H → G H)
    (hs : ∀ (i : Nat) (a : α) (b : β) (u : Addr) (H : Hp) (acc : List V) (N : Hp → Prop), xs[i]? = some a → ys[i]? = some b → I H → H u = none → H D = some (.lst acc) → acc.length < sizeLine →
      (∀ H4, I H4 → H4 D = some (.lst acc) → match gm a b with | some y => N (upd H4 D (.lst (acc ++ [y]))) | none => N H4) → Turn g tt te vs σ D (.ref u) (upd H u (.tup [v a, w b])) N)
    (hd : ∀ H, I H → H D = some (.lst ((xs.zip ys).filterMap fun p => gm p.1 p.2)) → Qd H) :
    ∃ W : Nat → Nat → Hp → Prop, (∃ m, W 0 m (upd H1 D (.lst []))) ∧ ∀ i m H, W i m H →
      (J.stop i H ∧ Qd H) ∨ (J.go i H ∧ ∃ Nx : Hp → Prop, (∀ H', Nx H' → ∃ m', m' < m ∧ W (i + 1) m' H') ∧ ∀ x H', J.yld i H x H' → Turn g tt te vs σ D x H' Nx) := by
  refine lc_fm wk (fun i => (xs.zip ys)[i]?.bind fun p => gm p.1 p.2) I hI i0 (by omega) hG (fun i x H H' acc N hi p hD la y k => ?_) fun H p hD => hd H p ?_
  · obtain ⟨u, x1, x2, rfl, nu, rfl, g1, g2⟩ := y
    dsimp only at g1 g2
    rw [List.getElem?_map] at g1 g2
    obtain ⟨a, ha, rfl⟩ := Option.map_eq_some_iff.mp g1
    obtain ⟨b, hb, rfl⟩ := Option.map_eq_some_iff.mp g2
    refine hs i a b u H acc N ha hb p nu hD la fun H4 p4 d4 => ?_
    have := k H4 p4 d4
    have ez : (xs.zip ys)[i]? = some (a, b) := by
      rw [List.getElem?_zip_eq_some]
      exact ⟨ha, hb⟩
    simp only [ez, Option.bind_some] at this
    exact this
  · rw [hD, hn, ← List.length_zip, range_fm]
end
end L3
set_option Elab.async false
set_option linter.all false
set_option maxRecDepth 100000
set_option maxHeartbeats 4000000
namespace L3
open PySem PySem.Spec PyProof.Rows L2 PySem.SeqAt PySem.Calls
end L3
set_option Elab.async false
set_option linter.all false
set_option maxRecDepth 100000
set_option maxHeartbeats 4000000
namespace L3
open PySem PySem.Spec PyProof.Rows L2 PySem.SeqAt PySem.Calls
theorem call_isiK {X : Cx} (K : PySem.W.Frag) (h : X.K = K := by rfl) : CallR X (.builtin "isinstance") (rIsi K) := by
  subst h
  exact call_isi
end L3
set_option Elab.async false
set_option linter.all false
set_option maxRecDepth 100000
set_option maxHeartbeats 4000000
namespace L3
open PySem PySem.Spec PyProof.Rows L2 PySem.SeqAt PySem.Calls
section
variable {X : Cx} {e : Expr} {t1 t2 : TE}
def tOrE (t1 t2 : TE) : TE := fun σ H Q => t1 σ H Q ∨ t2 σ H Q
/-- one reading or the other -/
theorem pe_orE (h1 : PE X e t1) (h2 : PE X e t2) : PE X e (tOrE t1 t2) := ⟨fun pins s σ H Q I h => h.elim (h1.run pins s σ H Q I) (h2.run pins s σ H Q I)⟩
end
/-- a promise that is asked for nothing -/
theorem fc_no {P : Program} {w : World} {K : PySem.W.Frag} {mg : Str → Option Value} {base : Heap} {k : Nat} {f : Addr} {ks : List Str} {sp : Sp} (h : ∀ vs H Q E, ¬ sp vs H Q E) : Fc P w K mg base k f ks sp := fun _ _ _ _ _ _ _ _ _ _ _ _ _ z => absurd z (h _ _ _ _)
end L3
set_option Elab.async false
set_option linter.all false
set_option maxRecDepth 100000
set_option maxHeartbeats 4000000
namespace L3
open PySem PySem.Spec PyProof.Rows L2 PySem.SeqAt PySem.Calls
end L3
set_option Elab.async false
set_option linter.all false
set_option maxRecDepth 100000
set_option maxHeartbeats 4000000
namespace L3
open PySem PySem.Spec PyProof.Rows L2
section
variable {p A B : Prop} [Decidable p]
theorem ifP (h : p) (q : A) : if decide p = true then A else B := by
  rw [decide_eq_true h]
  exact iteT q
theorem ifN (h : ¬ p) (q : B) : if decide p = true then A else B := by
  rw [decide_eq_false h]
  exact iteF q
end
theorem vint_ne {a b : Int} (h : a ≠ b) : ¬ V.int a = V.int b := fun z => by
  injection z with z
  exact h z
theorem sz_big {n : Nat} (h : n ≤ 16000000) : n ≤ sizeLine := Nat.le_trans h (by rw [sizeLine_eq]; decide)
theorem sz_lt {n : Nat} (h : n ≤ 16000000) : n < sizeLine := Nat.lt_of_le_of_lt h (by rw [sizeLine_eq]; decide)
end L3
set_option Elab.async false
set_option linter.all false
set_option maxRecDepth 100000
set_option maxHeartbeats 4000000
namespace L3
open PySem PySem.Spec PyProof.Rows L2
structure FbN (P : Program) (w : World) (K : PySem.W.Frag) (mg : Str → Option Value) (base : Heap) (k : Nat) (f : Addr) (fd : FuncData) (ps : List Str) (sp : Sp) : Prop where
  len : ∀ vs H Q E, sp vs H Q E → vs.length = ps.length
  run : ∀ (A : Around) (outer : List Env) (s : Shared) (H : Hp) (args : Args) (us : List Value) (vs : List V) (Q : VK) (E : XK), Rm k A → Env0 P w K mg base A outer s H → BindsTo s fd args (ps.zip us) → Vals vs us → sp vs H Q E →
    codeAny (model P w) A (.call (.ref f) args) (CR (L2N.CX P w) outer P w H s Q E) s
section
variable {P : Program} {w : World} {K : PySem.W.Frag} {mg : Str → Option Value} {base : Heap} {x qual : Str} {params : Arguments} {body : List Stmt} {scope : Scope} {dvs : List V} {kws : List (Str × V)} {f : Addr} {fd : FuncData} {k : Nat} {ps N : List Str} {sp : Sp}
theorem fbN_of (F : FunD K x qual params body scope dvs kws f fd) (S : FnScope N ps scope) (len : ∀ vs H Q E, sp vs H Q E → vs.length = ps.length)
    (hbody : ∀ (cdv : Value) (A : Around) (outer : List Env) (s : Shared) (H : Hp) (vs : List V) (Q : VK) (E : XK), Rm k (A.deeper (envOfC qual scope s.heap.objs.size f cdv)) → sp vs H Q E →
      ∃ t, PSs (cxOf (L2N.CX P w) P w K mg base N qual scope f cdv A outer s H E) body t ∧ t { nx := fun _ H' => Q .non H', rt := Q } (start N vs) H) : FbN P w K mg base (k + 1) f fd ps sp := by
  obtain ⟨oc, od, dV, kV, doc, pm, an, cdv, ct, osl, rfl, lk, hcd, _, _⟩ := F.ex
  refine ⟨len, fun A outer s H args us vs Q E hr e0 hb r hsp => ?_⟩
  have hl := len _ _ _ _ hsp
  have KX : K.In s.heap := e0.mod.kin.keeps fun b o e => (e0.bs b o e).1
  have lim : s.heap.NoLimit := e0.mod.nolimit.keeps fun b o e => (e0.bs b o e).1
  have hkind : ∀ y ∈ ps.zip us, scope.names.lookup y.1 = some .local ∨ (scope.names.lookup y.1 = some .cell ∧ ((cellsFrom (s.heap.objs.size + 1) scope.names []).lookup y.1).isSome = true) := fun ⟨n, v⟩ hy => by
    rcases S.par n (List.of_mem_zip hy).1 with q | q
    · exact .inl q
    · exact .inr ⟨q, PySem.W.cellsFrom_some _ _ _ (.inl q)⟩
  refine codeAny_call_function hr.rm.depth (KX _ _ lk) rfl S.co S.gen rfl (PySem.W.codeRec_of KX hcd) (hb _ _ _ _ ?_)
  refine wpAny_newFunctionEnv_cells S.kind hkind fun env he s1 x => ?_
  subst he
  refine ⟨lim.keeps x.toInCall.keep, codeAny_func ?_⟩
  obtain ⟨t, ht, hq⟩ := hbody cdv A outer s H vs Q E (hr.deeper _) hsp
  have I : Inv (cxOf (L2N.CX P w) P w K mg base N qual scope f cdv A outer s H E) [] (start N vs) H s1 := inv_start S hr.rm.hd e0 hl r x
  refine wpAny_mono (ht.run [] s1 (start N vs) H _ I hq) (fun fl s' hs => ?_) fun e s' hs => hs
  have fin : ∀ {σ' : L2.St} {H' : Hp} {v : V} {u : Value}, Inv (cxOf (L2N.CX P w) P w K mg base N qual scope f cdv A outer s H E) [] σ' H' s' → RelV v u → Q v H' → CE outer P w H s Q u s' :=
    fun {σ' H' v u} J rv q => ⟨v, H', J.os, J.bare, J.base, J.hok, rv, q⟩
  cases fl with
  | ret u =>
    obtain ⟨v, σ', H', J, rv, q⟩ := hs
    exact fin J rv q
  | next =>
    obtain ⟨σ', H', J, q⟩ := hs
    exact fin (v := V.non) (u := Value.none) J rfl q
  | brk =>
    obtain ⟨_, _, _, q⟩ := hs
    exact False.elim q
  | cont =>
    obtain ⟨_, _, _, q⟩ := hs
    exact False.elim q
theorem FbN.mono {j : Nat} (F : FbN P w K mg base j f fd ps sp) (h : j ≤ k) : FbN P w K mg base k f fd ps sp := ⟨F.len, fun A outer s H args us vs Q E hr => F.run A outer s H args us vs Q E (hr.mono h)⟩
theorem FbN.imp {sp' : Sp} (F : FbN P w K mg base k f fd ps sp) (h : ∀ vs H Q E, sp' vs H Q E → sp vs H Q E) : FbN P w K mg base k f fd ps sp' :=
  ⟨fun vs H Q E q => F.len vs H Q E (h _ _ _ _ q), fun A outer s H args us vs Q E hr he hb hv hs => F.run A outer s H args us vs Q E hr he hb hv (h _ _ _ _ hs)⟩
def FcN (P : Program) (w : World) (K : PySem.W.Frag) (mg : Str → Option Value) (base : Heap) (k : Nat) (f : Addr) (ks : List Str) (sp : Sp) : Prop :=
  ∀ (A : Around) (outer : List Env) (s : Shared) (H : Hp) (us ws : List Value) (vs : List V) (Q : VK) (E : XK), Rm k A → Env0 P w K mg base A outer s H → Vals vs (us ++ ws) → ws.length = ks.length → sp vs H Q E →
    codeAny (model P w) A (.call (.ref f) ⟨us, ks.zip ws⟩) (CR (L2N.CX P w) outer P w H s Q E) s
theorem FcN.mono {j : Nat} {ks : List Str} (F : FcN P w K mg base j f ks sp) (h : j ≤ k) : FcN P w K mg base k f ks sp := fun A outer s H us ws vs Q E hr => F A outer s H us ws vs Q E (hr.mono h)
theorem FcN.imp {sp' : Sp} {ks : List Str} (F : FcN P w K mg base k f ks sp) (h : ∀ vs H Q E, sp' vs H Q E → sp vs H Q E) : FcN P w K mg base k f ks sp' :=
  fun A outer s H us ws vs Q E hr he hv hl hs => F A outer s H us ws vs Q E hr he hv hl (h _ _ _ _ hs)
/-- every parameter is given by place -/
theorem FbN.all (F : FbN P w K mg base k f fd ps sp) (hb : Binds K fd ps []) : FcN P w K mg base k f [] sp := fun A outer s H us ws vs Q E hr e0 r hl h => by
  cases ws with
  | cons w ws => cases hl
  | nil =>
    rw [List.append_nil] at r
    have KX : K.In s.heap := e0.mod.kin.keeps fun b o e => (e0.bs b o e).1
    have l2 : us.length = ps.length := by rw [← r.length]; exact F.len _ _ _ _ h
    have b := hb s us KX (by rw [List.append_nil]; exact l2)
    rw [List.append_nil] at b
    exact F.run A outer s H ⟨us, []⟩ us vs Q E hr e0 b r h
/-- all parameters given, some by name, no defaults -/
theorem FbN.names (D : FunD K x qual params body scope [] kws f fd) (F : FbN P w K mg base k f fd ps sp) (n : Nat) (ks : List Str) (g : {α : Type} → List α → List α)
    (hrel : ∀ {vs : List V} {us : List Value}, Vals vs us → Vals (g vs) (g us))
    (h : ∀ (kV doc pm : Value) (an : Option Addr) (cdv ct : Value) (us ws : List Value), us.length = n → ws.length = ks.length →
      bindArgs (PySem.W.fnOf x qual params body scope .none kV doc pm an cdv ct) ⟨us, ks.zip ws⟩ = pure (ps.zip (g (us ++ ws)))) :
    FcN P w K mg base k f ks (fun vs H Q E => vs.length = n + ks.length ∧ sp (g vs) H Q E) := by
  obtain ⟨oc, od, dV, kV, doc, pm, an, cdv, ct, osl, rfl, lk, hcd, hD, hK⟩ := D.ex
  rcases hD with ⟨_, rfl⟩ | ⟨e, _⟩
  · intro A outer s H us ws vs Q E hr e0 r hl hsp
    have l2 : us.length = n := by
      have e := r.length
      rw [hsp.1, List.length_append, hl] at e
      omega
    exact F.run A outer s H ⟨us, ks.zip ws⟩ (g (us ++ ws)) (g vs) Q E hr e0 (.of_eq (h kV doc pm an cdv ct us ws l2 hl)) (hrel r) hsp.2
  · exact absurd rfl e
end
theorem cxN {P : Program} {w : World} {outer : List Env} {H : Hp} {s : Shared} {E : XK} {u : Value} {s' : Shared} (h : L2N.CX P w outer H s E u s') : L2.CX P w outer H s E u s' := by
  obtain ⟨a, B, H', cls, d, e, fl, r⟩ := h
  exact ⟨a, B, H', cls, d, e, L2H.flyingZ_imp (fun o z => z.zc) fl, r⟩
theorem FcN.fc {P : Program} {w : World} {K : PySem.W.Frag} {mg : Str → Option Value} {base : Heap} {k : Nat} {f : Addr} {ks : List Str} {sp : Sp} (F : FcN P w K mg base k f ks sp) : Fc P w K mg base k f ks sp :=
  fun A outer s H us ws vs Q E hr e0 r hl h => codeAny_mono (F A outer s H us ws vs Q E hr e0 r hl h) fun r s' hq => by
    cases r with
    | error e => exact cxN hq
    | ok fl =>
      cases fl with
      | ret u => exact hq
      | next => exact hq
      | brk => exact hq
      | cont => exact hq
end L3
namespace L3
open PySem PySem.Spec PyProof.Rows L2 L2H HotX
/-- what the clause 'except x as n: raise e from n' wishes of an exception of the body -/
def wFrom (X : Cx) (c : Value) (i : Nat) (t : L2.St → Hp → XK → Prop) (Wout : WX) : WX := fun cls d σ H =>
  PySem.W.exmOne X.K cls c = some true ∧ Raises X cls ∧ ∀ a, H a = none → t (σ.set i (some (.ref a))) H fun cls' d' H' => Wout cls' d' ((σ.set i (some (.ref a))).set i none) H'
end L3
set_option Elab.async false
set_option linter.all false
set_option maxRecDepth 100000
set_option maxHeartbeats 4000000
namespace L3
open PySem PySem.Spec PyProof.Rows L2
def wFst (K : PySem.W.Frag) (c : Value) (i : Nat) (ts : Addr → Value → Option Addr → TS) (D : Ends) : WX := fun cls d σ H =>
  PySem.W.exmOne K cls c = some true ∧ ∀ a, H a = none → ts a cls d { nx := fun σ' H' => D.nx (σ'.set i none) H', rt := D.rt, bk := fun σ' H' => D.bk (σ'.set i none) H', ct := fun σ' H' => D.ct (σ'.set i none) H' } (σ.set i (some (.ref a))) H
def tTryFst (K : PySem.W.Frag) (c : Value) (i : Nat) (ts : Addr → Value → Option Addr → TS) (tb : WX → TS) : TS := fun D σ H => tb (wFst K c i ts D) D σ H
section
variable {X : Cx} {x n : Str} {c : Value} {i : Nat} {body suite : List Stmt} {b₀ : Stmt} {np pos pos' : Pos} {tb : WX → TS} {ts : Addr → Value → Option Addr → TS} {hds : List ExceptHandler}
theorem ps_try_fst (hs : X.stack = X.env :: X.outer) (hf : X.env.frame = some X.env.locals) (hN : X.N.Nodup) (hi : X.N[i]? = some n) (hln : X.env.kindOf n = some .local) (hc : Names X x c)
    (hb : ∀ (W : WX) (pn : List (Addr × Obj)) (xe : Value → Shared → Prop), Takes (X.tr pn xe) W → PassesOwn (model X.prog X.w) X.A X.env xe → PSs (X.tr pn xe) body (tb W))
    (hsu : ∀ (a : Addr) (oe : Obj) (cls : Value) (d : Option Addr) (pn : List (Addr × Obj)), Zc cls d oe → (∃ vs, oe.data = .fields vs) → PSs (X.suite a ((a, oe) :: pn)) (b₀ :: suite) (ts a cls d)) :
    PS X (.Try body (.ExceptHandler (some (.Name x np)) (some n) (b₀ :: suite) pos' :: hds) [] [] pos) (tTryFst X.K c i ts tb) := by
  refine ⟨fun pins s σ H D I h => ?_⟩
  have ok := I.ok
  have hfr : X.A.frames = some (X.env :: X.outer) := by rw [ok.frames, hs]
  refine wpAny_Try_except ?_
  refine wpAny_mono ((hb (wFst X.K c i ts D) (X.pn ++ pins) (fun e s₁ => wpAny (model X.prog X.w) X.A (noteFrame e X.env) (fun _ s₂ => wpAny (model X.prog X.w) X.A (setFlight e none) (fun _ s₃ =>
    wpAny (model X.prog X.w) X.A (handleBy e X.env (.ExceptHandler (some (.Name x np)) (some n) (b₀ :: suite) pos' :: hds)) (SP X pins D) X.xe s₃) X.xe s₂) X.xe s₁) (fun u s' xx => ?_) PassesOwn.looking).run [] s σ H D (I.toTry _) h) (fun f s1 hsp => ?_) (fun e s1 he => he)
  · obtain ⟨a, B, sI, pins', σ', H', cls, d, rfl, J', nb, up, sky, na, os, ag, hb1, hyes⟩ := xx
    have J : Inv X pins σ' H' sI := J'.ofTry ok
    have sky' : Sky B (X.env :: X.outer) a (Zc cls d) X.env.locals s'.heap := by rw [← hs]; exact sky
    show wpAny (model X.prog X.w) X.A (noteFrame (.ref a) X.env) _ _ _
    refine Sky.land Zc.steady hfr hf sky' fun h3 fl3 up3 => ?_
    have J3 : Inv X pins σ' H' { s' with heap := h3 } := J.landed nb fl3.1 (up.trans up3) os ag
    obtain ⟨oe3, vs3, he3, hz3, hd3⟩ := fl3.there
    have nfr : a ∉ frs (X.env :: X.outer) := fun hm => by
      obtain ⟨_, o', e', hnf⟩ := fl3.2.2.1.mem hm
      rw [he3] at e'
      cases e'
      exact hnf _ hd3
    have nL : a ≠ X.env.locals := fun z => nfr (List.mem_filterMap.mpr ⟨X.env, List.mem_cons_self, by rw [hf, z]⟩)
    have nF : a ∉ X.fs := fun hm => by
      obtain ⟨e, he, q⟩ := List.mem_filterMap.mp hm
      exact nfr (List.mem_filterMap.mpr ⟨e, List.mem_cons_of_mem _ he, q⟩)
    have S3 := J3.suite he3 hd3 na nL nF
    refine wpAny_handleBy_cons (codeAny_handlers_test ?_) (by intro q; cases q)
    have LT : PySem.W.Looks (model X.prog X.w) h3 (typeOf (.ref a)) cls := fun A Q E s k q => wpAny_typeOf_ref (k _ _ he3) (by rw [hz3.1]; exact q)
    have LM := PySem.W.exm_one (M := model X.prog X.w) (J3.kIn) LT hb1
    have test : ∀ {Q : Value → Shared → Prop} {E : Value → Shared → Prop}, Q c { s' with heap := h3 } → wpAny (model X.prog X.w) (X.A.mark (some (.ref a))) (eval (.Name x np) X.env) Q E { s' with heap := h3 } := fun {Q E} q => by
      obtain ⟨hg, hdbg, hm | ⟨hm, hv, hnn⟩⟩ := hc
      · exact ld_glob (X := X.suite a ((a, oe3) :: (X.pn ++ pins))) S3 hg hm q hdbg
      · exact ld_blt (X := X.suite a ((a, oe3) :: (X.pn ++ pins))) S3 hg hm hv q hnn hdbg
    refine test (LM.here ?_)
    refine codeAny_handlers_suite_as ?_
    refine HandSPX.lands_againZ fl3 fun h4 fl4 up4 => ?_
    have J4 : Inv X pins σ' H' { s' with heap := h4 } := J.landed nb fl4.1 ((up.trans up3).trans up4) os ag
    obtain ⟨oe4, vs4, he4, hz4, hd4⟩ := fl4.there
    have S4 := J4.suite he4 hd4 na nL nF
    refine store_ok (X := X.suite a ((a, oe4) :: (X.pn ++ pins))) (v := .ref a) S4 hN hi (.inl hln) rfl (fun s5 S5 => ?_) (.inr hln)
    refine wpAny_mono ((hsu a oe4 cls d (X.pn ++ pins) hz4 ⟨_, hd4⟩).run [] s5 _ H' _ S5 (hyes a na)) (fun f s6 hsp => ?_) (fun _ _ z => False.elim z)
    have end_ : ∀ {σ6 : L2.St} {H6 : Hp} {Q : Shared → Prop}, Inv (X.suite a ((a, oe4) :: (X.pn ++ pins))) [] σ6 H6 s6 → (∀ s7, Inv X pins (σ6.set i none) H6 s7 → Q s7) →
        wpAny (model X.prog X.w) X.A (do bindName X.env n .none; unbindBehindTheSuite X.env n pos') (fun _ s7 => Q s7) X.xe s6 := fun {σ6 H6 Q} S6 hq => gone_ok (S6.unsuite ok) hN hi hln hq
    cases f with
    | next =>
      obtain ⟨σ6, H6, S6, q6⟩ := hsp
      exact end_ S6 fun s7 J7 => ⟨_, _, J7, q6⟩
    | brk =>
      obtain ⟨σ6, H6, S6, q6⟩ := hsp
      exact end_ S6 fun s7 J7 => ⟨_, _, J7, q6⟩
    | cont =>
      obtain ⟨σ6, H6, S6, q6⟩ := hsp
      exact end_ S6 fun s7 J7 => ⟨_, _, J7, q6⟩
    | ret u =>
      obtain ⟨v6, σ6, H6, S6, r6, q6⟩ := hsp
      exact end_ S6 fun s7 J7 => ⟨_, _, _, J7, r6, q6⟩
  · cases f with
    | next =>
      obtain ⟨σ6, H6, S6, q6⟩ := hsp
      exact wpAny_execs_nil ⟨_, _, S6.ofTry ok, q6⟩
    | brk =>
      obtain ⟨σ6, H6, S6, q6⟩ := hsp
      exact ⟨_, _, S6.ofTry ok, q6⟩
    | cont =>
      obtain ⟨σ6, H6, S6, q6⟩ := hsp
      exact ⟨_, _, S6.ofTry ok, q6⟩
    | ret u =>
      obtain ⟨v6, σ6, H6, S6, r6, q6⟩ := hsp
      exact ⟨_, _, _, S6.ofTry ok, r6, q6⟩
end
/-- o.m(e, ..) of a built-in type, the written part named -/
theorem pe_bmK {X : Cx} (K : PySem.W.Frag) {T id : String} {name : Str} {r : V → List V → Hp → VK → Prop} {o e : Expr} {es : List Expr} {to : TE} {t : TA} {apos cpos : Pos} (pa : PlainAttrs T) (slot : Slot T name id) (hty : typeOf (.builtin id) = pure (.type "method_descriptor")) (hm : MtR X id r) (ho : PE X o to) (ha : PA X (e :: es) t)
    (hK : X.K = K := by rfl)
    (hbase : attributeBase o name X.env (eval o X.env) = eval o X.env := by rfl)
    (hfew : ((backTo cpos (starEach (e :: es) X.env)).all (fun x => !x.1) && (backToKw cpos (keywordEach [] X.env)).all (fun x => x.1.isSome)
      && decide ((e :: es).length + ([] : List Keyword).length + (if ([] : List Keyword).isEmpty then 0 else 1) < 30)) = true := by rfl)
    (hline : (apos.endLine == cpos.line) = true := by rfl) (hs : starEach (e :: es) X.env = (false, eval e X.env) :: starEach es X.env := by rfl) (hplain : (backTo cpos (starEach es X.env)).any (·.1) = false := by rfl) :
    PE X (.Call (.Attribute o name apos) (e :: es) [] cpos) (tBM K T r to t) := hK ▸ pe_bm pa slot hty hm ho ha hbase hfew hline hs hplain
end L3
set_option Elab.async false
set_option linter.all false
set_option maxRecDepth 100000
set_option maxHeartbeats 4000000
namespace L3
open PySem PySem.Spec PyProof.Rows L2
def Stays (H H' : Hp) (x : V) : Prop := ∀ a o, x = .ref a → H a = some o → H' a = some o
theorem tyOf_at {K : PySem.W.Frag} {H H' : Hp} {x : V} {t : Value} (e : Stays H H' x) (h : TyOf K H x t) : TyOf K H' x t := by
  cases h with
  | non => exact .non
  | bl x => exact .bl x
  | int i => exact .int i
  | str x => exact .str x
  | flt x => exact .flt x
  | lst h => exact .lst (e _ _ rfl h)
  | frz h => exact .frz (e _ _ rfl h)
  | tup h => exact .tup (e _ _ rfl h)
  | dK h => exact .dK (e _ _ rfl h)
  | dT h => exact .dT (e _ _ rfl h)
  | ins h cl ha hn htk hm => exact .ins (e _ _ rfl h) cl ha hn htk hm
theorem tyX_at {K : PySem.W.Frag} {H H' : Hp} {x : V} {t : Value} (e : Stays H H' x) (h : TyX K H x t) : TyX K H' x t := by
  cases h with
  | base h => exact .base (tyOf_at e h)
  | byt b => exact .byt b
  | set h => exact .set (e _ _ rfl h)
  | kList h c => exact .kList h c
  | kTuple h c => exact .kTuple h c
  | kDict h c => exact .kDict h c
  | fTuple h => exact .fTuple (e _ _ rfl h)
  | fDict h => exact .fDict (e _ _ rfl h)
theorem Cl.at {K : PySem.W.Frag} {H H' : Hp} {x : V} (c : Cl K H x) (e : Stays H H' x) : Cl K H' x := let ⟨t, b, d, h1, h2⟩ := c; ⟨t, b, d, tyX_at e h1, h2⟩
end L3
set_option Elab.async false
set_option linter.all false
set_option maxRecDepth 100000
set_option maxHeartbeats 4000000
namespace L3
open PySem PySem.Spec PyProof.Rows L2
def obsA (as : List Addr) (xf : List Fx) (fn : List He.DefD) (g : Addr → Option Obj) : He.AlD := obsX xf fn (He.frG g as)
def hookA (as : List Addr) (xf : List Fx) (fn : List He.DefD) : PySem.W.Hook where
  α := He.AlD
  obs := fun s => obsA as xf fn s.heap.get?
  val := fun _ => He.valD fn
  says := fun _ h => ∃ K : PySem.W.Frag, K.In h ∧ SaysX xf fn K
  of := fun _ _ e => ⟨_, He.frG_in, e⟩
  keeps := fun _ _ _ ⟨K, hK, c⟩ k => ⟨K, PySem.W.Frag.In.keeps hK k, c⟩
theorem obsA_eq {as : List Addr} {xf : List Fx} {fn : List He.DefD} {g : Addr → Option Obj} {s : Shared} (h : ∀ a, g a = s.heap.get? a) : obsA as xf fn g = (hookA as xf fn).obs s := by
  have e : g = s.heap.get? := funext h
  rw [e] <;> rfl
end L3
noncomputable section
namespace HandSHeadRun
open PySem PySem.W PySem.Calls PyProof.Rows
abbrev endR (r : OpenRow) (M : Nat) (w : World) (os : OsState) : Option SharedT := endF (stepQ (denQ tabQ) r.prog w) M r.prog w os
/-- what the machine's own looks say behind the run -/
def RunA (r : OpenRow) (q : Program) (M : Nat) (loose : List PySem.Str) (w : World) : Prop :=
  ∀ os : OsState, (endR r M w os).map (fun s => (looksF r.prog (boot_heap w.params) s.abs, seenQ q loose (importedModules r.prog.main.body) (fun s => xlAt q [] s && recOk r.toRowW.records s) s.abs)) = some (true, openGood q loose)
/-- some facts of what stands behind the run -/
def RunB (r : OpenRow) (M : Nat) (fs : SharedT → Bool) (w : World) : Prop := ∀ os : OsState, (endR r M w os).map fs = some true
/-- the defs' own values -/
def RunC (r : OpenRow) (H : Hook) (ob : SharedT → H.α) (M : Nat) (w : World) : Prop := ∀ os : OsState, (endR r M w os).map ob = some (H.val w)
theorem runEq_of {r : OpenRow} {q : Program} {H : Hook} {ob : SharedT → H.α} {M : Nat} {loose : List PySem.Str} {w : World} (a : RunA r q M loose w) (c : RunC r H ob M w) : RunEq r q H ob M loose w := fun os => by
  have h1 := a os
  have h2 := c os
  show (endR r M w os).map _ = _
  cases e : endR r M w os with
  | none =>
    rw [e] at h1
    cases h1
  | some s =>
    rw [e] at h1 h2
    have g1 := Option.some.inj h1
    have g2 := Option.some.inj h2
    show some _ = some _
    rw [← g2]
    have e1 := congrArg Prod.fst g1
    have e2 := congrArg Prod.snd g1
    dsimp only at e1 e2 ⊢
    rw [e1, e2]
end HandSHeadRun
end
namespace L3
open PySem PySem.Spec PyProof.Rows L2 HandSHeadRun
/-- the facts in three parts: two of the Bools, one of the defs -/
theorem runC_of {r : PySem.W.OpenRow} {as : List Addr} {xf xf1 xf2 : List Fx} {fn : List He.DefD} {M : Nat} {w : World} (e : xf = xf1 ++ xf2)
    (a : RunB r M (fun s => xf1.all fun p => p (He.frG (getT s) as)) w) (b : RunB r M (fun s => xf2.all fun p => p (He.frG (getT s) as)) w)
    (c : ∀ os : OsState, (endR r M w os).map (fun s => (fn.all fun d => d.ok (He.frG (getT s) as), fn.map fun d => He.fnW (He.frG (getT s) as) d.at_)) = some (true, fn.map He.DefD.val)) :
    RunC r (hookA as xf fn) (fun s => obsA as xf fn (getT s)) M w := fun os => by
  have h1 := a os
  have h2 := b os
  have h3 := c os
  cases e2 : endR r M w os with
  | none =>
    rw [e2] at h1
    cases h1
  | some s =>
    rw [e2] at h1 h2 h3
    have g1 : (xf1.all fun p => p (He.frG (getT s) as)) = true := Option.some.inj h1
    have g2 : (xf2.all fun p => p (He.frG (getT s) as)) = true := Option.some.inj h2
    have g3 := Option.some.inj h3
    have e3 := congrArg Prod.fst g3
    have e4 := congrArg Prod.snd g3
    dsimp only at e3 e4
    show some (obsA as xf fn (getT s)) = some (He.valD fn)
    unfold obsA obsX He.valD
    rw [e, List.all_append, g1, g2, e3, e4]
    rfl
end L3
set_option Elab.async false
set_option linter.all false
set_option maxRecDepth 100000
set_option maxHeartbeats 4000000
namespace L3
open PySem PySem.Spec PyProof.Rows L2
end L3
namespace L3
open PySem PySem.Spec PyProof.Rows L2
/-- at a a list or a tuple of these -/
def SqS (K : PySem.W.Frag) (H : Hp) (a : Addr) (xs : List V) : Prop := SqL K H a xs ∨ SqT K H a xs
theorem SqS.at {K : PySem.W.Frag} {H H' : Hp} {a : Addr} {xs : List V} (h : SqS K H a xs) (e : Stays H H' (.ref a)) : SqS K H' a xs := by
  rcases h with ((h | ⟨o, h⟩) | h) | ((h | ⟨o, h⟩) | h)
  · exact .inl (.inl (.inl (e _ _ rfl h)))
  · exact .inl (.inl (.inr ⟨o, e _ _ rfl h⟩))
  · exact .inl (.inr h)
  · exact .inr (.inl (.inl (e _ _ rfl h)))
  · exact .inr (.inl (.inr ⟨o, e _ _ rfl h⟩))
  · exact .inr (.inr h)
theorem stays_ex {H H' : Hp} {x : V} (e : Ex H H') : Stays H H' x := fun a o _ h => e a o h
theorem SqS.mono {K : PySem.W.Frag} {H H' : Hp} {a : Addr} {xs : List V} (h : SqS K H a xs) (e : Ex H H') : SqS K H' a xs := h.at (stays_ex e)
theorem sqL_at {K : PySem.W.Frag} {H H' : Hp} {a : Addr} {xs : List V} (h : SqL K H a xs) (e : Stays H H' (.ref a)) : SqL K H' a xs := by
  rcases h with (h | ⟨o, h⟩) | h
  · exact .inl (.inl (e _ _ rfl h))
  · exact .inl (.inr ⟨o, e _ _ rfl h⟩)
  · exact .inr h
theorem sqT_at {K : PySem.W.Frag} {H H' : Hp} {a : Addr} {xs : List V} (h : SqT K H a xs) (e : Stays H H' (.ref a)) : SqT K H' a xs := by
  rcases h with (h | ⟨o, h⟩) | h
  · exact .inl (.inl (e _ _ rfl h))
  · exact .inl (.inr ⟨o, e _ _ rfl h⟩)
  · exact .inr h
/-- what is a list or a tuple, walked: J stands for either walk, G for what it asks of a heap -/
def iSeqB (K : PySem.W.Frag) (tl : TE) : TI := fun σ H R => tl σ H fun v H1 => ∃ a xs, v = .ref a ∧ SqS K H1 a xs ∧ ∀ J G, L2.Walk J xs.length G (L2.YAt xs) → (∀ H', Stays H1 H' (.ref a) → G H') → R J H1
theorem pi_seqB {X : Cx} {tg l : Expr} {tl : TE} (hl : PE X l tl) (K : PySem.W.Frag) (hK : X.K = K := by rfl) : PI X tg l (iSeqB K tl) := by
  subst hK
  refine ⟨fun pins s σ H R I h => ?_⟩
  refine thn (hl.run pins s σ H _ I h) fun v s1 ⟨x, H1, I1, r1, a, xs, e, hq, q⟩ => ?_
  subst e
  cases r1
  rcases hq with hq | hq
  · have q1 := q (Itl X.K a) (fun H => SqL X.K H a xs) L2.walk_list fun H' e => sqL_at hq e
    obtain ⟨its, rv, p, hz⟩ := I1.list hq
    refine wpAny_pyIter_list p.isList ?_
    refine ⟨s1.heap.objs.size, [s1.heap.objs.size], _, _, H1, rfl, I1.kept (t' := s1.toks) fun b o e => Heap.get?_push_of_some _ e, turn_list a _, ⟨_, Heap.get?_push_size _ rfl, rfl, rfl⟩, fun b hb => ?_, q1⟩
    have e : b = s1.heap.objs.size := by simpa using hb
    subst e
    exact I1.fpOk (Nat.le_refl _) (I1.hok.fresh (Nat.le_refl _))
  · have q1 := q (Itt X.K a) (fun H => SqT X.K H a xs) L2.walk_tup fun H' e => sqT_at hq e
    obtain ⟨its, rv, p, hz⟩ := I1.tuple hq
    refine wpAny_pyIter_tuple (show s1.heap.IsTuple a its.toArray from p) ?_
    refine ⟨s1.heap.objs.size, [s1.heap.objs.size], _, _, H1, rfl, I1.kept (t' := s1.toks) fun b o e => Heap.get?_push_of_some _ e, turn_tuple a _, ⟨_, Heap.get?_push_size _ rfl, rfl, rfl⟩, fun b hb => ?_, q1⟩
    have e : b = s1.heap.objs.size := by simpa using hb
    subst e
    exact I1.fpOk (Nat.le_refl _) (I1.hok.fresh (Nat.le_refl _))
end L3
set_option Elab.async false
set_option linter.all false
set_option maxRecDepth 100000
set_option maxHeartbeats 4000000
namespace L3
open PySem PySem.Spec PyProof.Rows L2
end L3
set_option Elab.async false
set_option linter.all false
set_option maxRecDepth 100000
set_option maxHeartbeats 4000000
namespace L3
open PySem PySem.Spec PySem.Calls PyProof.Rows
open L2
abbrev SpP := Addr × Obj → Sp
structure FbP (P : Program) (w : World) (K : PySem.W.Frag) (mg : Str → Option Value) (base : Heap) (k : Nat) (f : Addr) (fd : FuncData) (ps : List Str) (sp : SpP) : Prop where
  len : ∀ p vs H Q E, sp p vs H Q E → vs.length = ps.length
  run : ∀ (A : Around) (outer : List Env) (s : Shared) (H : Hp) (args : Args) (us : List Value) (vs : List V) (Q : VK) (E : XK) (p : Addr × Obj), L2H.RoomH k A → L2H.PinOk outer H s p → Env0 P w K mg base A outer s H → BindsTo s fd args (ps.zip us) → Vals vs us → sp p vs H Q E →
    codeAny (model P w) A (.call (.ref f) args) (CR (L2.CX P w) outer P w H s Q E) s
section
variable {P : Program} {w : World} {K : PySem.W.Frag} {mg : Str → Option Value} {base : Heap} {x qual : Str} {params : Arguments} {body : List Stmt} {scope : Scope} {dvs : List V} {kws : List (Str × V)} {f : Addr} {fd : FuncData} {k : Nat} {ps N : List Str} {sp : SpP}
/-- such a def called with all parameters by place -/
def FcP (P : Program) (w : World) (K : PySem.W.Frag) (mg : Str → Option Value) (base : Heap) (k : Nat) (f : Addr) (sp : SpP) : Prop :=
  ∀ (A : Around) (outer : List Env) (s : Shared) (H : Hp) (us : List Value) (vs : List V) (Q : VK) (E : XK) (p : Addr × Obj), L2H.RoomH k A → L2H.PinOk outer H s p → Env0 P w K mg base A outer s H → Vals vs us → sp p vs H Q E →
    codeAny (model P w) A (.call (.ref f) ⟨us, []⟩) (CR (L2.CX P w) outer P w H s Q E) s
theorem FcP.mono {j : Nat} (F : FcP P w K mg base j f sp) (h : j ≤ k) : FcP P w K mg base k f sp := fun A outer s H us vs Q E p hr => F A outer s H us vs Q E p (hr.mono h)
theorem FbP.all (F : FbP P w K mg base k f fd ps sp) (hb : Binds K fd ps []) : FcP P w K mg base k f sp := fun A outer s H us vs Q E p hr hp e0 r h => by
  have KX : K.In s.heap := e0.mod.kin.keeps fun b o e => (e0.bs b o e).1
  have l2 : us.length = ps.length := by rw [← r.length]; exact F.len _ _ _ _ _ h
  have b := hb s us KX (by rw [List.append_nil]; exact l2)
  rw [List.append_nil] at b
  exact F.run A outer s H ⟨us, []⟩ us vs Q E p hr hp e0 b r h
end
end L3
set_option Elab.async false
set_option linter.all false
set_option maxRecDepth 100000
set_option maxHeartbeats 4000000
namespace L3
open PySem PySem.Spec PyProof.Rows L2 PySem.SeqAt PySem.Calls
end L3
set_option Elab.async false
set_option linter.all false
set_option maxRecDepth 100000
set_option maxHeartbeats 4000000
namespace L3
open PySem PySem.Spec PyProof.Rows L2 PySem.SeqAt PySem.Calls
end L3
set_option Elab.async false
set_option linter.all false
set_option maxRecDepth 100000
set_option maxHeartbeats 4000000
namespace L3
open PySem PySem.Spec PyProof.Rows L2 PySem.SeqAt PySem.Calls
end L3
set_option Elab.async false
set_option linter.all false
set_option maxRecDepth 100000
set_option maxHeartbeats 4000000
namespace L3
open PySem PySem.Spec PyProof.Rows L2 PySem.SeqAt PySem.Calls
end L3
set_option Elab.async false
set_option linter.all false
set_option maxRecDepth 100000
set_option maxHeartbeats 4000000
namespace L3
open PySem PySem.Spec PyProof.Rows L2 PySem.SeqAt PySem.Calls
end L3
set_option Elab.async false
set_option linter.all false
set_option maxRecDepth 100000
set_option maxHeartbeats 4000000
namespace L3
open PySem PySem.Spec PyProof.Rows L2 PySem.SeqAt PySem.Calls
end L3
set_option Elab.async false
set_option linter.all false
set_option maxRecDepth 100000
set_option maxHeartbeats 4000000
namespace L3
open PySem PySem.Spec PyProof.Rows L2
/-- the texts of a row, each once, behind those of acc -/
def dst : List Str → List Str → List Str
  | acc, [] => acc
  | acc, x :: r => dst (if x ∈ acc then acc else x :: acc) r
theorem dst_len : ∀ (xs acc : List Str), (dst acc xs).length ≤ acc.length + xs.length
  | [], acc => Nat.le_refl _
  | x :: r, acc => by
    unfold dst
    have h := dst_len r (if x ∈ acc then acc else x :: acc)
    by_cases hx : x ∈ acc
    · rw [if_pos hx] at h ⊢
      rw [List.length_cons]
      omega
    · rw [if_neg hx] at h ⊢
      rw [List.length_cons] at h ⊢
      omega
/-- none stands twice: as many as they are; one twice: fewer -/
theorem dst_full : ∀ (xs acc : List Str), xs.Nodup → (∀ x ∈ xs, x ∉ acc) → (dst acc xs).length = acc.length + xs.length
  | [], acc, _, _ => rfl
  | x :: r, acc, h, ha => by
    unfold dst
    obtain ⟨h1, h2⟩ := List.nodup_cons.mp h
    have e := dst_full r (x :: acc) h2 fun y hy z => (List.mem_cons.mp z).elim (fun e => h1 (by rw [← e]; exact hy)) (ha y (List.mem_cons_of_mem _ hy))
    rw [if_neg (ha x List.mem_cons_self), e, List.length_cons, List.length_cons]
    omega
theorem dst_less : ∀ (xs acc : List Str), ¬ (xs.Nodup ∧ ∀ x ∈ xs, x ∉ acc) → (dst acc xs).length < acc.length + xs.length
  | [], acc, h => absurd ⟨List.nodup_nil, nofun⟩ h
  | x :: r, acc, h => by
    unfold dst
    by_cases hx : x ∈ acc
    · rw [if_pos hx, List.length_cons]
      have := dst_len r acc
      omega
    · rw [if_neg hx, List.length_cons]
      have := dst_less r (x :: acc) fun ⟨h1, h2⟩ => h ⟨List.nodup_cons.mpr ⟨fun z => h2 x z List.mem_cons_self, h1⟩, fun y hy => (List.mem_cons.mp hy).elim (fun e => e ▸ hx) fun hy z => h2 y hy (List.mem_cons_of_mem _ z)⟩
      rw [List.length_cons] at this
      omega
def leS (a b : Str) : Bool := !decide (b.cps.toList < a.cps.toList)
def srtS (xs : List Str) : List Str := xs.mergeSort leS
theorem srtS_perm (xs : List Str) : (srtS xs).Perm xs := List.mergeSort_perm xs _
theorem leS_iff {a b : Str} : leS a b = true ↔ a.cps.toList ≤ b.cps.toList := by
  unfold leS
  rw [Bool.not_eq_true', decide_eq_false_iff_not]
  exact List.not_lt
theorem leS_total (a b : Str) : (leS a b || leS b a) = true := by
  rw [Bool.or_eq_true, leS_iff, leS_iff]
  exact List.le_total _ _
theorem leS_trans (a b c : Str) (h1 : leS a b = true) (h2 : leS b c = true) : leS a c = true := leS_iff.mpr (List.le_trans (leS_iff.mp h1) (leS_iff.mp h2))
theorem leS_anti {a b : Str} (h1 : leS a b = true) (h2 : leS b a = true) : a = b := by
  obtain ⟨⟨a⟩⟩ := a
  obtain ⟨⟨b⟩⟩ := b
  have h : a = b := List.le_antisymm (leS_iff.mp h1) (leS_iff.mp h2)
  rw [h]
theorem srtS_sorted (xs : List Str) : (srtS xs).Pairwise fun a b => leS a b = true := List.pairwise_mergeSort leS_trans leS_total xs
theorem sortedS_uniq : ∀ {xs ys : List Str}, xs.Perm ys → (xs.Pairwise fun a b => leS a b = true) → (ys.Pairwise fun a b => leS a b = true) → xs = ys
  | [], ys, p, _, _ => p.nil_eq
  | x :: xs, [], p, _, _ => absurd p.symm.nil_eq (by simp)
  | x :: xs, y :: ys, p, hx, hy => by
    have e : x = y := by
      rcases List.mem_cons.mp (p.mem_iff.mp (List.mem_cons_self (a := x) (l := xs))) with e | m
      · exact e
      rcases List.mem_cons.mp (p.mem_iff.mpr (List.mem_cons_self (a := y) (l := ys))) with e | m2
      · exact e.symm
      exact leS_anti ((List.pairwise_cons.mp hx).1 y m2) ((List.pairwise_cons.mp hy).1 x m)
    subst e
    rw [sortedS_uniq (List.perm_cons x |>.mp p) (List.pairwise_cons.mp hx).2 (List.pairwise_cons.mp hy).2]
theorem srtS_eq {xs ns : List Str} (p : xs.Perm ns) (h : xs.Pairwise fun a b => leS a b = true) : xs = srtS ns := sortedS_uniq (p.trans (srtS_perm ns).symm) h (srtS_sorted ns)
section
variable {prog : Program} {w : World} {A : Around} {E : Value → Shared → Prop} {s : Shared}
def ltSv (v u : Value) : Bool := decide ((strOf v).cps.toList < (strOf u).cps.toList)
theorem swo_txt : SrtO.Swo ltSv := by
  refine ⟨fun x y h => ?_, fun x y z h1 h2 => ?_⟩
  · exact decide_eq_false (List.lt_asymm (of_decide_eq_true h))
  · exact decide_eq_false (List.not_lt.mpr (List.le_trans (List.not_lt.mp (of_decide_eq_false h1)) (List.not_lt.mp (of_decide_eq_false h2))))
theorem txts_sortable {a : Addr} {vs : List Value} {ss : List Str} (hI : StrsAre vs ss) (h2 : 2 ≤ vs.length) : SrtO.SortableO prog w A s a vs ltSv := by
  intro h' _
  refine ⟨oneType', fun Q E hq => ?_, fun p q hm hm' => ?_⟩
  · match vs, hI, h2 with
    | v1 :: v2 :: rest, hI, _ =>
      rw [keyKind_strs hI]
      exact wpAny_pure hq
    | [], _, h => exact absurd h (by decide)
    | [v], _, h => exact absurd h (by simp)
  · obtain ⟨x, t, e⟩ := hI.all _ hm
    obtain ⟨y, u, e'⟩ := hI.all _ hm'
    show wpAny (model prog w) A (keyLt' oneType' p.1 q.1) (fun r s' => s' = _ ∧ r = ltSv p.1 q.1) (fun _ _ => False) _
    rw [e, e', keyLt'_oneType]
    exact oneLt_str ⟨rfl, rfl⟩
theorem txts_out {vs out : List Value} {ss : List Str} (hI : StrsAre vs ss) (hs : SrtO.Srtd ltSv out) (hb : SrtO.Stb ltSv out vs) : StrsAre out (srtS ss) := by
  have h1 : StrsAre out (out.map strOf) := strsAre_map out fun v hv => hI.all v (hb.perm.mem_iff.mp hv)
  have h2 : (out.map strOf).Perm ss := by
    have q := hb.perm.map strOf
    rw [hI.strs] at q
    exact q
  have h3 : (out.map strOf).Pairwise fun a b => leS a b = true := List.pairwise_map.mpr (hs.imp fun {x y} h => by
    show (!decide ((strOf y).cps.toList < (strOf x).cps.toList)) = true
    have h' : decide ((strOf y).cps.toList < (strOf x).cps.toList) = false := h
    rw [h']
    rfl)
  rw [← srtS_eq h2 h3]
  exact h1
end
section
variable {X : Cx}
/-- sorted(xs), xs a list or a tuple of texts -/
def rSortedT (K : PySem.W.Frag) : List V → Hp → VK → Prop := fun vs H Q => ∃ (a : Addr) (xs : List Str), vs = [V.ref a] ∧ (SqL K H a (xs.map V.str) ∨ SqT K H a (xs.map V.str)) ∧ ∀ p : Addr, H p = none → Q (.ref p) (upd H p (.lst ((srtS xs).map V.str)))
theorem cr_sortedT (K : PySem.W.Frag) (hK : X.K = K := by rfl) : CallR X (.builtin "sorted") (rSortedT K) := by
  subst hK
  intro pins s σ H vs us Q I r h
  obtain ⟨a, xs, rfl, hs, q⟩ := h
  rw [Vals.ref1 r]
  have fin : ∀ (its out : List Value), Vals (xs.map V.str) its → SrtO.Srtd ltSv out → SrtO.Stb ltSv out its → (xs.map V.str).length ≤ sizeLine → EP X pins σ Q (.ref (s.heap.objs.size + 1)) { s with heap := sortedAll s.heap its out.toArray } := fun its out rv h1 h2 hz => by
    have k := txts_out rv.strs h1 h2
    obtain ⟨ep, he'⟩ := PyProof.Rows.sortedAll_at s.heap its out.toArray
    have hlen : ((srtS xs).map V.str).length ≤ sizeLine := by
      rw [List.length_map, (srtS_perm xs).length_eq]
      rw [List.length_map] at hz
      exact hz
    exact ⟨.ref _, upd H (s.heap.objs.size + 1) (.lst ((srtS xs).map V.str)), I.laid (t' := s.toks) (fun _ _ => PyProof.Rows.sortedAll_old) (Nat.le_succ _) ⟨hlen, out, ep, vals_of_strs k, he'⟩, rfl, q _ (I.hok.fresh (Nat.le_succ _))⟩
  rcases hs with hs | hs
  · obtain ⟨its, rv, hl, hz⟩ := I.list hs
    exact SrtO.sorted_ord swo_txt hl.isList (by rw [← rv.length]; exact hz) (fun h2 h₁ a' _ _ => txts_sortable rv.strs h2) fun out h1 h2 => fin its out rv h1 h2 hz
  · obtain ⟨its, rv, hl, hz⟩ := I.tuple hs
    exact SrtA.sorted_tup swo_txt hl (by rw [← rv.length]; exact hz) (fun h2 h₁ a' _ _ => txts_sortable rv.strs h2) fun out h1 h2 => fin its out rv h1 h2 hz
end
theorem strsAre_len : ∀ {vs : List Value} {xs : List Str}, StrsAre vs xs → vs.length = xs.length
  | _, _, .nil => rfl
  | _, _, .cons _ _ r => congrArg (· + 1) (strsAre_len r)
section
variable {P : Program} {w : World} {A : Around} {E : Value → Shared → Prop} {s : Shared}
open PySem.Froz
/-- the set of texts at a: its members, in some order -/
def SetT (P : Program) (w : World) (h : Heap) (a : Addr) (l : List Str) : Prop := ∃ D : SD, h.get? a = some (sObj "set" D) ∧ TxOk P w D l ∧ l.length < scanBound ∧ Ris D.2.2.place.toList ∧ (w.params.followText "set-order" = true ∨ D.2.2.led = true)
theorem SetT.at {h h' : Heap} {a : Addr} {l : List Str} (R : SetT P w h a l) (k : ∀ o, h.get? a = some o → h'.get? a = some o) : SetT P w h' a l := by
  obtain ⟨D, ho, r⟩ := R
  exact ⟨D, k _ ho, r⟩
theorem ris_tail {ep : Nat} {es : Array (Int × Value)} {t : SetTable} {b : Bool} (r : Ris t.place.toList) : Ris (tailTx ep es t b).2.2.place.toList := by
  unfold tailTx
  by_cases c : (!b && t.tooFull) = true
  · rw [if_pos c]
    exact relayAll_ris _ _ _
  · rw [if_neg c]
    exact r
theorem led_tail {ep : Nat} {es : Array (Int × Value)} {t : SetTable} {b : Bool} : (tailTx ep es t b).2.2.led = t.led := by
  unfold tailTx
  by_cases c : (!b && t.tooFull) = true
  · rw [if_pos c]
    exact relayAll_led _ _ _
  · rw [if_neg c]
theorem ris_addTx {h : Int} {v : Value} {D : SD} (r : Ris D.2.2.place.toList) : Ris (addTx h v D).2.2.place.toList := by
  unfold addTx
  refine ris_tail ?_
  have z := layNew_ris D.2.2 D.1 h v r
  by_cases c : (layNew D.2.2 D.1 h v).2.1.plain = true
  · rw [if_pos c]
    exact z
  · rw [if_neg c]
    exact z
theorem led_addTx {h : Int} {v : Value} {D : SD} : (addTx h v D).2.2.led = D.2.2.led := by
  unfold addTx
  rw [led_tail]
  have z := layNew_led D.2.2 D.1 h v
  by_cases c : (layNew D.2.2 D.1 h v).2.1.plain = true
  · rw [if_pos c]
    exact z
  · rw [if_neg c]
    exact z
/-- a text that is there already -/
theorem add_old {a : Addr} {D : SD} {l : List Str} {k : Str} {u : Tok} {Q : Bool → Shared → Prop} (ho : s.heap.get? a = some (sObj "set" D)) (F : TxOk P w D l) (hk : k ∈ l) (hb : l.length < scanBound) (q : Q false s) :
    wpAny (model P w) A (setAddHashed a (.str k u) (hashStr w k)) Q E s := by
  obtain ⟨es, ep, t⟩ := D
  have hd : (sObj "set" (es, ep, t)).data = .set es ep t := rfl
  have hf : t.fits es.size = true := F.fit
  have hel : ElemsOf (PySem.strKind P w) es.toList := F.el
  have hsz : es.size = l.length := F.sz
  have hkey : (PySem.strKind P w).is k (.str k u) = true := is_str k u
  unfold setAddHashed setAddHashedIn
  refine wpAny_holding (wpAny_bind (wpAny_setState_of ho hd hf ?_))
  dsimp only
  rw [byScan_of rfl (by omega) hel]
  simp only [↓reduceIte]
  unfold setAddByScan
  refine wpAny_bind ?_
  refine wpAny_bind (wpAny_rule ?_)
  refine wpAny_bind (wpAny_setScan_of (knd := PySem.strKind P w) (k := k) hkey ho hd hf hel ?_)
  cases hr : List.findIdx? (fun e => (PySem.strKind P w).is k e.2) es.toList with
  | some j =>
    dsimp only
    exact wpAny_pure (wpAny_pure q)
  | none =>
    obtain ⟨e, he, hp⟩ := (F.mem k).mp hk
    have c := List.findIdx?_eq_none_iff.mp hr e he
    rw [hp] at c
    cases c
/-- a text is put in -/
theorem setT_add {a : Addr} {l : List Str} {k : Str} {u : Tok} {Q : Bool → Shared → Prop} (R : SetT P w s.heap a l) (hb : l.length + 1 < scanBound)
    (q : ∀ b h', (∀ c o, c ≠ a → s.heap.get? c = some o → h'.get? c = some o) → SetT P w h' a (if k ∈ l then l else k :: l) → Q b { s with heap := h' }) :
    wpAny (model P w) A (setAddHashed a (.str k u) (hashStr w k)) Q E s := by
  obtain ⟨D, ho, F, hl, hr, hled⟩ := R
  by_cases hk : k ∈ l
  · exact add_old ho F hk hl (q false s.heap (fun _ _ _ e => e) (by rw [if_pos hk]; exact ⟨D, ho, F, hl, hr, hled⟩))
  · refine add_x ho F hk hb (q true _ (fun c o hc e => (Heap.get?_update_other _ _ (Ne.symm hc)).trans e) ?_)
    rw [if_neg hk]
    exact ⟨_, get_upd _ ho rfl, add_ok u F, hb, ris_addTx hr, hled.imp id fun z => by rw [led_addTx]; exact z⟩
theorem update_txts {I : Addr} {fp wr : List Addr} {G : Array GenState → Array GenState → Prop} {n : Nat} {Pv : Nat → Value → Prop} {St : Nat → Shared → Prop} {R : Result → Shared → Prop}
    (W : WalksS P w A.in1 I fp wr G n Pv St) (S : Addr) (hSf : S ∉ fp) (hval : ∀ i v, Pv i v → ∃ k t, v = .str k t) :
    ∀ (xs : List Str) (i : Nat) (acc : List Str) (s : Shared), i + xs.length = n → (∀ j v, Pv (i + j) v → ∃ k t, xs[j]? = some k ∧ v = .str k t) → acc.length + xs.length + 1 < scanBound → St i s → SetT P w s.heap S acc →
      (∀ s', Moved (S :: wr) G s s' → SetT P w s'.heap S (dst acc xs) → R (.ok (.ret .none)) s') →
      codeAny (model P w) A (.builtin "set.update.loop" ⟨[.ref S, .ref I], []⟩) R s := by
  have hSw : S ∉ wr := fun h => hSf (W.sub _ h)
  have hsub : ∀ b ∈ wr, b ∈ S :: wr := fun b hb => List.mem_cons_of_mem _ hb
  intro xs
  induction xs with
  | nil =>
    intro i acc s hn _ _ hst hS fin
    rw [List.length_nil, Nat.add_zero] at hn
    subst hn
    refine codeAny_builtin F.entry_set_update_loop ?_
    rw [Around.under_plainId F.plain_set_update_loop _]
    show wpAny _ A.in1 (pyNext (.ref I) >>= _) _ _ s
    refine wpAny_bind (W.done s _ _ hst fun s' hm => ?_)
    show wpAny _ A.in1 (ret Value.none) _ _ s'
    exact wpAny_pure (fin s' (hm.mono hsub) (hS.at fun o e => hm.heap S o hSw e))
  | cons x r ih =>
    intro i acc s hn hx hb hst hS fin
    rw [List.length_cons] at hn hb
    have hlt : i < n := by omega
    refine codeAny_builtin F.entry_set_update_loop ?_
    rw [Around.under_plainId F.plain_set_update_loop _]
    show wpAny _ A.in1 (pyNext (.ref I) >>= _) _ _ s
    refine wpAny_bind (W.item i s _ _ hlt hst fun v s' hP hst' hm => ?_)
    obtain ⟨z, t, hz, rfl⟩ := hx 0 v hP
    cases hz
    have hS' : SetT P w s'.heap S acc := hS.at fun o e => hm.heap S o hSw e
    show wpAny _ A.in1 (holding [Value.str x t] (setAdd S (.str x t)) >>= _) _ _ s'
    refine wpAny_bind (wpAny_holding ?_)
    unfold setAdd
    refine wpAny_holding ?_
    refine wpAny_bind ((PySem.strKind P w).pyHash (k := x) (Froz.is_str x t) ?_)
    refine setT_add (s := { s' with toks := s'.toks + 1 }) hS' (by omega) fun b h' hsb hS2 => ?_
    refine wpAny_pure ⟨plainId_quiet F.plain_set_update_loop _, ih (i + 1) (if x ∈ acc then acc else x :: acc) _ (by omega) (fun j v hv => ?_) ?_ (W.frame _ s' _ _ hst' (Nat.le_succ _) fun b hb o e => hsb b o (fun h : b = S => hSf (by rw [← h]; exact hb)) e) hS2 fun s'' hm'' hS'' => ?_⟩
    · obtain ⟨k, t2, e1, e2⟩ := hx (j + 1) v (by rw [show i + (j + 1) = i + 1 + j by omega]; exact hv)
      exact ⟨k, t2, e1, e2⟩
    · by_cases hxa : x ∈ acc
      · rw [if_pos hxa]
        omega
      · rw [if_neg hxa, List.length_cons]
        omega
    · exact fin s'' (Moved.trans W.gtrans ((hm.mono hsub).then_heap (Nat.le_succ _) fun b o hb e => hsb b o (fun h : b = S => hb (by rw [h]; exact List.mem_cons_self)) e) hm'') hS''
/-- set(xs), xs a thing of the type T whose walk gives texts -/
theorem call_set_txts {l : Addr} {T : String} {its : Array Value} {xs : List Str} {io : Obj} {Q : Value → Shared → Prop} (calm : A.handled = none) (few : xs.length + 1 < scanBound) (size : its.size = xs.length)
    (isT : ∀ z : Shared, (∀ b o, s.heap.get? b = some o → z.heap.get? b = some o) → z.TypeIs (.ref l) T) (lt : l < s.heap.objs.size) (vs : StrsAre its.toList xs)
    (m1 : isSubtype (.type T) (.type "set") = pure false) (m2 : isSubtype (.type T) (.type "frozenset") = pure false) (m3 : (Value.type T == Value.type "dict") = false)
    (iter : ∀ (z : Shared) (A2 : Around) (E2 : Value → Shared → Prop) (Q2 : Value → Shared → Prop), (∀ b o, s.heap.get? b = some o → z.heap.get? b = some o) → Q2 (.ref z.heap.objs.size) { z with heap := z.heap.push io } → wpAny (model P w) A2 (pyIter (.ref l)) Q2 E2 z)
    (St : Addr → Nat → Heap → Prop) (W : ∀ (A2 : Around) (I : Addr), A2.handled = none → l ≠ I → Walks P w A2 I [I, l] [I] its.size (fun i v => its[i]? = some v) (St I))
    (start : ∀ h : Heap, (∀ b o, s.heap.get? b = some o → h.get? b = some o) → St h.objs.size 0 (h.push io))
    (fin : ∀ (h' : Heap) (tk : Nat), SetT P w h' s.heap.objs.size (dst [] xs) → (∀ b o, s.heap.get? b = some o → h'.get? b = some o) → Q (.ref s.heap.objs.size) { s with heap := h', toks := tk }) :
    wpAny (model P w) A (call (.type "set") [.ref l]) Q E s := by
  obtain ⟨c, tl, k1⟩ := F.called_set.mro
  have k2 := F.called_set.made
  have k3 := F.called_set.sub
  refine wpAny_call (codeAny_of_tree ?_)
  show wpAny _ _ (callAny (.type "set") _) _ _ _
  refine wpAny_pure ⟨Code.quiet_builtin _ (by decide +kernel), codeAny_builtin F.entry_type_call ?_⟩
  rw [Around.under_plain (weight_type_call_type "set" [.ref l] []) rfl]
  have k4 := F.called_set.notType
  have k5 := F.called_set.canCreate
  have k6 := F.typeCall_set_1 (.ref l)
  repeat (any_goals (first | assumption | wp_step))
  refine codeAny_mono (code_set_led1 (.ref l) (E := E) (Q₁ := fun obj z => obj = .ref s.heap.objs.size ∧ z = { s with heap := s.heap.push (newSet w) }) ⟨rfl, rfl⟩) fun r z hr => ?_
  cases r with
  | error e => exact hr
  | ok fl =>
    cases fl with
    | ret obj =>
      obtain ⟨rfl, rfl⟩ := hr
      have there : (s.heap.push (newSet w)).get? s.heap.objs.size = some (newSet w) := Heap.get?_push_size _ rfl
      have ty : Shared.TypeIs { s with heap := s.heap.push (newSet w) } (.ref s.heap.objs.size) "set" := ⟨_, there, rfl⟩
      have tl1 := isT { s with heap := s.heap.push (newSet w) } fun b o e => Heap.get?_push_of_some _ e
      have k7 := F.called_set.init.lookup
      have k8 := F.called_set.init.bind (.ref s.heap.objs.size)
      repeat (any_goals (first | assumption | wp_step))
      refine codeAny_mono (codeAny_call_builtin (R := wants (fun r z => r = .none ∧ ∃ h' tk, z = { s with heap := h', toks := tk } ∧ SetT P w h' s.heap.objs.size (dst [] xs) ∧ (∀ b o, s.heap.get? b = some o → h'.get? b = some o)) E) F.called_set.init.plain F.entry_set_init (check_set_init_1 ty ?_)) fun r₂ z hr₂ => ?_
      · unfold Builtin.«set.__init__» noKeywords Builtin.Frozenset.updateFrom
        generalize hPI : pyIter = PI
        wp_walk
        subst hPI
        have lt2 : l ≠ (s.heap.push (newSet w)).objs.size := by
          rw [Heap.size_push]
          exact Nat.ne_of_lt (Nat.lt_succ_of_lt lt)
        have calm3 : A.in1.in1.in1.handled = none := by simp [calm]
        have ne2 : s.heap.objs.size ∉ [(s.heap.push (newSet w)).objs.size, l] := by
          rw [Heap.size_push]
          intro hm
          rcases List.mem_cons.mp hm with hm | hm
          · exact Nat.ne_of_lt (Nat.lt_succ_self _) hm
          · exact Nat.ne_of_gt lt (List.mem_singleton.mp hm)
        refine iter { s with heap := s.heap.push (newSet w) } _ _ _ (fun b o e => Heap.get?_push_of_some _ e) ?_
        refine wpAny_bind (wpAny_runValue ?_)
        have vals : ∀ (i : Nat) (v : Value), its[i]? = some v → ∃ k t, xs[i]? = some k ∧ v = .str k t := fun i v hv => by
          have hi : i < xs.length := by rw [← size]; exact (Array.getElem?_eq_some_iff.mp hv).1
          obtain ⟨t, e⟩ := SS.strs_at vs i v (by rw [Array.getElem?_toList]; exact hv)
          refine ⟨xs[i], t, List.getElem?_eq_getElem hi, ?_⟩
          rw [e, List.getD_eq_getElem?_getD, List.getElem?_eq_getElem hi] <;> rfl
        refine update_txts ((W _ _ calm3 lt2).toS) s.heap.objs.size ne2 (fun i v hv => by obtain ⟨k, t, _, e⟩ := vals i v hv; exact ⟨k, t, e⟩) xs 0 [] _ (by rw [Nat.zero_add]; exact size.symm) (fun j v hv => vals j v (by rw [Nat.zero_add] at hv; exact hv)) (by rw [List.length_nil]; omega) (start (s.heap.push (newSet w)) fun b o e => Heap.get?_push_of_some _ e) ?g1 ?g2
        case g1 =>
          have at2 : ((s.heap.push (newSet w)).push io).get? s.heap.objs.size = some (newSet w) := Heap.get?_push_of_some _ there
          exact ⟨(#[], 0, .fresh 0 0 (!w.params.followText "set-order")), at2, TxOk.nil (by first | rfl | decide), by decide, by first | exact List.Pairwise.nil | trivial, by
            show _ ∨ (!w.params.followText "set-order") = true
            cases w.params.followText "set-order"
            · exact .inr rfl
            · exact .inl rfl⟩
        case g2 =>
          intro z mv sr
          obtain ⟨h2, gn, dr, tk2, os2⟩ := z
          have e1 : gn = s.gens := mv.gens
          have e2 : dr = s.drawn := mv.drawn
          have e3 : os2 = s.os := mv.os
          subst e1; subst e2; subst e3
          show wpAny _ _ _ _ _ _
          refine wpAny_pure ?_
          show wpAny _ _ (ret Value.none) _ _ _
          refine wpAny_pure ⟨rfl, h2, tk2, rfl, sr, fun b o e => ?_⟩
          have l0 : b < s.heap.objs.size := Heap.lt_size e
          refine mv.heap b o (fun hm => ?_) (Heap.get?_push_of_some _ (Heap.get?_push_of_some _ e))
          rcases List.mem_cons.mp hm with hm | hm
          · exact Nat.ne_of_lt l0 hm
          · have e9 := List.mem_singleton.mp hm
            rw [Heap.size_push] at e9
            exact Nat.ne_of_lt (Nat.lt_succ_of_lt l0) e9
      · cases r₂ with
        | error e => exact hr₂
        | ok fl₂ =>
          cases fl₂ with
          | ret r =>
            obtain ⟨rfl, h', tk, rfl, sr, kp⟩ := hr₂
            repeat (any_goals (first | assumption | wp_step))
            exact fin _ _ sr kp
          | _ => exact hr₂.elim
    | _ => exact hr.elim
theorem call_set_lstT {l : Addr} {its : Array Value} {xs : List Str} {Q : Value → Shared → Prop} (calm : A.handled = none) (few : xs.length + 1 < scanBound) (isl : s.heap.IsList l its) (vs : StrsAre its.toList xs)
    (fin : ∀ (h' : Heap) (tk : Nat), SetT P w h' s.heap.objs.size (dst [] xs) → (∀ b o, s.heap.get? b = some o → h'.get? b = some o) → Q (.ref s.heap.objs.size) { s with heap := h', toks := tk }) :
    wpAny (model P w) A (call (.type "set") [.ref l]) Q E s := by
  have up : ∀ h : Heap, (∀ b o, s.heap.get? b = some o → h.get? b = some o) → h.IsList l its := fun h k => by
    obtain ⟨o, ho, r⟩ := isl
    exact ⟨o, k _ _ ho, r⟩
  have size : its.size = xs.length := by
    have q := strsAre_len vs
    rwa [Array.length_toList] at q
  refine call_set_txts (T := "list") (io := { cls := .type "list_iterator", data := .fields #[.ref l, .int 0 0] }) calm few size (fun z k => ?_) ?_ vs F.sub_list_set F.sub_list_frozenset (by decide) (fun z A2 E2 Q2 k q => wpAny_pyIter_list (up z.heap k) q) (fun I i h => h.IsListIter I l i ∧ h.IsList l its) (fun A2 I hc ne => Walks.list hc I l ne its) (fun h k => ⟨⟨_, Heap.get?_push_size _ rfl, rfl, rfl⟩, (up h k).push _⟩) fin
  · obtain ⟨o, ho, hc, _⟩ := up z.heap k
    exact ⟨o, ho, hc⟩
  · obtain ⟨o, ho, _⟩ := isl
    exact Heap.lt_size ho
theorem call_set_tupT {l : Addr} {its : Array Value} {xs : List Str} {Q : Value → Shared → Prop} (calm : A.handled = none) (few : xs.length + 1 < scanBound) (isl : s.heap.IsTuple l its) (vs : StrsAre its.toList xs)
    (fin : ∀ (h' : Heap) (tk : Nat), SetT P w h' s.heap.objs.size (dst [] xs) → (∀ b o, s.heap.get? b = some o → h'.get? b = some o) → Q (.ref s.heap.objs.size) { s with heap := h', toks := tk }) :
    wpAny (model P w) A (call (.type "set") [.ref l]) Q E s := by
  have up : ∀ h : Heap, (∀ b o, s.heap.get? b = some o → h.get? b = some o) → h.IsTuple l its := fun h k => by
    obtain ⟨o, ho, r⟩ := isl
    exact ⟨o, k _ _ ho, r⟩
  have size : its.size = xs.length := by
    have q := strsAre_len vs
    rwa [Array.length_toList] at q
  refine call_set_txts (T := "tuple") (io := { cls := .type "tuple_iterator", data := .fields #[.ref l, .int 0 0] }) calm few size (fun z k => ?_) ?_ vs F.sub_tuple_set F.sub_tuple_frozenset (by decide) (fun z A2 E2 Q2 k q => wpAny_pyIter_tuple (up z.heap k) q) (fun I i h => h.IsTupleIter I l i ∧ h.IsTuple l its) (fun A2 I hc ne => Walks.tuple hc I l ne its) (fun h k => ⟨⟨_, Heap.get?_push_size _ rfl, rfl, rfl⟩, up _ fun b o e => Heap.get?_push_of_some _ (k b o e)⟩) fin
  · obtain ⟨o, ho, hc, _⟩ := up z.heap k
    exact ⟨o, ho, hc⟩
  · obtain ⟨o, ho, _⟩ := isl
    exact Heap.lt_size ho
/-- len(x), x a set of texts -/
theorem len_setT {a : Addr} {l : List Str} {Q : Value → Shared → Prop} (R : SetT P w s.heap a l) (fin : Q (.int (l.length : Nat) (s.toks + 1)) { s with toks := s.toks + 1 + 1 }) :
    wpAny (model P w) A (call (.builtin "len") [.ref a]) Q E s := by
  obtain ⟨⟨es, ep, t⟩, ho, F, hb, hr, hl⟩ := R
  have hsz : es.size = l.length := F.sz
  refine call_len_set (o := sObj "set" (es, ep, t)) (es := es) (ep := ep) (t := t) ho ⟨rfl, rfl, rfl⟩ rfl F.fit ?_ ?_
  · unfold scanBound at hb
    omega
  · rw [hsz]
    exact fin
end
section
variable {X : Cx}
/-- a set of texts, l its members -/
def SetTO (P : Program) (w : World) (a : Addr) (l : List Str) : HO := .ext fun h => SetT P w h a l
theorem setTO_new {w : World} {P : Program} {H : Hp} {h : Heap} {a : Addr} {l : List Str} (R : SetT P w h a l) : ObjOk P w H h a (SetTO P w a l) := by
  have ⟨o, ho, _⟩ := R
  exact ⟨R, ⟨_, ho⟩, fun h1 h2 p k => SetT.at p k⟩
theorem setTO_get {pins : List (Addr × Obj)} {σ : L2.St} {H : Hp} {s : Shared} {a : Addr} {l : List Str} (I : Inv X pins σ H s) (ha : H a = some (SetTO X.prog X.w a l)) : SetT X.prog X.w s.heap a l := (I.hok a _ ha).1
/-- set(xs), xs a list or a tuple of texts -/
def rSetT (P : Program) (w : World) (K : PySem.W.Frag) : List V → Hp → VK → Prop := fun vs H Q => ∃ (a : Addr) (xs : List Str), vs = [.ref a] ∧ (SqL K H a (xs.map V.str) ∨ SqT K H a (xs.map V.str)) ∧ xs.length ≤ 3000 ∧ ∀ p, H p = none → Q (.ref p) (upd H p (SetTO P w p (dst [] xs)))
theorem cr_setT (K : PySem.W.Frag) (cm : X.calm = true) (hK : X.K = K := by rfl) : CallR X (.type "set") (rSetT X.prog X.w K) := by
  subst hK
  intro pins s σ H vs us Q I r h
  obtain ⟨a, xs, rfl, hs, few, q⟩ := h
  rw [Vals.ref1 r]
  have done : ∀ (h' : Heap) (tk : Nat), SetT X.prog X.w h' s.heap.objs.size (dst [] xs) → (∀ b o, s.heap.get? b = some o → h'.get? b = some o) → EP X pins σ Q (.ref s.heap.objs.size) { s with heap := h', toks := tk } := fun h' tk R keep =>
    ⟨.ref _, upd H s.heap.objs.size (SetTO X.prog X.w s.heap.objs.size (dst [] xs)), I.laid (t' := tk) keep (Nat.le_refl _) (setTO_new R), rfl, q _ (I.hok.fresh (Nat.le_refl _))⟩
  have sb : xs.length + 1 < scanBound := by unfold scanBound; omega
  rcases hs with hs | hs
  · obtain ⟨its, rv, pl, hz⟩ := I.list hs
    exact call_set_lstT (I.ok.hd cm) sb pl.isList (by simpa using rv.strs) done
  · obtain ⟨its, rv, pl, hz⟩ := I.tuple hs
    exact call_set_tupT (I.ok.hd cm) sb (show s.heap.IsTuple a its.toArray from pl) (by simpa using rv.strs) done
def rLenT (P : Program) (w : World) : List V → Hp → VK → Prop := fun vs H Q => ∃ (a : Addr) (l : List Str), vs = [V.ref a] ∧ H a = some (SetTO P w a l) ∧ Q (.int (l.length : Nat)) H
theorem cr_lenT : CallR X (.builtin "len") (rLenT X.prog X.w) := by
  intro pins s σ H vs us Q I r h
  obtain ⟨a, l, rfl, ha, q⟩ := h
  rw [Vals.ref1 r]
  exact len_setT (setTO_get I ha) ⟨.int _, H, I.tok _, ⟨_, rfl⟩, q⟩
end
end L3
set_option Elab.async false
set_option linter.all false
set_option maxRecDepth 100000
set_option maxHeartbeats 4000000
namespace L3
open PySem PySem.Spec PySem.Calls PyProof.Rows L2
end L3
set_option Elab.async false
set_option linter.all false
set_option maxRecDepth 100000
set_option maxHeartbeats 4000000
namespace L3
open PySem PySem.Spec PyProof.Rows L2
section
variable {X : Cx} {k : Nat} {f C : Addr} {ks : List Str} {sp : Sp} {W : WX} {x m : Str} {p pos apos p1 p2 : Pos} {e o : Expr} {es : List Expr} {kws : List Keyword} {ta : TE} {t tk : TA}
/-- o.m(e, ..): the class, the def and its promise are told when it's asked -/
def tMtV (X : Cx) (k : Nat) (m : Str) (W : WX) (ta : TE) (t : TA) : TE := fun σ H Q => ta σ H fun x H1 => ∃ (a C dx : Addr) (fs : List (Str × V)) (f : Addr), x = .ref a ∧ H1 a = some (.ins C dx fs) ∧ Cls X.K C ∧ Meth X.K C m f ∧ fs.lookup m = none ∧
  t σ H1 fun vs H2 => ∃ sp : Sp, Fc X.prog X.w X.K X.mg X.base k f [] sp ∧ sp (.ref a :: vs) H2 Q (WE W σ)
theorem c_methV0 {pl : Sem Bool} (he : PE X o ta) (hr : Rm k X.A) (hx : Takes X W)
    (ht : eval (.Call (.Attribute o m apos) [] [] pos) X.env = (do
      let ov ← eval o X.env
      standAt apos.atName
      let (f, first) ← holding [ov] (getMethod ov m pl)
      callWith pos f first (backTo pos (starEach [] X.env)) (backToKw pos (keywordEach [] X.env))) := by rfl) :
    PE X (.Call (.Attribute o m apos) [] [] pos) (tMtV X k m W ta tNil) := by
  refine ⟨fun pins s σ H Q I h => ?_⟩
  refine PySem.W.methodCall_KW (pl := pl) (thn (he.run pins s σ H _ I h) fun u s1 ⟨x, H1, I1, rx, a, C, dx, fs, f, ex, ea, c, hm, l, sp, F, q⟩ => ?_) ht
  subst ex
  obtain rfl : u = Value.ref a := rx
  refine getmeth_ok I1 ea c hm l ?_
  exact PySem.W.callWith_K0 (first := [.ref a]) I1.kIn hm.kp (run_fc (us := [.ref a]) (ws := []) (vs := [.ref a]) F hr hx I1 (.cons rfl .nil) rfl q)
/-- an own class whose attribute m is the def f -/
structure ClsM (K : PySem.W.Frag) (D : Addr) (m : Str) (f : Addr) : Prop where
  ga : PySem.W.specialIn K (.ref D) "__getattribute__" = some (some (.builtin "type.__getattribute__"))
  rd : PySem.W.readsIn K D (.type "type") = true
  fc : PySem.W.findCls K (.ref D) (.type "type") m = some (.val (.ref f))
  kp : PySem.W.keepIn K (.ref f) = true
def clsMIs (K : PySem.W.Frag) (D : Addr) (m : Str) (f : Addr) : Bool := match PySem.W.findCls K (.ref D) (.type "type") m with
  | some (.val v) => v == .ref f
  | _ => false
def clsMF (x m : Str) : Fx := fun K => decide (PySem.W.specialIn K (.ref (He.ga K x)) "__getattribute__" = some (some (.builtin "type.__getattribute__"))) && (PySem.W.readsIn K (He.ga K x) (.type "type") && (clsMIs K (He.ga K x) m (He.ma K (He.ga K x) m) && PySem.W.keepIn K (.ref (He.ma K (He.ga K x) m))))
theorem clsM_of {x m : Str} {K : PySem.W.Frag} (h : clsMF x m K = true) : ClsM K (He.ga K x) m (He.ma K (He.ga K x) m) := by
  obtain ⟨h1, h⟩ := He.ba h
  obtain ⟨h2, h⟩ := He.ba h
  obtain ⟨h3, h4⟩ := He.ba h
  refine ⟨of_decide_eq_true h1, h2, ?_, h4⟩
  unfold clsMIs at h3
  split at h3
  · rename_i v hv
    rw [hv, beq_iff_eq.mp h3]
  · cases h3
/-- D.m(e, ..) -/
theorem c_clsm {pl : Sem Bool} {D : Addr} (CM : ClsM X.K D m f) (F : Fc X.prog X.w X.K X.mg X.base k f [] sp) (hr : Rm k X.A) (hm : X.mg x = some (.ref D)) (hx : Takes X W) (ha : PA X (e :: es) t)
    (hg : Gl X x := by rfl) (hh : PySem.W.handedIn (.ref f) = true := by rfl) (hdb : (x == ("__debug__" : Str)) = false := by decide)
    (hst : starEach (e :: es) X.env = (false, eval e X.env) :: starEach es X.env := by rfl) (hpl : (backTo pos (starEach es X.env)).any (·.1) = false := by rfl)
    (hc : eval (.Call (.Attribute (.Name x p1) m p2) (e :: es) [] pos) X.env = (do
      let ov ← eval (.Name x p1) X.env
      standAt p2.atName
      let (f, first) ← holding [ov] (getMethod ov m pl)
      callWith pos f first (backTo pos (starEach (e :: es) X.env)) (backToKw pos (keywordEach [] X.env))) := by rfl) :
    PE X (.Call (.Attribute (.Name x p1) m p2) (e :: es) [] pos) (tFc sp W t) := by
  refine ⟨fun pins s σ H Q I h => ?_⟩
  refine PySem.W.methodCall_KW (ld_glob I hg hm ?_ hdb) hc
  refine PySem.W.method_cls I.kIn CM.ga (PySem.W.cls_value I.kIn CM.rd CM.fc hh ?_)
  refine PySem.W.callWith_K (first := []) (h₀ := X.base) I.ok.mod.kin CM.kp (thn (ha.run pos pins _ σ H _ (I.tok _) h) fun us s1 ⟨vs, H1, I1, r, q⟩ => ⟨I1.kIn, ?_⟩) hst hpl
  exact run_fc (ws := []) F hr hx I1 (by rw [List.append_nil]; exact r) rfl q
end
end L3
set_option Elab.async false
set_option linter.all false
set_option maxRecDepth 100000
set_option maxHeartbeats 4000000
namespace L3
open PySem PySem.Spec PyProof.Rows L2
end L3
set_option Elab.async false
set_option linter.all false
set_option maxRecDepth 100000
set_option maxHeartbeats 4000000
namespace L3
open PySem PySem.Spec PyProof.Rows L2 PySem.SeqAt PySem.Calls
/-- the pairs of two lists stand at ts -/
def PrsAt (xs ys : List V) (ts : List Addr) (H : Hp) : Prop := ∀ (j : Nat) (t : Addr), ts[j]? = some t → ∃ x y, xs[j]? = some x ∧ ys[j]? = some y ∧ H t = some (.tup [x, y])
theorem PrsAt.mono {xs ys : List V} {ts : List Addr} {H H' : Hp} (h : PrsAt xs ys ts H) (e : Ex H H') : PrsAt xs ys ts H' := fun j t hj => let ⟨x, y, a, b, c⟩ := h j t hj; ⟨x, y, a, b, e _ _ c⟩
/-- how a zip of two lists stands, its last pair held or not -/
def ZlSt (a b z TI TO i1 i2 : Addr) (i : Nat) (H : Hp) (h : Heap) : Prop :=
  IsPair h TI (.ref i1) (.ref i2) ∧ h.IsListIter i1 a i ∧ h.IsListIter i2 b i ∧ (∃ x y, IsPair h TO x y) ∧ (IsZip h z TI TO .none ∨ ∃ T f xs, IsZipHeld h z TI TO T f ∧ H T = some (.tup xs))
section
variable {X : Cx} {pins : List (Addr × Obj)} {σ : L2.St} {a b z TI TO i1 i2 S : Addr}
theorem ZlSt.at {i : Nat} {H H' : Hp} {h h' : Heap} (s : ZlSt a b z TI TO i1 i2 i H h) (k : ∀ c ∈ [z, TI, TO, i1, i2], ∀ o, h.get? c = some o → h'.get? c = some o) (e : ∀ T xs, H T = some (.tup xs) → H' T = some (.tup xs)) : ZlSt a b z TI TO i1 i2 i H' h' := by
  obtain ⟨p, l1, l2, ⟨x, y, t⟩, r⟩ := s
  refine ⟨k TI (by simp) _ p, l1.at fun o q => k i1 (by simp) o q, l2.at fun o q => k i2 (by simp) o q, ⟨x, y, k TO (by simp) _ t⟩, ?_⟩
  rcases r with r | ⟨T, f, xs, r, t⟩
  · exact .inl (k z (by simp) _ r)
  · exact .inr ⟨T, f, xs, k z (by simp) _ r, e _ _ t⟩
end
end L3
set_option Elab.async false
set_option linter.all false
set_option maxRecDepth 100000
set_option maxHeartbeats 4000000
namespace L3
open PySem PySem.Spec PyProof.Rows L2
end L3
namespace PySem
open Calls AutoSeq1
end PySem
namespace L3
open PySem PySem.Spec PyProof.Rows L2
end L3
set_option Elab.async false
set_option linter.all false
set_option maxRecDepth 100000
set_option maxHeartbeats 4000000
namespace L3
open PySem PySem.Spec PyProof.Rows L2
end L3
set_option Elab.async false
set_option linter.all false
set_option maxRecDepth 100000
set_option maxHeartbeats 4000000
noncomputable section
namespace HandSHeadRun
open PySem PySem.W PySem.Calls PyProof.Rows
end HandSHeadRun
end
set_option Elab.async false
set_option linter.all false
set_option maxRecDepth 100000
set_option maxHeartbeats 4000000
namespace L3
open PySem PySem.Spec PyProof.Rows L2
end L3
set_option Elab.async false
set_option linter.all false
set_option maxRecDepth 100000
set_option maxHeartbeats 4000000
namespace L3
open PySem PySem.Spec PyProof.Rows L2
open PySem.AutoSeq1 (wpAny_loadPart')
end L3
set_option Elab.async false
set_option linter.all false
set_option maxRecDepth 100000
set_option maxHeartbeats 4000000
namespace L3
open PySem PySem.Spec PySem.Calls PySem.HandSPX
end L3
namespace L3
open PySem PySem.Spec PySem.Calls PyProof.Rows L2
end L3
set_option Elab.async false
set_option linter.all false
set_option maxRecDepth 100000
set_option maxHeartbeats 4000000
namespace L3
open PySem PySem.Spec PyProof.Rows L2
/-- an instance's format is object's own -/
structure FmtC (K : PySem.W.Frag) (C : Addr) : Prop where
  fm : PySem.W.findIn K (.ref C) "__format__" = some (some (.builtin "object.__format__"))
  ob : PySem.W.mroIn K C (.type "object") = some true
def fmtB (x : Str) : Fx := fun K => He.eqO (PySem.W.findIn K (.ref (He.ga K x)) "__format__") (some (some (.builtin "object.__format__"))) && decide (PySem.W.mroIn K (He.ga K x) (.type "object") = some true)
theorem fmtC_of {x : Str} {K : PySem.W.Frag} (h : fmtB x K = true) : FmtC K (He.ga K x) := by
  obtain ⟨h1, h2⟩ := He.ba h
  exact ⟨He.eqO_ok h1, of_decide_eq_true h2⟩
def tFmtO (C : Addr) (sp : Sp) (te : TE) : TE := fun σ H Q => te σ H fun x H1 => rOwn C sp isTxt [x] H1 Q
section
variable {X : Cx} {k : Nat} {f C : Addr} {sp : Sp} {e : Expr} {te : TE} {pos : Pos}
theorem pe_fmtO (hm : Meth X.K C "__str__" f) (hF : FmtC X.K C) (F : Fc X.prog X.w X.K X.mg X.base k f [] sp) (hr : Rm (k + 1) X.A) (he : PE X e te) :
    PE X (.FormattedValue e (-1) none pos) (tFmtO C sp te) := by
  refine ⟨fun pins s σ H Q I h => ?_⟩
  refine wpAny_FormattedValue_plain (thn (he.run pins s σ H _ I h) fun v s1 hv => ?_)
  obtain ⟨x, H1, I1, r1, a, dx, fs, ex, ha, hsp⟩ := hv
  cases ex
  obtain rfl : v = Value.ref a := r1
  obtain ⟨mA, J, _⟩ := ins_get I1.hok ha
  obtain ⟨od, J, _⟩ := J.look
  have run := run_fcA (A := X.A.in1) (W := fun _ _ _ _ => False) (us := [.ref a]) (ws := []) (vs := [.ref a]) (σ := σ) F hr.in1 rfl takes0 (I1.tok (s1.toks + 1)) (.cons rfl .nil) rfl hsp
  refine PySem.W.kfo_fieldS (by have := hr.in1.rm.un; omega) I1.kIn J hF.fm hF.ob hm.at_ hm.fn (wpAny_mono run (fun v s' hv => ?_) fun _ _ y => y)
  obtain ⟨z, H', I', rz, gz, q⟩ := hv
  cases z with
  | str y =>
    obtain ⟨t, rfl⟩ := rz
    exact ⟨.str y, H', I', ⟨t, rfl⟩, q⟩
  | _ => exact gz.elim
end
end L3
set_option Elab.async false
set_option linter.all false
set_option maxRecDepth 100000
set_option maxHeartbeats 4000000
namespace Toy
open PySem PySem.Spec PyProof.Rows L2 L3
def top (i : Nat) : Stmt := PySem.Challenge.pw_shortgoings_k71_cards_written.main.body.getD i (.Pass ⟨0, 0, 0, 0⟩)
abbrev s_is_whole : Stmt := top 15
abbrev s_is_moment : Stmt := top 16
abbrev s_want_moment : Stmt := top 17
abbrev s_clock_of : Stmt := top 18
abbrev s_show_moment : Stmt := top 19
abbrev s_want_day : Stmt := top 24
abbrev s_are_signs : Stmt := top 25
abbrev s_Ring_init : Stmt := inClass (top 26) 0
abbrev s_Ring_str : Stmt := inClass (top 26) 3
abbrev s_Ring_rings : Stmt := inClass (top 26) 5
abbrev s_told_days : Stmt := top 33
abbrev s_want_till : Stmt := top 34
abbrev s_Days_init : Stmt := inClass (top 35) 0
abbrev s_Days_str : Stmt := inClass (top 35) 2
abbrev s_Days_has : Stmt := inClass (top 35) 4
abbrev s_is_name : Stmt := top 44
abbrev s_notes_of : Stmt := top 45
abbrev s_is_number : Stmt := top 50
abbrev s_all_rising : Stmt := top 52
abbrev s_shorts_in : Stmt := top 53
abbrev s_row_moments : Stmt := top 54
abbrev s_row_many : Stmt := top 55
abbrev s_row_text : Stmt := top 56
abbrev s_At_init : Stmt := inClass (top 57) 0
abbrev s_At_moments : Stmt := inClass (top 57) 1
abbrev s_At_begins : Stmt := inClass (top 57) 3
abbrev s_At_ends : Stmt := inClass (top 57) 4
abbrev s_At_means_many : Stmt := inClass (top 57) 5
abbrev s_At_nested : Stmt := inClass (top 57) 6
abbrev s_At_str : Stmt := inClass (top 57) 7
abbrev s_Over_init : Stmt := inClass (top 58) 0
abbrev s_Over_moments : Stmt := inClass (top 58) 2
abbrev s_Over_begins : Stmt := inClass (top 58) 4
abbrev s_Over_ends : Stmt := inClass (top 58) 5
abbrev s_Over_means_many : Stmt := inClass (top 58) 6
abbrev s_Over_nested : Stmt := inClass (top 58) 7
abbrev s_Over_str : Stmt := inClass (top 58) 8
abbrev s_Spread_init : Stmt := inClass (top 60) 0
abbrev s_Spread_moments : Stmt := inClass (top 60) 2
abbrev s_Spread_str : Stmt := inClass (top 60) 6
abbrev s_want : Stmt := top 64
abbrev s_Card_init : Stmt := inClass (top 65) 0
abbrev s_Card_inner : Stmt := inClass (top 65) 1
abbrev s_Once_init : Stmt := inClass (top 66) 0
abbrev s_Every_init : Stmt := inClass (top 67) 0
abbrev s_Join_init : Stmt := inClass (top 68) 0
abbrev s_Less_init : Stmt := inClass (top 69) 0
abbrev s_Swap_init : Stmt := inClass (top 70) 0
abbrev s_Later_init : Stmt := inClass (top 71) 0
abbrev s_Noted_init : Stmt := inClass (top 72) 0
abbrev s_As_init : Stmt := inClass (top 73) 0
abbrev s_notes_text : Stmt := top 80
abbrev s_row_of : Stmt := top 81
abbrev s_rows_of : Stmt := top 82
abbrev s_show_card : Stmt := top 83
abbrev s__law_pot : Stmt := top 85
abbrev s__law_draw : Stmt := top 86
abbrev s__law_moment : Stmt := top 87
abbrev s__law_spread_text : Stmt := top 88
abbrev s__law_days_text : Stmt := top 89
abbrev s__law_row : Stmt := top 90
abbrev s__law_inner : Stmt := top 91
abbrev s__law_rows : Stmt := top 92
abbrev s__law_written : Stmt := top 93
abbrev s__law_name : Stmt := top 94
abbrev s__law_notes : Stmt := top 95
abbrev s__law_means : Stmt := top 96
abbrev s__law_spread : Stmt := top 97
abbrev s__law_days : Stmt := top 98
abbrev s__law_card : Stmt := top 99
abbrev s__law_whole_card : Stmt := top 100
abbrev s__law_made_parts : Stmt := top 101
abbrev s__law_made_spread : Stmt := top 102
abbrev s__law_made_days : Stmt := top 103
abbrev s__law_made_leaf : Stmt := top 104
abbrev s__law_made : Stmt := top 105
abbrev s__law_refused : Stmt := top 106
abbrev s__law_right : Stmt := top 107
abbrev s__law_twice_right : Stmt := top 108
abbrev s_law : Stmt := top 109
def xf1 : List Fx := [fun K => (He.Fa.glo "is_whole").ok K,
  fun K => (He.Fa.glo "is_moment").ok K,
  fun K => (He.Fa.glo "want_moment").ok K,
  fun K => (He.Fa.glo "clock_of").ok K,
  fun K => (He.Fa.glo "show_moment").ok K,
  fun K => (He.Fa.glo "want_day").ok K,
  fun K => (He.Fa.glo "are_signs").ok K,
  fun K => (He.Fa.glo "told_days").ok K,
  fun K => (He.Fa.glo "want_till").ok K,
  fun K => (He.Fa.glo "is_name").ok K,
  fun K => (He.Fa.glo "notes_of").ok K,
  fun K => (He.Fa.glo "is_number").ok K,
  fun K => (He.Fa.glo "all_rising").ok K,
  fun K => (He.Fa.glo "shorts_in").ok K,
  fun K => (He.Fa.glo "row_moments").ok K,
  fun K => (He.Fa.glo "row_many").ok K,
  fun K => (He.Fa.glo "row_text").ok K,
  fun K => (He.Fa.glo "want").ok K,
  fun K => (He.Fa.glo "notes_text").ok K,
  fun K => (He.Fa.glo "row_of").ok K,
  fun K => (He.Fa.glo "rows_of").ok K,
  fun K => (He.Fa.glo "show_card").ok K,
  fun K => (He.Fa.glo "_law_pot").ok K,
  fun K => (He.Fa.glo "_law_draw").ok K,
  fun K => (He.Fa.glo "_law_moment").ok K,
  fun K => (He.Fa.glo "_law_spread_text").ok K,
  fun K => (He.Fa.glo "_law_days_text").ok K,
  fun K => (He.Fa.glo "_law_row").ok K,
  fun K => (He.Fa.glo "_law_inner").ok K,
  fun K => (He.Fa.glo "_law_rows").ok K,
  fun K => (He.Fa.glo "_law_written").ok K,
  fun K => (He.Fa.glo "_law_name").ok K,
  fun K => (He.Fa.glo "_law_notes").ok K,
  fun K => (He.Fa.glo "_law_means").ok K,
  fun K => (He.Fa.glo "_law_spread").ok K,
  fun K => (He.Fa.glo "_law_days").ok K,
  fun K => (He.Fa.glo "_law_card").ok K,
  fun K => (He.Fa.glo "_law_whole_card").ok K,
  fun K => (He.Fa.glo "_law_made_parts").ok K,
  fun K => (He.Fa.glo "_law_made_spread").ok K,
  fun K => (He.Fa.glo "_law_made_days").ok K,
  fun K => (He.Fa.glo "_law_made_leaf").ok K,
  fun K => (He.Fa.glo "_law_made").ok K,
  fun K => (He.Fa.glo "_law_refused").ok K,
  fun K => (He.Fa.glo "_law_right").ok K,
  fun K => (He.Fa.glo "_law_twice_right").ok K,
  fun K => (He.Fa.glo "law").ok K,
  fun K => (He.Fa.int "HOUR" (60)).ok K,
  fun K => (He.Fa.int "DAY" (1440)).ok K,
  fun K => (He.Fa.str "COLON" ":").ok K,
  fun K => (He.Fa.str "BLANK" " ").ok K,
  fun K => (He.Fa.int "MOST_SIGNS" (7)).ok K,
  fun K => (He.Fa.str "NOUGHT" "0").ok K,
  fun K => (He.Fa.str "ONE" "1").ok K,
  fun K => (He.Fa.int "MOST_DAYS" (8)).ok K,
  fun K => (He.Fa.str "FROM" "from").ok K,
  fun K => (He.Fa.str "TO" "to").ok K,
  fun K => (He.Fa.str "NOT" "not").ok K,
  fun K => (He.Fa.str "ALSO" "also").ok K,
  fun K => (He.Fa.str "NAME_SIGNS" "abcdefghijklmnopqrstuvwxyz").ok K,
  fun K => (He.Fa.int "LONGEST_NAME" (8)).ok K,
  fun K => (He.Fa.int "MOST_MOMENTS" (1440)).ok K,
  fun K => (He.Fa.int "MOST_NESTED" (8)).ok K,
  fun K => (He.Fa.str "NO_PARTS" "-").ok K,
  fun K => (He.Fa.int "MOST_CARDS" (60)).ok K,
  fun K => (He.Fa.int "LATEST" (10080)).ok K,
  fun K => (He.Fa.str "DEEPER" "  ").ok K,
  fun K => (He.Fa.str "NOTE" " note ").ok K,
  fun K => (He.Fa.str "AT" " at ").ok K,
  fun K => (He.Fa.str "JOIN" "join").ok K,
  fun K => (He.Fa.str "LESS" "less").ok K,
  fun K => (He.Fa.free "LookupError").ok K,
  fun K => (He.Fa.free "RuntimeError").ok K,
  fun K => (He.Fa.free "ValueError").ok K,
  fun K => (He.Fa.free "all").ok K,
  fun K => (He.Fa.free "any").ok K,
  fun K => (He.Fa.free "bool").ok K,
  fun K => (He.Fa.free "dict").ok K,
  fun K => (He.Fa.free "divmod").ok K,
  fun K => (He.Fa.free "int").ok K,
  fun K => (He.Fa.free "isinstance").ok K,
  fun K => (He.Fa.free "len").ok K,
  fun K => (He.Fa.free "list").ok K,
  fun K => (He.Fa.free "max").ok K,
  fun K => (He.Fa.free "min").ok K,
  fun K => (He.Fa.free "range").ok K,
  fun K => (He.Fa.free "set").ok K,
  fun K => (He.Fa.free "sorted").ok K,
  fun K => (He.Fa.free "str").ok K,
  fun K => (He.Fa.free "sum").ok K,
  fun K => (He.Fa.free "tuple").ok K,
  fun K => (He.Fa.free "zip").ok K,
  fun K => (He.Fa.glo "GoingError").ok K,
  fun K => (He.Fa.glo "NoTime").ok K,
  exoB bmV "ValueError.__new__" "NoTime",
  fun K => (He.Fa.glo "NoPiece").ok K,
  exoB bmV "ValueError.__new__" "NoPiece",
  fun K => (He.Fa.glo "NoDays").ok K,
  exoB bmV "ValueError.__new__" "NoDays",
  fun K => (He.Fa.glo "NoCard").ok K,
  exoB bmV "ValueError.__new__" "NoCard",
  fun K => (He.Fa.glo "NoName").ok K,
  fun K => (He.Fa.glo "NoRow").ok K,
  fun K => (He.Fa.glo "NoText").ok K,
  fun K => (He.Fa.glo "Ring").ok K,
  fun K => (He.Fa.glo "Days").ok K,
  fun K => (He.Fa.glo "Short").ok K,
  fun K => (He.Fa.glo "At").ok K,
  fun K => (He.Fa.glo "Over").ok K,
  fun K => (He.Fa.glo "Spread").ok K,
  fun K => (He.Fa.glo "Card").ok K,
  fun K => (He.Fa.glo "Once").ok K,
  fun K => (He.Fa.glo "Every").ok K,
  fun K => (He.Fa.glo "Join").ok K,
  fun K => (He.Fa.glo "Less").ok K,
  fun K => (He.Fa.glo "Swap").ok K,
  fun K => (He.Fa.glo "Later").ok K,
  fun K => (He.Fa.glo "Noted").ok K,
  fun K => (He.Fa.glo "As").ok K,
  clsMF "Card" "__init__",
  fun K => (He.Fa.cls "Ring").ok K,
  insB "Ring",
  fun K => (He.Fa.noat "Ring" "bits").ok K,
  fun K => (He.Fa.meth "Ring" "__str__").ok K,
  fun K => (He.Fa.meth "Ring" "rings").ok K,
  fun K => (He.Fa.mkr "Ring").ok K,
  kitF "Ring" "Ring" true,
  kitF "Ring" "Card" false,
  fun K => (He.Fa.cls "Days").ok K,
  insB "Days",
  fun K => (He.Fa.noat "Days" "ring").ok K,
  fun K => (He.Fa.noat "Days" "since").ok K,
  fun K => (He.Fa.noat "Days" "till").ok K,
  fun K => (He.Fa.noat "Days" "out").ok K,
  fun K => (He.Fa.noat "Days" "also").ok K,
  fun K => (He.Fa.meth "Days" "__str__").ok K,
  fun K => (He.Fa.mkr "Days").ok K,
  fmtB "Days",
  kitF "Days" "Days" true,
  fun K => (He.Fa.cls "At").ok K,
  insB "At",
  fun K => (He.Fa.noat "At" "moment").ok K,
  fun K => (He.Fa.meth "At" "moments").ok K,
  fun K => (He.Fa.meth "At" "begins").ok K,
  fun K => (He.Fa.meth "At" "ends").ok K,
  fun K => (He.Fa.meth "At" "means_many").ok K,
  fun K => (He.Fa.meth "At" "nested").ok K,
  fun K => (He.Fa.meth "At" "__str__").ok K,
  fun K => (He.Fa.mkr "At").ok K,
  kitF "At" "Short" true,
  fun K => (He.Fa.cls "Over").ok K]
def xf2 : List Fx := [insB "Over",
  fun K => (He.Fa.noat "Over" "kept").ok K,
  fun K => (He.Fa.noat "Over" "many").ok K,
  fun K => (He.Fa.noat "Over" "step").ok K,
  fun K => (He.Fa.meth "Over" "moments").ok K,
  fun K => (He.Fa.meth "Over" "begins").ok K,
  fun K => (He.Fa.meth "Over" "ends").ok K,
  fun K => (He.Fa.meth "Over" "means_many").ok K,
  fun K => (He.Fa.meth "Over" "nested").ok K,
  fun K => (He.Fa.meth "Over" "__str__").ok K,
  fun K => (He.Fa.mkr "Over").ok K,
  kitF "Over" "Short" true,
  fun K => (He.Fa.cls "Spread").ok K,
  insB "Spread",
  fun K => (He.Fa.noat "Spread" "kept").ok K,
  fun K => (He.Fa.noat "Spread" "held").ok K,
  fun K => (He.Fa.meth "Spread" "moments").ok K,
  fun K => (He.Fa.meth "Spread" "__str__").ok K,
  fun K => (He.Fa.mkr "Spread").ok K,
  fmtB "Spread",
  kitF "Spread" "Spread" true,
  kitF "Spread" "Card" false,
  fun K => (He.Fa.cls "Once").ok K,
  insB "Once",
  fun K => (He.Fa.noat "Once" "spread").ok K,
  fun K => (He.Fa.noat "Once" "notes").ok K,
  fun K => (He.Fa.noat "Once" "own").ok K,
  fun K => (He.Fa.noat "Once" "held").ok K,
  fun K => (He.Fa.noat "Once" "weight").ok K,
  fun K => (He.Fa.meth "Once" "inner").ok K,
  sameF "Once" "Card" "inner",
  fun K => (He.Fa.mkr "Once").ok K,
  kitF "Once" "Card" true,
  kitF "Once" "Once" true,
  fun K => (He.Fa.cls "Every").ok K,
  insB "Every",
  fun K => (He.Fa.noat "Every" "days").ok K,
  fun K => (He.Fa.noat "Every" "spread").ok K,
  fun K => (He.Fa.noat "Every" "notes").ok K,
  fun K => (He.Fa.noat "Every" "own").ok K,
  fun K => (He.Fa.noat "Every" "held").ok K,
  fun K => (He.Fa.noat "Every" "weight").ok K,
  fun K => (He.Fa.meth "Every" "inner").ok K,
  sameF "Every" "Card" "inner",
  fun K => (He.Fa.mkr "Every").ok K,
  kitF "Every" "Card" true,
  kitF "Every" "Once" false,
  kitF "Every" "Every" true,
  fun K => (He.Fa.cls "Join").ok K,
  insB "Join",
  fun K => (He.Fa.noat "Join" "held").ok K,
  fun K => (He.Fa.noat "Join" "weight").ok K,
  fun K => (He.Fa.meth "Join" "inner").ok K,
  sameF "Join" "Card" "inner",
  fun K => (He.Fa.mkr "Join").ok K,
  kitF "Join" "Card" true,
  kitF "Join" "Once" false,
  kitF "Join" "Every" false,
  kitF "Join" "Join" true,
  fun K => (He.Fa.cls "Less").ok K,
  insB "Less",
  fun K => (He.Fa.noat "Less" "held").ok K,
  fun K => (He.Fa.noat "Less" "weight").ok K,
  fun K => (He.Fa.meth "Less" "inner").ok K,
  sameF "Less" "Card" "inner",
  fun K => (He.Fa.mkr "Less").ok K,
  kitF "Less" "Card" true,
  kitF "Less" "Once" false,
  kitF "Less" "Every" false,
  kitF "Less" "Join" false,
  kitF "Less" "Less" true,
  fun K => (He.Fa.cls "Swap").ok K,
  insB "Swap",
  fun K => (He.Fa.noat "Swap" "days").ok K,
  fun K => (He.Fa.noat "Swap" "held").ok K,
  fun K => (He.Fa.noat "Swap" "weight").ok K,
  fun K => (He.Fa.meth "Swap" "inner").ok K,
  sameF "Swap" "Card" "inner",
  fun K => (He.Fa.mkr "Swap").ok K,
  kitF "Swap" "Card" true,
  kitF "Swap" "Once" false,
  kitF "Swap" "Every" false,
  kitF "Swap" "Join" false,
  kitF "Swap" "Less" false,
  kitF "Swap" "Swap" true,
  fun K => (He.Fa.cls "Later").ok K,
  insB "Later",
  fun K => (He.Fa.noat "Later" "minutes").ok K,
  fun K => (He.Fa.noat "Later" "held").ok K,
  fun K => (He.Fa.noat "Later" "weight").ok K,
  fun K => (He.Fa.meth "Later" "inner").ok K,
  sameF "Later" "Card" "inner",
  fun K => (He.Fa.mkr "Later").ok K,
  kitF "Later" "Card" true,
  kitF "Later" "Once" false,
  kitF "Later" "Every" false,
  kitF "Later" "Join" false,
  kitF "Later" "Less" false,
  kitF "Later" "Swap" false,
  kitF "Later" "Later" true,
  fun K => (He.Fa.cls "Noted").ok K,
  insB "Noted",
  fun K => (He.Fa.noat "Noted" "note").ok K,
  fun K => (He.Fa.noat "Noted" "held").ok K,
  fun K => (He.Fa.noat "Noted" "weight").ok K,
  fun K => (He.Fa.meth "Noted" "inner").ok K,
  sameF "Noted" "Card" "inner",
  fun K => (He.Fa.mkr "Noted").ok K,
  kitF "Noted" "Card" true,
  kitF "Noted" "Once" false,
  kitF "Noted" "Every" false,
  kitF "Noted" "Join" false,
  kitF "Noted" "Less" false,
  kitF "Noted" "Swap" false,
  kitF "Noted" "Later" false,
  kitF "Noted" "Noted" true,
  fun K => (He.Fa.cls "As").ok K,
  insB "As",
  fun K => (He.Fa.noat "As" "name").ok K,
  fun K => (He.Fa.noat "As" "held").ok K,
  fun K => (He.Fa.noat "As" "weight").ok K,
  fun K => (He.Fa.meth "As" "inner").ok K,
  sameF "As" "Card" "inner",
  fun K => (He.Fa.mkr "As").ok K,
  kitF "As" "Card" true,
  kitF "As" "Once" false,
  kitF "As" "Every" false,
  kitF "As" "Join" false,
  kitF "As" "Less" false,
  kitF "As" "Swap" false,
  kitF "As" "Later" false,
  kitF "As" "Noted" false,
  kitBF "int" "Card" false,
  kitBF "bool" "Card" false,
  kitBF "str" "Card" false,
  kitBF "NoneType" "Card" false,
  kitBF "list" "Card" false,
  kitBF "tuple" "Card" false,
  kitBF "dict" "Card" false,
  exm1F "NoCard" "GoingError" true,
  excCB "NoCard",
  kitF "NoCard" "NoTime" false,
  kitF "NoCard" "NoPiece" false,
  kitF "NoCard" "NoDays" false,
  kitF "NoCard" "NoCard" true,
  kitF "NoCard" "NoName" false,
  kitF "NoCard" "NoRow" false,
  kitF "NoCard" "NoText" false,
  kitFT "NoCard" "ValueError" true,
  kitFT "NoCard" "LookupError" false,
  kitFT "NoCard" "RuntimeError" false]
def xf : List Fx := xf1 ++ xf2
def d_is_whole : He.DefD := ⟨("is_whole", none), "is_whole", "is_whole", defArgs s_is_whole, defBody s_is_whole, defScope s_is_whole, [], []⟩
def d_is_moment : He.DefD := ⟨("is_moment", none), "is_moment", "is_moment", defArgs s_is_moment, defBody s_is_moment, defScope s_is_moment, [], []⟩
def d_want_moment : He.DefD := ⟨("want_moment", none), "want_moment", "want_moment", defArgs s_want_moment, defBody s_want_moment, defScope s_want_moment, [], []⟩
def d_clock_of : He.DefD := ⟨("clock_of", none), "clock_of", "clock_of", defArgs s_clock_of, defBody s_clock_of, defScope s_clock_of, [], []⟩
def d_show_moment : He.DefD := ⟨("show_moment", none), "show_moment", "show_moment", defArgs s_show_moment, defBody s_show_moment, defScope s_show_moment, [], []⟩
def d_want_day : He.DefD := ⟨("want_day", none), "want_day", "want_day", defArgs s_want_day, defBody s_want_day, defScope s_want_day, [], []⟩
def d_are_signs : He.DefD := ⟨("are_signs", none), "are_signs", "are_signs", defArgs s_are_signs, defBody s_are_signs, defScope s_are_signs, [], []⟩
def d_Ring_init : He.DefD := ⟨("Ring", some "__init__"), "__init__", "Ring.__init__", defArgs s_Ring_init, defBody s_Ring_init, defScope s_Ring_init, [], []⟩
def d_Ring_str : He.DefD := ⟨("Ring", some "__str__"), "__str__", "Ring.__str__", defArgs s_Ring_str, defBody s_Ring_str, defScope s_Ring_str, [], []⟩
def d_Ring_rings : He.DefD := ⟨("Ring", some "rings"), "rings", "Ring.rings", defArgs s_Ring_rings, defBody s_Ring_rings, defScope s_Ring_rings, [], []⟩
def d_told_days : He.DefD := ⟨("told_days", none), "told_days", "told_days", defArgs s_told_days, defBody s_told_days, defScope s_told_days, [], []⟩
def d_want_till : He.DefD := ⟨("want_till", none), "want_till", "want_till", defArgs s_want_till, defBody s_want_till, defScope s_want_till, [], []⟩
def d_Days_init : He.DefD := ⟨("Days", some "__init__"), "__init__", "Days.__init__", defArgs s_Days_init, defBody s_Days_init, defScope s_Days_init, [.int (0), .non, .non, .non], []⟩
def d_Days_str : He.DefD := ⟨("Days", some "__str__"), "__str__", "Days.__str__", defArgs s_Days_str, defBody s_Days_str, defScope s_Days_str, [], []⟩
def d_Days_has : He.DefD := ⟨("Days", some "has"), "has", "Days.has", defArgs s_Days_has, defBody s_Days_has, defScope s_Days_has, [], []⟩
def d_is_name : He.DefD := ⟨("is_name", none), "is_name", "is_name", defArgs s_is_name, defBody s_is_name, defScope s_is_name, [], []⟩
def d_notes_of : He.DefD := ⟨("notes_of", none), "notes_of", "notes_of", defArgs s_notes_of, defBody s_notes_of, defScope s_notes_of, [], []⟩
def d_is_number : He.DefD := ⟨("is_number", none), "is_number", "is_number", defArgs s_is_number, defBody s_is_number, defScope s_is_number, [], []⟩
def d_all_rising : He.DefD := ⟨("all_rising", none), "all_rising", "all_rising", defArgs s_all_rising, defBody s_all_rising, defScope s_all_rising, [], []⟩
def d_shorts_in : He.DefD := ⟨("shorts_in", none), "shorts_in", "shorts_in", defArgs s_shorts_in, defBody s_shorts_in, defScope s_shorts_in, [], []⟩
def d_row_moments : He.DefD := ⟨("row_moments", none), "row_moments", "row_moments", defArgs s_row_moments, defBody s_row_moments, defScope s_row_moments, [], []⟩
def d_row_many : He.DefD := ⟨("row_many", none), "row_many", "row_many", defArgs s_row_many, defBody s_row_many, defScope s_row_many, [], []⟩
def d_row_text : He.DefD := ⟨("row_text", none), "row_text", "row_text", defArgs s_row_text, defBody s_row_text, defScope s_row_text, [], []⟩
def d_At_init : He.DefD := ⟨("At", some "__init__"), "__init__", "At.__init__", defArgs s_At_init, defBody s_At_init, defScope s_At_init, [], []⟩
def d_At_moments : He.DefD := ⟨("At", some "moments"), "moments", "At.moments", defArgs s_At_moments, defBody s_At_moments, defScope s_At_moments, [], []⟩
def d_At_begins : He.DefD := ⟨("At", some "begins"), "begins", "At.begins", defArgs s_At_begins, defBody s_At_begins, defScope s_At_begins, [], []⟩
def d_At_ends : He.DefD := ⟨("At", some "ends"), "ends", "At.ends", defArgs s_At_ends, defBody s_At_ends, defScope s_At_ends, [], []⟩
def d_At_means_many : He.DefD := ⟨("At", some "means_many"), "means_many", "At.means_many", defArgs s_At_means_many, defBody s_At_means_many, defScope s_At_means_many, [], []⟩
def d_At_nested : He.DefD := ⟨("At", some "nested"), "nested", "At.nested", defArgs s_At_nested, defBody s_At_nested, defScope s_At_nested, [], []⟩
def d_At_str : He.DefD := ⟨("At", some "__str__"), "__str__", "At.__str__", defArgs s_At_str, defBody s_At_str, defScope s_At_str, [], []⟩
def d_Over_init : He.DefD := ⟨("Over", some "__init__"), "__init__", "Over.__init__", defArgs s_Over_init, defBody s_Over_init, defScope s_Over_init, [.int (2), .int (60)], []⟩
def d_Over_moments : He.DefD := ⟨("Over", some "moments"), "moments", "Over.moments", defArgs s_Over_moments, defBody s_Over_moments, defScope s_Over_moments, [], []⟩
def d_Over_begins : He.DefD := ⟨("Over", some "begins"), "begins", "Over.begins", defArgs s_Over_begins, defBody s_Over_begins, defScope s_Over_begins, [], []⟩
def d_Over_ends : He.DefD := ⟨("Over", some "ends"), "ends", "Over.ends", defArgs s_Over_ends, defBody s_Over_ends, defScope s_Over_ends, [], []⟩
def d_Over_means_many : He.DefD := ⟨("Over", some "means_many"), "means_many", "Over.means_many", defArgs s_Over_means_many, defBody s_Over_means_many, defScope s_Over_means_many, [], []⟩
def d_Over_nested : He.DefD := ⟨("Over", some "nested"), "nested", "Over.nested", defArgs s_Over_nested, defBody s_Over_nested, defScope s_Over_nested, [], []⟩
def d_Over_str : He.DefD := ⟨("Over", some "__str__"), "__str__", "Over.__str__", defArgs s_Over_str, defBody s_Over_str, defScope s_Over_str, [], []⟩
def d_Spread_init : He.DefD := ⟨("Spread", some "__init__"), "__init__", "Spread.__init__", defArgs s_Spread_init, defBody s_Spread_init, defScope s_Spread_init, [], []⟩
def d_Spread_moments : He.DefD := ⟨("Spread", some "moments"), "moments", "Spread.moments", defArgs s_Spread_moments, defBody s_Spread_moments, defScope s_Spread_moments, [], []⟩
def d_Spread_str : He.DefD := ⟨("Spread", some "__str__"), "__str__", "Spread.__str__", defArgs s_Spread_str, defBody s_Spread_str, defScope s_Spread_str, [], []⟩
def d_want : He.DefD := ⟨("want", none), "want", "want", defArgs s_want, defBody s_want, defScope s_want, [], []⟩
def d_Card_init : He.DefD := ⟨("Card", some "__init__"), "__init__", "Card.__init__", defArgs s_Card_init, defBody s_Card_init, defScope s_Card_init, [], []⟩
def d_Card_inner : He.DefD := ⟨("Card", some "inner"), "inner", "Card.inner", defArgs s_Card_inner, defBody s_Card_inner, defScope s_Card_inner, [], []⟩
def d_Once_init : He.DefD := ⟨("Once", some "__init__"), "__init__", "Once.__init__", defArgs s_Once_init, defBody s_Once_init, defScope s_Once_init, [.non], []⟩
def d_Every_init : He.DefD := ⟨("Every", some "__init__"), "__init__", "Every.__init__", defArgs s_Every_init, defBody s_Every_init, defScope s_Every_init, [.non], []⟩
def d_Join_init : He.DefD := ⟨("Join", some "__init__"), "__init__", "Join.__init__", defArgs s_Join_init, defBody s_Join_init, defScope s_Join_init, [], []⟩
def d_Less_init : He.DefD := ⟨("Less", some "__init__"), "__init__", "Less.__init__", defArgs s_Less_init, defBody s_Less_init, defScope s_Less_init, [], []⟩
def d_Swap_init : He.DefD := ⟨("Swap", some "__init__"), "__init__", "Swap.__init__", defArgs s_Swap_init, defBody s_Swap_init, defScope s_Swap_init, [], []⟩
def d_Later_init : He.DefD := ⟨("Later", some "__init__"), "__init__", "Later.__init__", defArgs s_Later_init, defBody s_Later_init, defScope s_Later_init, [.int (60)], []⟩
def d_Noted_init : He.DefD := ⟨("Noted", some "__init__"), "__init__", "Noted.__init__", defArgs s_Noted_init, defBody s_Noted_init, defScope s_Noted_init, [], []⟩
def d_As_init : He.DefD := ⟨("As", some "__init__"), "__init__", "As.__init__", defArgs s_As_init, defBody s_As_init, defScope s_As_init, [], []⟩
def d_notes_text : He.DefD := ⟨("notes_text", none), "notes_text", "notes_text", defArgs s_notes_text, defBody s_notes_text, defScope s_notes_text, [], []⟩
def d_row_of : He.DefD := ⟨("row_of", none), "row_of", "row_of", defArgs s_row_of, defBody s_row_of, defScope s_row_of, [], []⟩
def d_rows_of : He.DefD := ⟨("rows_of", none), "rows_of", "rows_of", defArgs s_rows_of, defBody s_rows_of, defScope s_rows_of, [], []⟩
def d_show_card : He.DefD := ⟨("show_card", none), "show_card", "show_card", defArgs s_show_card, defBody s_show_card, defScope s_show_card, [], []⟩
def d__law_pot : He.DefD := ⟨("_law_pot", none), "_law_pot", "_law_pot", defArgs s__law_pot, defBody s__law_pot, defScope s__law_pot, [], []⟩
def d__law_draw : He.DefD := ⟨("_law_draw", none), "_law_draw", "_law_draw", defArgs s__law_draw, defBody s__law_draw, defScope s__law_draw, [], []⟩
def d__law_moment : He.DefD := ⟨("_law_moment", none), "_law_moment", "_law_moment", defArgs s__law_moment, defBody s__law_moment, defScope s__law_moment, [], []⟩
def d__law_spread_text : He.DefD := ⟨("_law_spread_text", none), "_law_spread_text", "_law_spread_text", defArgs s__law_spread_text, defBody s__law_spread_text, defScope s__law_spread_text, [], []⟩
def d__law_days_text : He.DefD := ⟨("_law_days_text", none), "_law_days_text", "_law_days_text", defArgs s__law_days_text, defBody s__law_days_text, defScope s__law_days_text, [], []⟩
def d__law_row : He.DefD := ⟨("_law_row", none), "_law_row", "_law_row", defArgs s__law_row, defBody s__law_row, defScope s__law_row, [], []⟩
def d__law_inner : He.DefD := ⟨("_law_inner", none), "_law_inner", "_law_inner", defArgs s__law_inner, defBody s__law_inner, defScope s__law_inner, [], []⟩
def d__law_rows : He.DefD := ⟨("_law_rows", none), "_law_rows", "_law_rows", defArgs s__law_rows, defBody s__law_rows, defScope s__law_rows, [], []⟩
def d__law_written : He.DefD := ⟨("_law_written", none), "_law_written", "_law_written", defArgs s__law_written, defBody s__law_written, defScope s__law_written, [], []⟩
def d__law_name : He.DefD := ⟨("_law_name", none), "_law_name", "_law_name", defArgs s__law_name, defBody s__law_name, defScope s__law_name, [], []⟩
def d__law_notes : He.DefD := ⟨("_law_notes", none), "_law_notes", "_law_notes", defArgs s__law_notes, defBody s__law_notes, defScope s__law_notes, [], []⟩
def d__law_means : He.DefD := ⟨("_law_means", none), "_law_means", "_law_means", defArgs s__law_means, defBody s__law_means, defScope s__law_means, [], []⟩
def d__law_spread : He.DefD := ⟨("_law_spread", none), "_law_spread", "_law_spread", defArgs s__law_spread, defBody s__law_spread, defScope s__law_spread, [], []⟩
def d__law_days : He.DefD := ⟨("_law_days", none), "_law_days", "_law_days", defArgs s__law_days, defBody s__law_days, defScope s__law_days, [], []⟩
def d__law_card : He.DefD := ⟨("_law_card", none), "_law_card", "_law_card", defArgs s__law_card, defBody s__law_card, defScope s__law_card, [], []⟩
def d__law_whole_card : He.DefD := ⟨("_law_whole_card", none), "_law_whole_card", "_law_whole_card", defArgs s__law_whole_card, defBody s__law_whole_card, defScope s__law_whole_card, [], []⟩
def d__law_made_parts : He.DefD := ⟨("_law_made_parts", none), "_law_made_parts", "_law_made_parts", defArgs s__law_made_parts, defBody s__law_made_parts, defScope s__law_made_parts, [], []⟩
def d__law_made_spread : He.DefD := ⟨("_law_made_spread", none), "_law_made_spread", "_law_made_spread", defArgs s__law_made_spread, defBody s__law_made_spread, defScope s__law_made_spread, [], []⟩
def d__law_made_days : He.DefD := ⟨("_law_made_days", none), "_law_made_days", "_law_made_days", defArgs s__law_made_days, defBody s__law_made_days, defScope s__law_made_days, [], []⟩
def d__law_made_leaf : He.DefD := ⟨("_law_made_leaf", none), "_law_made_leaf", "_law_made_leaf", defArgs s__law_made_leaf, defBody s__law_made_leaf, defScope s__law_made_leaf, [], []⟩
def d__law_made : He.DefD := ⟨("_law_made", none), "_law_made", "_law_made", defArgs s__law_made, defBody s__law_made, defScope s__law_made, [], []⟩
def d__law_refused : He.DefD := ⟨("_law_refused", none), "_law_refused", "_law_refused", defArgs s__law_refused, defBody s__law_refused, defScope s__law_refused, [], []⟩
def d__law_right : He.DefD := ⟨("_law_right", none), "_law_right", "_law_right", defArgs s__law_right, defBody s__law_right, defScope s__law_right, [], []⟩
def d__law_twice_right : He.DefD := ⟨("_law_twice_right", none), "_law_twice_right", "_law_twice_right", defArgs s__law_twice_right, defBody s__law_twice_right, defScope s__law_twice_right, [], []⟩
def d_law : He.DefD := ⟨("law", none), "law", "law", defArgs s_law, defBody s_law, defScope s_law, [], []⟩
def fn : List He.DefD := [d_is_whole, d_is_moment, d_want_moment, d_clock_of, d_show_moment, d_want_day, d_are_signs, d_Ring_init, d_Ring_str, d_Ring_rings, d_told_days, d_want_till, d_Days_init, d_Days_str, d_Days_has, d_is_name, d_notes_of, d_is_number, d_all_rising, d_shorts_in, d_row_moments, d_row_many, d_row_text, d_At_init, d_At_moments, d_At_begins, d_At_ends, d_At_means_many, d_At_nested, d_At_str, d_Over_init, d_Over_moments, d_Over_begins, d_Over_ends, d_Over_means_many, d_Over_nested, d_Over_str, d_Spread_init, d_Spread_moments, d_Spread_str, d_want, d_Card_init, d_Card_inner, d_Once_init, d_Every_init, d_Join_init, d_Less_init, d_Swap_init, d_Later_init, d_Noted_init, d_As_init, d_notes_text, d_row_of, d_rows_of, d_show_card, d__law_pot, d__law_draw, d__law_moment, d__law_spread_text, d__law_days_text, d__law_row, d__law_inner, d__law_rows, d__law_written, d__law_name, d__law_notes, d__law_means, d__law_spread, d__law_days, d__law_card, d__law_whole_card, d__law_made_parts, d__law_made_spread, d__law_made_days, d__law_made_leaf, d__law_made, d__law_refused, d__law_right, d__law_twice_right, d_law]
abbrev R : PySem.W.OpenRow := PySem.W.OpenLaw.row PySem.Challenge.rw_shortgoings_k71_cards_written
def adr0 : List Addr := [3, 705, 704, 583, 771, 739, 582, 511, 849, 883, 909, 928, 510, 797, 823, 308, 307, 80, 651, 770, 650, 738, 229, 414, 228, 848, 882, 908, 927, 681]
def adr1 : List Addr := [413, 796, 822, 31, 30, 44, 56, 68, 79, 186, 207, 221, 258, 270, 459, 466, 480, 487, 494, 501, 508, 528, 540, 554, 561, 568, 573, 580, 599, 613]
def adr2 : List Addr := [641, 674, 722, 754, 787, 813, 839, 866, 899, 925, 2, 92, 104, 123, 132, 139, 146, 153, 160, 167, 172, 238, 245, 350, 355, 362, 423, 428, 435, 440]
def adr3 : List Addr := [445, 662, 937, 944, 951, 956, 963, 970, 977, 984, 991, 998, 1005, 1012, 1017, 1022, 1029, 1034, 1041, 1046, 1051, 1058, 1065, 1072, 1079, 1086, 1091, 1098, 1105, 1112]
def adr4 : List Addr := [1119, 43, 55, 67, 131, 138, 145, 152, 159, 166, 171, 237, 244, 349, 354, 361, 422, 427, 434, 439, 444, 661, 936, 943, 950, 955, 962, 969, 976, 983]
def adr5 : List Addr := [990, 997, 1004, 1011, 1016, 1021, 1028, 1033, 1040, 1045, 1050, 1057, 1064, 1071, 1078, 1085, 1090, 1097, 1104, 1111, 1118, 284, 185, 206, 220, 257, 253, 269, 283, 458]
def adr6 : List Addr := [465, 479, 486, 493, 500, 507, 527, 521, 539, 553, 560, 567, 572, 579, 598, 612, 640, 673, 680, 721, 717, 753, 749, 786, 812, 838, 865, 859, 898, 924]
def adr : List Addr := adr0 ++ adr1 ++ adr2 ++ adr3 ++ adr4 ++ adr5 ++ adr6
abbrev hk : PySem.W.Hook := hookA adr xf fn
def ob (s : PySem.W.SharedT) : He.AlD := obsA adr xf fn (HandSHeadRun.getT s)
theorem ob_eq (s : PySem.W.SharedT) : ob s = hk.obs s.abs := obsA_eq (HandSHeadRun.getT_eq s)
def ns0 : List PySem.Str := ["_wall", "GoingError", "NoTime", "NoPiece", "NoDays", "NoCard", "NoName", "NoRow", "NoText", "HOUR", "DAY", "COLON", "BLANK", "is_whole", "is_moment", "want_moment", "clock_of", "show_moment", "MOST_SIGNS", "NOUGHT", "ONE", "want_day", "are_signs", "Ring", "MOST_DAYS", "FROM", "TO", "NOT", "ALSO", "told_days"]
def ns1 : List PySem.Str := ["want_till", "Days", "edges_of", "stretches", "first_days", "common_round", "first_apart", "NAME_SIGNS", "LONGEST_NAME", "is_name", "notes_of", "MOST_MOMENTS", "MOST_NESTED", "NO_PARTS", "is_number", "Short", "all_rising", "shorts_in", "row_moments", "row_many", "row_text", "At", "Over", "Spread", "MOST_CARDS", "LATEST", "want", "Card", "Once", "Every"]
def ns2 : List PySem.Str := ["Join", "Less", "Swap", "Later", "Noted", "As", "DEEPER", "NOTE", "AT", "JOIN", "LESS", "notes_text", "row_of", "rows_of", "show_card", "_law_pot", "_law_draw", "_law_moment", "_law_spread_text", "_law_days_text", "_law_row", "_law_inner", "_law_rows", "_law_written", "_law_name", "_law_notes", "_law_means", "_law_spread", "_law_days", "_law_card"]
def ns3 : List PySem.Str := ["_law_whole_card", "_law_made_parts", "_law_made_spread", "_law_made_days", "_law_made_leaf", "_law_made", "_law_refused", "_law_right", "_law_twice_right"]
def nss : List PySem.Str := ns0 ++ ns1 ++ ns2 ++ ns3
theorem run_a (w : World) : HandSHeadRun.RunA R (PySem.W.view R.prog [109]) 10900 nss w := by
  intro os
  kernel_rfl
theorem run_b (w : World) : HandSHeadRun.RunB R 10900 (fun s => xf1.all fun p => p (He.frG (HandSHeadRun.getT s) adr)) w := by
  intro os
  kernel_rfl
theorem run_c (w : World) : HandSHeadRun.RunB R 10900 (fun s => xf2.all fun p => p (He.frG (HandSHeadRun.getT s) adr)) w := by
  intro os
  kernel_rfl
theorem run_d (w : World) : ∀ os : OsState, (HandSHeadRun.endR R 10900 w os).map (fun s => (fn.all fun d => d.ok (He.frG (HandSHeadRun.getT s) adr), fn.map fun d => He.fnW (He.frG (HandSHeadRun.getT s) adr) d.at_)) = some (true, fn.map He.DefD.val) := by
  intro os
  kernel_rfl
theorem run (w : World) : HandSHeadRun.RunEq R (PySem.W.view R.prog [109]) hk ob 10900 nss w := HandSHeadRun.runEq_of (run_a w) (runC_of rfl (run_b w) (run_c w) (run_d w))
theorem sc_is_whole : FnScope ["thing"] ["thing"] (defScope s_is_whole) := ⟨rfl, rfl, rfl, by decide +kernel, rfl, by decide +kernel, by decide +kernel⟩
theorem sc_is_moment : FnScope ["thing"] ["thing"] (defScope s_is_moment) := ⟨rfl, rfl, rfl, by decide +kernel, rfl, by decide +kernel, by decide +kernel⟩
theorem sc_want_moment : FnScope ["thing"] ["thing"] (defScope s_want_moment) := ⟨rfl, rfl, rfl, by decide +kernel, rfl, by decide +kernel, by decide +kernel⟩
theorem sc_clock_of : FnScope ["moment"] ["moment"] (defScope s_clock_of) := ⟨rfl, rfl, rfl, by decide +kernel, rfl, by decide +kernel, by decide +kernel⟩
theorem sc_show_moment : FnScope ["moment", "day", "hour", "minute", "text"] ["moment"] (defScope s_show_moment) := ⟨rfl, rfl, rfl, by decide +kernel, rfl, by decide +kernel, by decide +kernel⟩
theorem sc_want_day : FnScope ["thing"] ["thing"] (defScope s_want_day) := ⟨rfl, rfl, rfl, by decide +kernel, rfl, by decide +kernel, by decide +kernel⟩
theorem sc_are_signs : FnScope ["thing", "sign"] ["thing"] (defScope s_are_signs) := ⟨rfl, rfl, rfl, by decide +kernel, rfl, by decide +kernel, by decide +kernel⟩
theorem sc_Ring_init : FnScope ["self", "text"] ["self", "text"] (defScope s_Ring_init) := ⟨rfl, rfl, rfl, by decide +kernel, rfl, by decide +kernel, by decide +kernel⟩
theorem sc_Ring_str : FnScope ["self"] ["self"] (defScope s_Ring_str) := ⟨rfl, rfl, rfl, by decide +kernel, rfl, by decide +kernel, by decide +kernel⟩
theorem sc_told_days : FnScope ["thing", "day", "found", "one", "other"] ["thing"] (defScope s_told_days) := ⟨rfl, rfl, rfl, by decide +kernel, rfl, by decide +kernel, by decide +kernel⟩
theorem sc_want_till : FnScope ["since", "till"] ["since", "till"] (defScope s_want_till) := ⟨rfl, rfl, rfl, by decide +kernel, rfl, by decide +kernel, by decide +kernel⟩
theorem sc_Days_init : FnScope ["self", "ring", "since", "till", "out", "also", "day"] ["self", "ring", "since", "till", "out", "also"] (defScope s_Days_init) := ⟨rfl, rfl, rfl, by decide +kernel, rfl, by decide +kernel, by decide +kernel⟩
theorem sc_Days_str : FnScope ["self", "words", "word", "some", "day"] ["self"] (defScope s_Days_str) := ⟨rfl, rfl, rfl, by decide +kernel, rfl, by decide +kernel, by decide +kernel⟩
theorem sc_is_name : FnScope ["thing", "sign"] ["thing"] (defScope s_is_name) := ⟨rfl, rfl, rfl, by decide +kernel, rfl, by decide +kernel, by decide +kernel⟩
theorem sc_notes_of : FnScope ["notes", "note"] ["notes"] (defScope s_notes_of) := ⟨rfl, rfl, rfl, by decide +kernel, rfl, by decide +kernel, by decide +kernel⟩
theorem sc_is_number : FnScope ["thing", "least"] ["thing", "least"] (defScope s_is_number) := ⟨rfl, rfl, rfl, by decide +kernel, rfl, by decide +kernel, by decide +kernel⟩
theorem sc_all_rising : FnScope ["parts", "one", "other"] ["parts"] (defScope s_all_rising) := ⟨rfl, rfl, rfl, by decide +kernel, rfl, by decide +kernel, by decide +kernel⟩
theorem sc_shorts_in : FnScope ["parts", "found", "one"] ["parts"] (defScope s_shorts_in) := ⟨rfl, rfl, rfl, by decide +kernel, rfl, by decide +kernel, by decide +kernel⟩
theorem sc_row_moments : FnScope ["parts", "found", "one"] ["parts"] (defScope s_row_moments) := ⟨rfl, rfl, rfl, by decide +kernel, rfl, by decide +kernel, by decide +kernel⟩
theorem sc_row_many : FnScope ["parts", "one"] ["parts"] (defScope s_row_many) := ⟨rfl, rfl, rfl, by decide +kernel, rfl, by decide +kernel, by decide +kernel⟩
theorem sc_row_text : FnScope ["parts", "one"] ["parts"] (defScope s_row_text) := ⟨rfl, rfl, rfl, by decide +kernel, rfl, by decide +kernel, by decide +kernel⟩
theorem sc_At_init : FnScope ["self", "moment"] ["self", "moment"] (defScope s_At_init) := ⟨rfl, rfl, rfl, by decide +kernel, rfl, by decide +kernel, by decide +kernel⟩
theorem sc_At_moments : FnScope ["self"] ["self"] (defScope s_At_moments) := ⟨rfl, rfl, rfl, by decide +kernel, rfl, by decide +kernel, by decide +kernel⟩
theorem sc_At_begins : FnScope ["self"] ["self"] (defScope s_At_begins) := ⟨rfl, rfl, rfl, by decide +kernel, rfl, by decide +kernel, by decide +kernel⟩
theorem sc_At_ends : FnScope ["self"] ["self"] (defScope s_At_ends) := ⟨rfl, rfl, rfl, by decide +kernel, rfl, by decide +kernel, by decide +kernel⟩
theorem sc_At_means_many : FnScope ["self"] ["self"] (defScope s_At_means_many) := ⟨rfl, rfl, rfl, by decide +kernel, rfl, by decide +kernel, by decide +kernel⟩
theorem sc_At_nested : FnScope ["self"] ["self"] (defScope s_At_nested) := ⟨rfl, rfl, rfl, by decide +kernel, rfl, by decide +kernel, by decide +kernel⟩
theorem sc_At_str : FnScope ["self"] ["self"] (defScope s_At_str) := ⟨rfl, rfl, rfl, by decide +kernel, rfl, by decide +kernel, by decide +kernel⟩
theorem sc_Over_init : FnScope ["self", "parts", "many", "step"] ["self", "parts", "many", "step"] (defScope s_Over_init) := ⟨rfl, rfl, rfl, by decide +kernel, rfl, by decide +kernel, by decide +kernel⟩
theorem sc_Over_moments : FnScope ["self", "own", "found", "time", "moment"] ["self"] (defScope s_Over_moments) := ⟨rfl, rfl, rfl, by decide +kernel, rfl, by decide +kernel, by decide +kernel⟩
theorem sc_Over_begins : FnScope ["self"] ["self"] (defScope s_Over_begins) := ⟨rfl, rfl, rfl, by decide +kernel, rfl, by decide +kernel, by decide +kernel⟩
theorem sc_Over_ends : FnScope ["self"] ["self"] (defScope s_Over_ends) := ⟨rfl, rfl, rfl, by decide +kernel, rfl, by decide +kernel, by decide +kernel⟩
theorem sc_Over_means_many : FnScope ["self"] ["self"] (defScope s_Over_means_many) := ⟨rfl, rfl, rfl, by decide +kernel, rfl, by decide +kernel, by decide +kernel⟩
theorem sc_Over_nested : FnScope ["self", "one"] ["self"] (defScope s_Over_nested) := ⟨rfl, rfl, rfl, by decide +kernel, rfl, by decide +kernel, by decide +kernel⟩
theorem sc_Over_str : FnScope ["self"] ["self"] (defScope s_Over_str) := ⟨rfl, rfl, rfl, by decide +kernel, rfl, by decide +kernel, by decide +kernel⟩
theorem sc_Spread_init : FnScope ["self", "parts"] ["self", "parts"] (defScope s_Spread_init) := ⟨rfl, rfl, rfl, by decide +kernel, rfl, by decide +kernel, by decide +kernel⟩
theorem sc_Spread_moments : FnScope ["self"] ["self"] (defScope s_Spread_moments) := ⟨rfl, rfl, rfl, by decide +kernel, rfl, by decide +kernel, by decide +kernel⟩
theorem sc_Spread_str : FnScope ["self"] ["self"] (defScope s_Spread_str) := ⟨rfl, rfl, rfl, by decide +kernel, rfl, by decide +kernel, by decide +kernel⟩
theorem sc_want : FnScope ["truth", "words"] ["truth", "words"] (defScope s_want) := ⟨rfl, rfl, rfl, by decide +kernel, rfl, by decide +kernel, by decide +kernel⟩
theorem sc_Card_init : FnScope ["self", "held", "one"] ["self", "held"] (defScope s_Card_init) := ⟨rfl, rfl, rfl, by decide +kernel, rfl, by decide +kernel, by decide +kernel⟩
theorem sc_Card_inner : FnScope ["self"] ["self"] (defScope s_Card_inner) := ⟨rfl, rfl, rfl, by decide +kernel, rfl, by decide +kernel, by decide +kernel⟩
theorem sc_Once_init : FnScope ["self", "spread", "notes", "moment"] ["self", "spread", "notes"] (defScope s_Once_init) := ⟨rfl, rfl, rfl, by decide +kernel, rfl, by decide +kernel, by decide +kernel⟩
theorem sc_Every_init : FnScope ["self", "days", "spread", "notes", "moment", "minute"] ["self", "days", "spread", "notes"] (defScope s_Every_init) := ⟨rfl, rfl, rfl, by decide +kernel, rfl, by decide +kernel, by decide +kernel⟩
theorem sc_Join_init : FnScope ["self", "parts"] ["self", "parts"] (defScope s_Join_init) := ⟨rfl, rfl, rfl, by decide +kernel, rfl, by decide +kernel, by decide +kernel⟩
theorem sc_Less_init : FnScope ["self", "one", "other"] ["self", "one", "other"] (defScope s_Less_init) := ⟨rfl, rfl, rfl, by decide +kernel, rfl, by decide +kernel, by decide +kernel⟩
theorem sc_Swap_init : FnScope ["self", "one", "days", "other"] ["self", "one", "days", "other"] (defScope s_Swap_init) := ⟨rfl, rfl, rfl, by decide +kernel, rfl, by decide +kernel, by decide +kernel⟩
theorem sc_Later_init : FnScope ["self", "one", "minutes"] ["self", "one", "minutes"] (defScope s_Later_init) := ⟨rfl, rfl, rfl, by decide +kernel, rfl, by decide +kernel, by decide +kernel⟩
theorem sc_Noted_init : FnScope ["self", "one", "note"] ["self", "one", "note"] (defScope s_Noted_init) := ⟨rfl, rfl, rfl, by decide +kernel, rfl, by decide +kernel, by decide +kernel⟩
theorem sc_As_init : FnScope ["self", "name"] ["self", "name"] (defScope s_As_init) := ⟨rfl, rfl, rfl, by decide +kernel, rfl, by decide +kernel, by decide +kernel⟩
theorem sc_notes_text : FnScope ["notes"] ["notes"] (defScope s_notes_text) := ⟨rfl, rfl, rfl, by decide +kernel, rfl, by decide +kernel, by decide +kernel⟩
theorem sc_row_of : FnScope ["card"] ["card"] (defScope s_row_of) := ⟨rfl, rfl, rfl, by decide +kernel, rfl, by decide +kernel, by decide +kernel⟩
theorem sc_rows_of : FnScope ["card", "ahead", "found", "one"] ["card", "ahead"] (defScope s_rows_of) := ⟨rfl, rfl, rfl, by decide +kernel, rfl, by decide +kernel, by decide +kernel⟩
theorem sc_show_card : FnScope ["card", "row"] ["card"] (defScope s_show_card) := ⟨rfl, rfl, rfl, by decide +kernel, rfl, by decide +kernel, by decide +kernel⟩
theorem sc__law_pot : FnScope ["_law_script", "_law_k", "_law_cell"] ["_law_script", "_law_k"] (defScope s__law_pot) := ⟨rfl, rfl, rfl, by decide +kernel, rfl, by decide +kernel, by decide +kernel⟩
theorem sc__law_draw : FnScope ["_law_pot_here", "_law_size", "_law_digit"] ["_law_pot_here", "_law_size"] (defScope s__law_draw) := ⟨rfl, rfl, rfl, by decide +kernel, rfl, by decide +kernel, by decide +kernel⟩
theorem sc__law_moment : FnScope ["_law_moment_here", "_law_day", "_law_minute", "_law_clock"] ["_law_moment_here"] (defScope s__law_moment) := ⟨rfl, rfl, rfl, by decide +kernel, rfl, by decide +kernel, by decide +kernel⟩
theorem sc__law_spread_text : FnScope ["_law_parts", "_law_found", "_law_part", "_law_tail"] ["_law_parts"] (defScope s__law_spread_text) := ⟨rfl, rfl, rfl, by decide +kernel, rfl, by decide +kernel, by decide +kernel⟩
theorem sc__law_days_text : FnScope ["_law_days_here", "_law_ring", "_law_since", "_law_till", "_law_out", "_law_also", "_law_text", "_law_word", "_law_some", "_law_day"] ["_law_days_here"] (defScope s__law_days_text) := ⟨rfl, rfl, rfl, by decide +kernel, rfl, by decide +kernel, by decide +kernel⟩
theorem sc__law_row : FnScope ["_law_tree", "_law_word", "_law_text"] ["_law_tree"] (defScope s__law_row) := ⟨rfl, rfl, rfl, by decide +kernel, rfl, by decide +kernel, by decide +kernel⟩
theorem sc__law_inner : FnScope ["_law_tree"] ["_law_tree"] (defScope s__law_inner) := ⟨rfl, rfl, rfl, by decide +kernel, rfl, by decide +kernel, by decide +kernel⟩
theorem sc__law_rows : FnScope ["_law_tree", "_law_deep", "_law_found", "_law_one"] ["_law_tree", "_law_deep"] (defScope s__law_rows) := ⟨rfl, rfl, rfl, by decide +kernel, rfl, by decide +kernel, by decide +kernel⟩
theorem sc__law_written : FnScope ["_law_rows_here", "_law_deep", "_law_row_here"] ["_law_rows_here"] (defScope s__law_written) := ⟨rfl, rfl, rfl, by decide +kernel, rfl, by decide +kernel, by decide +kernel⟩
theorem sc__law_name : FnScope ["_law_pot_here", "_law_way", "_law_k"] ["_law_pot_here"] (defScope s__law_name) := ⟨rfl, rfl, rfl, by decide +kernel, rfl, by decide +kernel, by decide +kernel⟩
theorem sc__law_notes : FnScope ["_law_pot_here", "_law_found", "_law_k", "_law_name_here"] ["_law_pot_here"] (defScope s__law_notes) := ⟨rfl, rfl, rfl, by decide +kernel, rfl, by decide +kernel, by decide +kernel⟩
theorem sc__law_means : FnScope ["_law_parts", "_law_found", "_law_part", "_law_inner_here", "_law_k", "_law_moment_here"] ["_law_parts"] (defScope s__law_means) := ⟨rfl, rfl, rfl, by decide +kernel, rfl, by decide +kernel, by decide +kernel⟩
theorem sc__law_spread : FnScope ["_law_pot_here", "_law_by", "_law_found", "_law_begin", "_law_k", "_law_way", "_law_part", "_law_inner_here", "_law_last"] ["_law_pot_here", "_law_by"] (defScope s__law_spread) := ⟨rfl, rfl, rfl, by decide +kernel, rfl, by decide +kernel, by decide +kernel⟩
theorem sc__law_days : FnScope ["_law_pot_here", "_law_size", "_law_ring", "_law_since", "_law_ends", "_law_till", "_law_days_here", "_law_k", "_law_near", "_law_day", "_law_cut"] ["_law_pot_here", "_law_size"] (defScope s__law_days) := ⟨rfl, rfl, rfl, by decide +kernel, rfl, by decide +kernel, by decide +kernel⟩
theorem sc__law_card : FnScope ["_law_pot_here", "_law_size", "_law_room", "_law_deep", "_law_way", "_law_one", "_law_k"] ["_law_pot_here", "_law_size", "_law_room", "_law_deep"] (defScope s__law_card) := ⟨rfl, rfl, rfl, by decide +kernel, rfl, by decide +kernel, by decide +kernel⟩
theorem sc__law_whole_card : FnScope ["_law_pot_here", "_law_way", "_law_tree", "_law_k", "_law_far"] ["_law_pot_here"] (defScope s__law_whole_card) := ⟨rfl, rfl, rfl, by decide +kernel, rfl, by decide +kernel, by decide +kernel⟩
theorem sc__law_made_parts : FnScope ["_law_parts", "_law_found", "_law_part"] ["_law_parts"] (defScope s__law_made_parts) := ⟨rfl, rfl, rfl, by decide +kernel, rfl, by decide +kernel, by decide +kernel⟩
theorem sc__law_made_spread : FnScope ["_law_parts"] ["_law_parts"] (defScope s__law_made_spread) := ⟨rfl, rfl, rfl, by decide +kernel, rfl, by decide +kernel, by decide +kernel⟩
theorem sc__law_made_days : FnScope ["_law_days_here", "_law_ring", "_law_since", "_law_till", "_law_out", "_law_also"] ["_law_days_here"] (defScope s__law_made_days) := ⟨rfl, rfl, rfl, by decide +kernel, rfl, by decide +kernel, by decide +kernel⟩
theorem sc__law_made_leaf : FnScope ["_law_tree", "_law_notes_here", "_law_made_here"] ["_law_tree"] (defScope s__law_made_leaf) := ⟨rfl, rfl, rfl, by decide +kernel, rfl, by decide +kernel, by decide +kernel⟩
theorem sc__law_made : FnScope ["_law_tree", "_law_word", "_law_inner_here", "_law_made_here", "_law_one"] ["_law_tree"] (defScope s__law_made) := ⟨rfl, rfl, rfl, by decide +kernel, rfl, by decide +kernel, by decide +kernel⟩
theorem sc__law_refused : FnScope ["_law_thing", "_law_told", "e"] ["_law_thing"] (defScope s__law_refused) := ⟨rfl, rfl, rfl, by decide +kernel, rfl, by decide +kernel, by decide +kernel⟩
theorem sc__law_right : FnScope ["_law_made_here", "_law_tree", "_law_due", "_law_inner_here", "_law_one", "_law_own"] ["_law_made_here", "_law_tree"] (defScope s__law_right) := ⟨rfl, rfl, rfl, by decide +kernel, rfl, by decide +kernel, by decide +kernel⟩
theorem sc__law_twice_right : FnScope ["_law_made_here", "_law_tree", "_law_rows_here", "_law_deeper", "_law_due"] ["_law_made_here", "_law_tree"] (defScope s__law_twice_right) := ⟨rfl, rfl, rfl, by decide +kernel, rfl, by decide +kernel, by decide +kernel⟩
theorem sc_law : FnScope ["_law_script", "_law_k", "_law_pot_here", "_law_odd", "_law_tree", "_law_made_here", "_law_text", "_law_strange"] ["_law_script"] (defScope s_law) := ⟨rfl, rfl, rfl, by decide +kernel, rfl, by decide +kernel, by decide +kernel⟩
structure Env (K : PySem.W.Frag) (mg : Str → Option Value) : Prop where
  g_is_whole : mg "is_whole" = some (.ref (He.ga K "is_whole"))
  g_is_moment : mg "is_moment" = some (.ref (He.ga K "is_moment"))
  g_want_moment : mg "want_moment" = some (.ref (He.ga K "want_moment"))
  g_clock_of : mg "clock_of" = some (.ref (He.ga K "clock_of"))
  g_show_moment : mg "show_moment" = some (.ref (He.ga K "show_moment"))
  g_want_day : mg "want_day" = some (.ref (He.ga K "want_day"))
  g_are_signs : mg "are_signs" = some (.ref (He.ga K "are_signs"))
  g_told_days : mg "told_days" = some (.ref (He.ga K "told_days"))
  g_want_till : mg "want_till" = some (.ref (He.ga K "want_till"))
  g_is_name : mg "is_name" = some (.ref (He.ga K "is_name"))
  g_notes_of : mg "notes_of" = some (.ref (He.ga K "notes_of"))
  g_is_number : mg "is_number" = some (.ref (He.ga K "is_number"))
  g_all_rising : mg "all_rising" = some (.ref (He.ga K "all_rising"))
  g_shorts_in : mg "shorts_in" = some (.ref (He.ga K "shorts_in"))
  g_row_moments : mg "row_moments" = some (.ref (He.ga K "row_moments"))
  g_row_many : mg "row_many" = some (.ref (He.ga K "row_many"))
  g_row_text : mg "row_text" = some (.ref (He.ga K "row_text"))
  g_want : mg "want" = some (.ref (He.ga K "want"))
  g_notes_text : mg "notes_text" = some (.ref (He.ga K "notes_text"))
  g_row_of : mg "row_of" = some (.ref (He.ga K "row_of"))
  g_rows_of : mg "rows_of" = some (.ref (He.ga K "rows_of"))
  g_show_card : mg "show_card" = some (.ref (He.ga K "show_card"))
  g__law_pot : mg "_law_pot" = some (.ref (He.ga K "_law_pot"))
  g__law_draw : mg "_law_draw" = some (.ref (He.ga K "_law_draw"))
  g__law_moment : mg "_law_moment" = some (.ref (He.ga K "_law_moment"))
  g__law_spread_text : mg "_law_spread_text" = some (.ref (He.ga K "_law_spread_text"))
  g__law_days_text : mg "_law_days_text" = some (.ref (He.ga K "_law_days_text"))
  g__law_row : mg "_law_row" = some (.ref (He.ga K "_law_row"))
  g__law_inner : mg "_law_inner" = some (.ref (He.ga K "_law_inner"))
  g__law_rows : mg "_law_rows" = some (.ref (He.ga K "_law_rows"))
  g__law_written : mg "_law_written" = some (.ref (He.ga K "_law_written"))
  g__law_name : mg "_law_name" = some (.ref (He.ga K "_law_name"))
  g__law_notes : mg "_law_notes" = some (.ref (He.ga K "_law_notes"))
  g__law_means : mg "_law_means" = some (.ref (He.ga K "_law_means"))
  g__law_spread : mg "_law_spread" = some (.ref (He.ga K "_law_spread"))
  g__law_days : mg "_law_days" = some (.ref (He.ga K "_law_days"))
  g__law_card : mg "_law_card" = some (.ref (He.ga K "_law_card"))
  g__law_whole_card : mg "_law_whole_card" = some (.ref (He.ga K "_law_whole_card"))
  g__law_made_parts : mg "_law_made_parts" = some (.ref (He.ga K "_law_made_parts"))
  g__law_made_spread : mg "_law_made_spread" = some (.ref (He.ga K "_law_made_spread"))
  g__law_made_days : mg "_law_made_days" = some (.ref (He.ga K "_law_made_days"))
  g__law_made_leaf : mg "_law_made_leaf" = some (.ref (He.ga K "_law_made_leaf"))
  g__law_made : mg "_law_made" = some (.ref (He.ga K "_law_made"))
  g__law_refused : mg "_law_refused" = some (.ref (He.ga K "_law_refused"))
  g__law_right : mg "_law_right" = some (.ref (He.ga K "_law_right"))
  g__law_twice_right : mg "_law_twice_right" = some (.ref (He.ga K "_law_twice_right"))
  g_law : mg "law" = some (.ref (He.ga K "law"))
  v_HOUR : ∃ u, mg "HOUR" = some u ∧ RelV (.int (60)) u
  v_DAY : ∃ u, mg "DAY" = some u ∧ RelV (.int (1440)) u
  v_COLON : ∃ u, mg "COLON" = some u ∧ RelV (.str ":") u
  v_BLANK : ∃ u, mg "BLANK" = some u ∧ RelV (.str " ") u
  v_MOST_SIGNS : ∃ u, mg "MOST_SIGNS" = some u ∧ RelV (.int (7)) u
  v_NOUGHT : ∃ u, mg "NOUGHT" = some u ∧ RelV (.str "0") u
  v_ONE : ∃ u, mg "ONE" = some u ∧ RelV (.str "1") u
  v_MOST_DAYS : ∃ u, mg "MOST_DAYS" = some u ∧ RelV (.int (8)) u
  v_FROM : ∃ u, mg "FROM" = some u ∧ RelV (.str "from") u
  v_TO : ∃ u, mg "TO" = some u ∧ RelV (.str "to") u
  v_NOT : ∃ u, mg "NOT" = some u ∧ RelV (.str "not") u
  v_ALSO : ∃ u, mg "ALSO" = some u ∧ RelV (.str "also") u
  v_NAME_SIGNS : ∃ u, mg "NAME_SIGNS" = some u ∧ RelV (.str "abcdefghijklmnopqrstuvwxyz") u
  v_LONGEST_NAME : ∃ u, mg "LONGEST_NAME" = some u ∧ RelV (.int (8)) u
  v_MOST_MOMENTS : ∃ u, mg "MOST_MOMENTS" = some u ∧ RelV (.int (1440)) u
  v_MOST_NESTED : ∃ u, mg "MOST_NESTED" = some u ∧ RelV (.int (8)) u
  v_NO_PARTS : ∃ u, mg "NO_PARTS" = some u ∧ RelV (.str "-") u
  v_MOST_CARDS : ∃ u, mg "MOST_CARDS" = some u ∧ RelV (.int (60)) u
  v_LATEST : ∃ u, mg "LATEST" = some u ∧ RelV (.int (10080)) u
  v_DEEPER : ∃ u, mg "DEEPER" = some u ∧ RelV (.str "  ") u
  v_NOTE : ∃ u, mg "NOTE" = some u ∧ RelV (.str " note ") u
  v_AT : ∃ u, mg "AT" = some u ∧ RelV (.str " at ") u
  v_JOIN : ∃ u, mg "JOIN" = some u ∧ RelV (.str "join") u
  v_LESS : ∃ u, mg "LESS" = some u ∧ RelV (.str "less") u
  n_LookupError : mg "LookupError" = none
  n_RuntimeError : mg "RuntimeError" = none
  n_ValueError : mg "ValueError" = none
  n_all : mg "all" = none
  n_any : mg "any" = none
  n_bool : mg "bool" = none
  n_dict : mg "dict" = none
  n_divmod : mg "divmod" = none
  n_int : mg "int" = none
  n_isinstance : mg "isinstance" = none
  n_len : mg "len" = none
  n_list : mg "list" = none
  n_max : mg "max" = none
  n_min : mg "min" = none
  n_range : mg "range" = none
  n_set : mg "set" = none
  n_sorted : mg "sorted" = none
  n_str : mg "str" = none
  n_sum : mg "sum" = none
  n_tuple : mg "tuple" = none
  n_zip : mg "zip" = none
  g_GoingError : mg "GoingError" = some (.ref (He.ga K "GoingError"))
  g_NoTime : mg "NoTime" = some (.ref (He.ga K "NoTime"))
  x_NoTime : Exo K (He.ga K "NoTime") bmV "ValueError.__new__"
  g_NoPiece : mg "NoPiece" = some (.ref (He.ga K "NoPiece"))
  x_NoPiece : Exo K (He.ga K "NoPiece") bmV "ValueError.__new__"
  g_NoDays : mg "NoDays" = some (.ref (He.ga K "NoDays"))
  x_NoDays : Exo K (He.ga K "NoDays") bmV "ValueError.__new__"
  g_NoCard : mg "NoCard" = some (.ref (He.ga K "NoCard"))
  x_NoCard : Exo K (He.ga K "NoCard") bmV "ValueError.__new__"
  g_NoName : mg "NoName" = some (.ref (He.ga K "NoName"))
  g_NoRow : mg "NoRow" = some (.ref (He.ga K "NoRow"))
  g_NoText : mg "NoText" = some (.ref (He.ga K "NoText"))
  g_Ring : mg "Ring" = some (.ref (He.ga K "Ring"))
  g_Days : mg "Days" = some (.ref (He.ga K "Days"))
  g_Short : mg "Short" = some (.ref (He.ga K "Short"))
  g_At : mg "At" = some (.ref (He.ga K "At"))
  g_Over : mg "Over" = some (.ref (He.ga K "Over"))
  g_Spread : mg "Spread" = some (.ref (He.ga K "Spread"))
  g_Card : mg "Card" = some (.ref (He.ga K "Card"))
  g_Once : mg "Once" = some (.ref (He.ga K "Once"))
  g_Every : mg "Every" = some (.ref (He.ga K "Every"))
  g_Join : mg "Join" = some (.ref (He.ga K "Join"))
  g_Less : mg "Less" = some (.ref (He.ga K "Less"))
  g_Swap : mg "Swap" = some (.ref (He.ga K "Swap"))
  g_Later : mg "Later" = some (.ref (He.ga K "Later"))
  g_Noted : mg "Noted" = some (.ref (He.ga K "Noted"))
  g_As : mg "As" = some (.ref (He.ga K "As"))
  cm_Card : ClsM K (He.ga K "Card") "__init__" (He.ma K (He.ga K "Card") "__init__")
  c_Ring : Cls K (He.ga K "Ring")
  i_Ring : InsC K (He.ga K "Ring")
  a_Ring_bits : NoAttr K (He.ga K "Ring") "bits"
  m_Ring_str : Meth K (He.ga K "Ring") "__str__" (He.ma K (He.ga K "Ring") "__str__")
  m_Ring_rings : Meth K (He.ga K "Ring") "rings" (He.ma K (He.ga K "Ring") "rings")
  mk_Ring : Mk K (He.ga K "Ring") (He.ma K (He.ga K "Ring") "__init__")
  kit_Ring_Ring : PySem.W.kitOne K (.ref (He.ga K "Ring")) (.ref (He.ga K "Ring")) = some true
  kit_Ring_Card : PySem.W.kitOne K (.ref (He.ga K "Ring")) (.ref (He.ga K "Card")) = some false
  c_Days : Cls K (He.ga K "Days")
  i_Days : InsC K (He.ga K "Days")
  a_Days_ring : NoAttr K (He.ga K "Days") "ring"
  a_Days_since : NoAttr K (He.ga K "Days") "since"
  a_Days_till : NoAttr K (He.ga K "Days") "till"
  a_Days_out : NoAttr K (He.ga K "Days") "out"
  a_Days_also : NoAttr K (He.ga K "Days") "also"
  m_Days_str : Meth K (He.ga K "Days") "__str__" (He.ma K (He.ga K "Days") "__str__")
  mk_Days : Mk K (He.ga K "Days") (He.ma K (He.ga K "Days") "__init__")
  fm_Days : FmtC K (He.ga K "Days")
  kit_Days_Days : PySem.W.kitOne K (.ref (He.ga K "Days")) (.ref (He.ga K "Days")) = some true
  c_At : Cls K (He.ga K "At")
  i_At : InsC K (He.ga K "At")
  a_At_moment : NoAttr K (He.ga K "At") "moment"
  m_At_moments : Meth K (He.ga K "At") "moments" (He.ma K (He.ga K "At") "moments")
  m_At_begins : Meth K (He.ga K "At") "begins" (He.ma K (He.ga K "At") "begins")
  m_At_ends : Meth K (He.ga K "At") "ends" (He.ma K (He.ga K "At") "ends")
  m_At_means_many : Meth K (He.ga K "At") "means_many" (He.ma K (He.ga K "At") "means_many")
  m_At_nested : Meth K (He.ga K "At") "nested" (He.ma K (He.ga K "At") "nested")
  m_At_str : Meth K (He.ga K "At") "__str__" (He.ma K (He.ga K "At") "__str__")
  mk_At : Mk K (He.ga K "At") (He.ma K (He.ga K "At") "__init__")
  kit_At_Short : PySem.W.kitOne K (.ref (He.ga K "At")) (.ref (He.ga K "Short")) = some true
  c_Over : Cls K (He.ga K "Over")
  i_Over : InsC K (He.ga K "Over")
  a_Over_kept : NoAttr K (He.ga K "Over") "kept"
  a_Over_many : NoAttr K (He.ga K "Over") "many"
  a_Over_step : NoAttr K (He.ga K "Over") "step"
  m_Over_moments : Meth K (He.ga K "Over") "moments" (He.ma K (He.ga K "Over") "moments")
  m_Over_begins : Meth K (He.ga K "Over") "begins" (He.ma K (He.ga K "Over") "begins")
  m_Over_ends : Meth K (He.ga K "Over") "ends" (He.ma K (He.ga K "Over") "ends")
  m_Over_means_many : Meth K (He.ga K "Over") "means_many" (He.ma K (He.ga K "Over") "means_many")
  m_Over_nested : Meth K (He.ga K "Over") "nested" (He.ma K (He.ga K "Over") "nested")
  m_Over_str : Meth K (He.ga K "Over") "__str__" (He.ma K (He.ga K "Over") "__str__")
  mk_Over : Mk K (He.ga K "Over") (He.ma K (He.ga K "Over") "__init__")
  kit_Over_Short : PySem.W.kitOne K (.ref (He.ga K "Over")) (.ref (He.ga K "Short")) = some true
  c_Spread : Cls K (He.ga K "Spread")
  i_Spread : InsC K (He.ga K "Spread")
  a_Spread_kept : NoAttr K (He.ga K "Spread") "kept"
  a_Spread_held : NoAttr K (He.ga K "Spread") "held"
  m_Spread_moments : Meth K (He.ga K "Spread") "moments" (He.ma K (He.ga K "Spread") "moments")
  m_Spread_str : Meth K (He.ga K "Spread") "__str__" (He.ma K (He.ga K "Spread") "__str__")
  mk_Spread : Mk K (He.ga K "Spread") (He.ma K (He.ga K "Spread") "__init__")
  fm_Spread : FmtC K (He.ga K "Spread")
  kit_Spread_Spread : PySem.W.kitOne K (.ref (He.ga K "Spread")) (.ref (He.ga K "Spread")) = some true
  kit_Spread_Card : PySem.W.kitOne K (.ref (He.ga K "Spread")) (.ref (He.ga K "Card")) = some false
  c_Once : Cls K (He.ga K "Once")
  i_Once : InsC K (He.ga K "Once")
  a_Once_spread : NoAttr K (He.ga K "Once") "spread"
  a_Once_notes : NoAttr K (He.ga K "Once") "notes"
  a_Once_own : NoAttr K (He.ga K "Once") "own"
  a_Once_held : NoAttr K (He.ga K "Once") "held"
  a_Once_weight : NoAttr K (He.ga K "Once") "weight"
  m_Once_inner : Meth K (He.ga K "Once") "inner" (He.ma K (He.ga K "Once") "inner")
  e_Once_inner : He.ma K (He.ga K "Once") "inner" = He.ma K (He.ga K "Card") "inner"
  mk_Once : Mk K (He.ga K "Once") (He.ma K (He.ga K "Once") "__init__")
  kit_Once_Card : PySem.W.kitOne K (.ref (He.ga K "Once")) (.ref (He.ga K "Card")) = some true
  kit_Once_Once : PySem.W.kitOne K (.ref (He.ga K "Once")) (.ref (He.ga K "Once")) = some true
  c_Every : Cls K (He.ga K "Every")
  i_Every : InsC K (He.ga K "Every")
  a_Every_days : NoAttr K (He.ga K "Every") "days"
  a_Every_spread : NoAttr K (He.ga K "Every") "spread"
  a_Every_notes : NoAttr K (He.ga K "Every") "notes"
  a_Every_own : NoAttr K (He.ga K "Every") "own"
  a_Every_held : NoAttr K (He.ga K "Every") "held"
  a_Every_weight : NoAttr K (He.ga K "Every") "weight"
  m_Every_inner : Meth K (He.ga K "Every") "inner" (He.ma K (He.ga K "Every") "inner")
  e_Every_inner : He.ma K (He.ga K "Every") "inner" = He.ma K (He.ga K "Card") "inner"
  mk_Every : Mk K (He.ga K "Every") (He.ma K (He.ga K "Every") "__init__")
  kit_Every_Card : PySem.W.kitOne K (.ref (He.ga K "Every")) (.ref (He.ga K "Card")) = some true
  kit_Every_Once : PySem.W.kitOne K (.ref (He.ga K "Every")) (.ref (He.ga K "Once")) = some false
  kit_Every_Every : PySem.W.kitOne K (.ref (He.ga K "Every")) (.ref (He.ga K "Every")) = some true
  c_Join : Cls K (He.ga K "Join")
  i_Join : InsC K (He.ga K "Join")
  a_Join_held : NoAttr K (He.ga K "Join") "held"
  a_Join_weight : NoAttr K (He.ga K "Join") "weight"
  m_Join_inner : Meth K (He.ga K "Join") "inner" (He.ma K (He.ga K "Join") "inner")
  e_Join_inner : He.ma K (He.ga K "Join") "inner" = He.ma K (He.ga K "Card") "inner"
  mk_Join : Mk K (He.ga K "Join") (He.ma K (He.ga K "Join") "__init__")
  kit_Join_Card : PySem.W.kitOne K (.ref (He.ga K "Join")) (.ref (He.ga K "Card")) = some true
  kit_Join_Once : PySem.W.kitOne K (.ref (He.ga K "Join")) (.ref (He.ga K "Once")) = some false
  kit_Join_Every : PySem.W.kitOne K (.ref (He.ga K "Join")) (.ref (He.ga K "Every")) = some false
  kit_Join_Join : PySem.W.kitOne K (.ref (He.ga K "Join")) (.ref (He.ga K "Join")) = some true
  c_Less : Cls K (He.ga K "Less")
  i_Less : InsC K (He.ga K "Less")
  a_Less_held : NoAttr K (He.ga K "Less") "held"
  a_Less_weight : NoAttr K (He.ga K "Less") "weight"
  m_Less_inner : Meth K (He.ga K "Less") "inner" (He.ma K (He.ga K "Less") "inner")
  e_Less_inner : He.ma K (He.ga K "Less") "inner" = He.ma K (He.ga K "Card") "inner"
  mk_Less : Mk K (He.ga K "Less") (He.ma K (He.ga K "Less") "__init__")
  kit_Less_Card : PySem.W.kitOne K (.ref (He.ga K "Less")) (.ref (He.ga K "Card")) = some true
  kit_Less_Once : PySem.W.kitOne K (.ref (He.ga K "Less")) (.ref (He.ga K "Once")) = some false
  kit_Less_Every : PySem.W.kitOne K (.ref (He.ga K "Less")) (.ref (He.ga K "Every")) = some false
  kit_Less_Join : PySem.W.kitOne K (.ref (He.ga K "Less")) (.ref (He.ga K "Join")) = some false
  kit_Less_Less : PySem.W.kitOne K (.ref (He.ga K "Less")) (.ref (He.ga K "Less")) = some true
  c_Swap : Cls K (He.ga K "Swap")
  i_Swap : InsC K (He.ga K "Swap")
  a_Swap_days : NoAttr K (He.ga K "Swap") "days"
  a_Swap_held : NoAttr K (He.ga K "Swap") "held"
  a_Swap_weight : NoAttr K (He.ga K "Swap") "weight"
  m_Swap_inner : Meth K (He.ga K "Swap") "inner" (He.ma K (He.ga K "Swap") "inner")
  e_Swap_inner : He.ma K (He.ga K "Swap") "inner" = He.ma K (He.ga K "Card") "inner"
  mk_Swap : Mk K (He.ga K "Swap") (He.ma K (He.ga K "Swap") "__init__")
  kit_Swap_Card : PySem.W.kitOne K (.ref (He.ga K "Swap")) (.ref (He.ga K "Card")) = some true
  kit_Swap_Once : PySem.W.kitOne K (.ref (He.ga K "Swap")) (.ref (He.ga K "Once")) = some false
  kit_Swap_Every : PySem.W.kitOne K (.ref (He.ga K "Swap")) (.ref (He.ga K "Every")) = some false
  kit_Swap_Join : PySem.W.kitOne K (.ref (He.ga K "Swap")) (.ref (He.ga K "Join")) = some false
  kit_Swap_Less : PySem.W.kitOne K (.ref (He.ga K "Swap")) (.ref (He.ga K "Less")) = some false
  kit_Swap_Swap : PySem.W.kitOne K (.ref (He.ga K "Swap")) (.ref (He.ga K "Swap")) = some true
  c_Later : Cls K (He.ga K "Later")
  i_Later : InsC K (He.ga K "Later")
  a_Later_minutes : NoAttr K (He.ga K "Later") "minutes"
  a_Later_held : NoAttr K (He.ga K "Later") "held"
  a_Later_weight : NoAttr K (He.ga K "Later") "weight"
  m_Later_inner : Meth K (He.ga K "Later") "inner" (He.ma K (He.ga K "Later") "inner")
  e_Later_inner : He.ma K (He.ga K "Later") "inner" = He.ma K (He.ga K "Card") "inner"
  mk_Later : Mk K (He.ga K "Later") (He.ma K (He.ga K "Later") "__init__")
  kit_Later_Card : PySem.W.kitOne K (.ref (He.ga K "Later")) (.ref (He.ga K "Card")) = some true
  kit_Later_Once : PySem.W.kitOne K (.ref (He.ga K "Later")) (.ref (He.ga K "Once")) = some false
  kit_Later_Every : PySem.W.kitOne K (.ref (He.ga K "Later")) (.ref (He.ga K "Every")) = some false
  kit_Later_Join : PySem.W.kitOne K (.ref (He.ga K "Later")) (.ref (He.ga K "Join")) = some false
  kit_Later_Less : PySem.W.kitOne K (.ref (He.ga K "Later")) (.ref (He.ga K "Less")) = some false
  kit_Later_Swap : PySem.W.kitOne K (.ref (He.ga K "Later")) (.ref (He.ga K "Swap")) = some false
  kit_Later_Later : PySem.W.kitOne K (.ref (He.ga K "Later")) (.ref (He.ga K "Later")) = some true
  c_Noted : Cls K (He.ga K "Noted")
  i_Noted : InsC K (He.ga K "Noted")
  a_Noted_note : NoAttr K (He.ga K "Noted") "note"
  a_Noted_held : NoAttr K (He.ga K "Noted") "held"
  a_Noted_weight : NoAttr K (He.ga K "Noted") "weight"
  m_Noted_inner : Meth K (He.ga K "Noted") "inner" (He.ma K (He.ga K "Noted") "inner")
  e_Noted_inner : He.ma K (He.ga K "Noted") "inner" = He.ma K (He.ga K "Card") "inner"
  mk_Noted : Mk K (He.ga K "Noted") (He.ma K (He.ga K "Noted") "__init__")
  kit_Noted_Card : PySem.W.kitOne K (.ref (He.ga K "Noted")) (.ref (He.ga K "Card")) = some true
  kit_Noted_Once : PySem.W.kitOne K (.ref (He.ga K "Noted")) (.ref (He.ga K "Once")) = some false
  kit_Noted_Every : PySem.W.kitOne K (.ref (He.ga K "Noted")) (.ref (He.ga K "Every")) = some false
  kit_Noted_Join : PySem.W.kitOne K (.ref (He.ga K "Noted")) (.ref (He.ga K "Join")) = some false
  kit_Noted_Less : PySem.W.kitOne K (.ref (He.ga K "Noted")) (.ref (He.ga K "Less")) = some false
  kit_Noted_Swap : PySem.W.kitOne K (.ref (He.ga K "Noted")) (.ref (He.ga K "Swap")) = some false
  kit_Noted_Later : PySem.W.kitOne K (.ref (He.ga K "Noted")) (.ref (He.ga K "Later")) = some false
  kit_Noted_Noted : PySem.W.kitOne K (.ref (He.ga K "Noted")) (.ref (He.ga K "Noted")) = some true
  c_As : Cls K (He.ga K "As")
  i_As : InsC K (He.ga K "As")
  a_As_name : NoAttr K (He.ga K "As") "name"
  a_As_held : NoAttr K (He.ga K "As") "held"
  a_As_weight : NoAttr K (He.ga K "As") "weight"
  m_As_inner : Meth K (He.ga K "As") "inner" (He.ma K (He.ga K "As") "inner")
  e_As_inner : He.ma K (He.ga K "As") "inner" = He.ma K (He.ga K "Card") "inner"
  mk_As : Mk K (He.ga K "As") (He.ma K (He.ga K "As") "__init__")
  kit_As_Card : PySem.W.kitOne K (.ref (He.ga K "As")) (.ref (He.ga K "Card")) = some true
  kit_As_Once : PySem.W.kitOne K (.ref (He.ga K "As")) (.ref (He.ga K "Once")) = some false
  kit_As_Every : PySem.W.kitOne K (.ref (He.ga K "As")) (.ref (He.ga K "Every")) = some false
  kit_As_Join : PySem.W.kitOne K (.ref (He.ga K "As")) (.ref (He.ga K "Join")) = some false
  kit_As_Less : PySem.W.kitOne K (.ref (He.ga K "As")) (.ref (He.ga K "Less")) = some false
  kit_As_Swap : PySem.W.kitOne K (.ref (He.ga K "As")) (.ref (He.ga K "Swap")) = some false
  kit_As_Later : PySem.W.kitOne K (.ref (He.ga K "As")) (.ref (He.ga K "Later")) = some false
  kit_As_Noted : PySem.W.kitOne K (.ref (He.ga K "As")) (.ref (He.ga K "Noted")) = some false
  kit_int_Card : PySem.W.kitOne K (.type "int") (.ref (He.ga K "Card")) = some false
  kit_bool_Card : PySem.W.kitOne K (.type "bool") (.ref (He.ga K "Card")) = some false
  kit_str_Card : PySem.W.kitOne K (.type "str") (.ref (He.ga K "Card")) = some false
  kit_NoneType_Card : PySem.W.kitOne K (.type "NoneType") (.ref (He.ga K "Card")) = some false
  kit_list_Card : PySem.W.kitOne K (.type "list") (.ref (He.ga K "Card")) = some false
  kit_tuple_Card : PySem.W.kitOne K (.type "tuple") (.ref (He.ga K "Card")) = some false
  kit_dict_Card : PySem.W.kitOne K (.type "dict") (.ref (He.ga K "Card")) = some false
  exm_NoCard_GoingError : PySem.W.exmOne K (.ref (He.ga K "NoCard")) (.ref (He.ga K "GoingError")) = some true
  xc_NoCard : ExcC K (He.ga K "NoCard")
  kit_NoCard_NoTime : PySem.W.kitOne K (.ref (He.ga K "NoCard")) (.ref (He.ga K "NoTime")) = some false
  kit_NoCard_NoPiece : PySem.W.kitOne K (.ref (He.ga K "NoCard")) (.ref (He.ga K "NoPiece")) = some false
  kit_NoCard_NoDays : PySem.W.kitOne K (.ref (He.ga K "NoCard")) (.ref (He.ga K "NoDays")) = some false
  kit_NoCard_NoCard : PySem.W.kitOne K (.ref (He.ga K "NoCard")) (.ref (He.ga K "NoCard")) = some true
  kit_NoCard_NoName : PySem.W.kitOne K (.ref (He.ga K "NoCard")) (.ref (He.ga K "NoName")) = some false
  kit_NoCard_NoRow : PySem.W.kitOne K (.ref (He.ga K "NoCard")) (.ref (He.ga K "NoRow")) = some false
  kit_NoCard_NoText : PySem.W.kitOne K (.ref (He.ga K "NoCard")) (.ref (He.ga K "NoText")) = some false
  kit_NoCard_ValueError : PySem.W.kitOne K (.ref (He.ga K "NoCard")) (.type "ValueError") = some true
  kit_NoCard_LookupError : PySem.W.kitOne K (.ref (He.ga K "NoCard")) (.type "LookupError") = some false
  kit_NoCard_RuntimeError : PySem.W.kitOne K (.ref (He.ga K "NoCard")) (.type "RuntimeError") = some false
  f_is_whole : ∃ fd, FunD K "is_whole" "is_whole" (defArgs s_is_whole) (defBody s_is_whole) (defScope s_is_whole) [] [] (He.ga K "is_whole") fd
  f_is_moment : ∃ fd, FunD K "is_moment" "is_moment" (defArgs s_is_moment) (defBody s_is_moment) (defScope s_is_moment) [] [] (He.ga K "is_moment") fd
  f_want_moment : ∃ fd, FunD K "want_moment" "want_moment" (defArgs s_want_moment) (defBody s_want_moment) (defScope s_want_moment) [] [] (He.ga K "want_moment") fd
  f_clock_of : ∃ fd, FunD K "clock_of" "clock_of" (defArgs s_clock_of) (defBody s_clock_of) (defScope s_clock_of) [] [] (He.ga K "clock_of") fd
  f_show_moment : ∃ fd, FunD K "show_moment" "show_moment" (defArgs s_show_moment) (defBody s_show_moment) (defScope s_show_moment) [] [] (He.ga K "show_moment") fd
  f_want_day : ∃ fd, FunD K "want_day" "want_day" (defArgs s_want_day) (defBody s_want_day) (defScope s_want_day) [] [] (He.ga K "want_day") fd
  f_are_signs : ∃ fd, FunD K "are_signs" "are_signs" (defArgs s_are_signs) (defBody s_are_signs) (defScope s_are_signs) [] [] (He.ga K "are_signs") fd
  f_Ring_init : ∃ fd, FunD K "__init__" "Ring.__init__" (defArgs s_Ring_init) (defBody s_Ring_init) (defScope s_Ring_init) [] [] (He.ma K (He.ga K "Ring") "__init__") fd
  f_Ring_str : ∃ fd, FunD K "__str__" "Ring.__str__" (defArgs s_Ring_str) (defBody s_Ring_str) (defScope s_Ring_str) [] [] (He.ma K (He.ga K "Ring") "__str__") fd
  f_Ring_rings : ∃ fd, FunD K "rings" "Ring.rings" (defArgs s_Ring_rings) (defBody s_Ring_rings) (defScope s_Ring_rings) [] [] (He.ma K (He.ga K "Ring") "rings") fd
  f_told_days : ∃ fd, FunD K "told_days" "told_days" (defArgs s_told_days) (defBody s_told_days) (defScope s_told_days) [] [] (He.ga K "told_days") fd
  f_want_till : ∃ fd, FunD K "want_till" "want_till" (defArgs s_want_till) (defBody s_want_till) (defScope s_want_till) [] [] (He.ga K "want_till") fd
  f_Days_init : ∃ fd, FunD K "__init__" "Days.__init__" (defArgs s_Days_init) (defBody s_Days_init) (defScope s_Days_init) [.int (0), .non, .non, .non] [] (He.ma K (He.ga K "Days") "__init__") fd
  f_Days_str : ∃ fd, FunD K "__str__" "Days.__str__" (defArgs s_Days_str) (defBody s_Days_str) (defScope s_Days_str) [] [] (He.ma K (He.ga K "Days") "__str__") fd
  f_Days_has : ∃ fd, FunD K "has" "Days.has" (defArgs s_Days_has) (defBody s_Days_has) (defScope s_Days_has) [] [] (He.ma K (He.ga K "Days") "has") fd
  f_is_name : ∃ fd, FunD K "is_name" "is_name" (defArgs s_is_name) (defBody s_is_name) (defScope s_is_name) [] [] (He.ga K "is_name") fd
  f_notes_of : ∃ fd, FunD K "notes_of" "notes_of" (defArgs s_notes_of) (defBody s_notes_of) (defScope s_notes_of) [] [] (He.ga K "notes_of") fd
  f_is_number : ∃ fd, FunD K "is_number" "is_number" (defArgs s_is_number) (defBody s_is_number) (defScope s_is_number) [] [] (He.ga K "is_number") fd
  f_all_rising : ∃ fd, FunD K "all_rising" "all_rising" (defArgs s_all_rising) (defBody s_all_rising) (defScope s_all_rising) [] [] (He.ga K "all_rising") fd
  f_shorts_in : ∃ fd, FunD K "shorts_in" "shorts_in" (defArgs s_shorts_in) (defBody s_shorts_in) (defScope s_shorts_in) [] [] (He.ga K "shorts_in") fd
  f_row_moments : ∃ fd, FunD K "row_moments" "row_moments" (defArgs s_row_moments) (defBody s_row_moments) (defScope s_row_moments) [] [] (He.ga K "row_moments") fd
  f_row_many : ∃ fd, FunD K "row_many" "row_many" (defArgs s_row_many) (defBody s_row_many) (defScope s_row_many) [] [] (He.ga K "row_many") fd
  f_row_text : ∃ fd, FunD K "row_text" "row_text" (defArgs s_row_text) (defBody s_row_text) (defScope s_row_text) [] [] (He.ga K "row_text") fd
  f_At_init : ∃ fd, FunD K "__init__" "At.__init__" (defArgs s_At_init) (defBody s_At_init) (defScope s_At_init) [] [] (He.ma K (He.ga K "At") "__init__") fd
  f_At_moments : ∃ fd, FunD K "moments" "At.moments" (defArgs s_At_moments) (defBody s_At_moments) (defScope s_At_moments) [] [] (He.ma K (He.ga K "At") "moments") fd
  f_At_begins : ∃ fd, FunD K "begins" "At.begins" (defArgs s_At_begins) (defBody s_At_begins) (defScope s_At_begins) [] [] (He.ma K (He.ga K "At") "begins") fd
  f_At_ends : ∃ fd, FunD K "ends" "At.ends" (defArgs s_At_ends) (defBody s_At_ends) (defScope s_At_ends) [] [] (He.ma K (He.ga K "At") "ends") fd
  f_At_means_many : ∃ fd, FunD K "means_many" "At.means_many" (defArgs s_At_means_many) (defBody s_At_means_many) (defScope s_At_means_many) [] [] (He.ma K (He.ga K "At") "means_many") fd
  f_At_nested : ∃ fd, FunD K "nested" "At.nested" (defArgs s_At_nested) (defBody s_At_nested) (defScope s_At_nested) [] [] (He.ma K (He.ga K "At") "nested") fd
  f_At_str : ∃ fd, FunD K "__str__" "At.__str__" (defArgs s_At_str) (defBody s_At_str) (defScope s_At_str) [] [] (He.ma K (He.ga K "At") "__str__") fd
  f_Over_init : ∃ fd, FunD K "__init__" "Over.__init__" (defArgs s_Over_init) (defBody s_Over_init) (defScope s_Over_init) [.int (2), .int (60)] [] (He.ma K (He.ga K "Over") "__init__") fd
  f_Over_moments : ∃ fd, FunD K "moments" "Over.moments" (defArgs s_Over_moments) (defBody s_Over_moments) (defScope s_Over_moments) [] [] (He.ma K (He.ga K "Over") "moments") fd
  f_Over_begins : ∃ fd, FunD K "begins" "Over.begins" (defArgs s_Over_begins) (defBody s_Over_begins) (defScope s_Over_begins) [] [] (He.ma K (He.ga K "Over") "begins") fd
  f_Over_ends : ∃ fd, FunD K "ends" "Over.ends" (defArgs s_Over_ends) (defBody s_Over_ends) (defScope s_Over_ends) [] [] (He.ma K (He.ga K "Over") "ends") fd
  f_Over_means_many : ∃ fd, FunD K "means_many" "Over.means_many" (defArgs s_Over_means_many) (defBody s_Over_means_many) (defScope s_Over_means_many) [] [] (He.ma K (He.ga K "Over") "means_many") fd
  f_Over_nested : ∃ fd, FunD K "nested" "Over.nested" (defArgs s_Over_nested) (defBody s_Over_nested) (defScope s_Over_nested) [] [] (He.ma K (He.ga K "Over") "nested") fd
  f_Over_str : ∃ fd, FunD K "__str__" "Over.__str__" (defArgs s_Over_str) (defBody s_Over_str) (defScope s_Over_str) [] [] (He.ma K (He.ga K "Over") "__str__") fd
  f_Spread_init : ∃ fd, FunD K "__init__" "Spread.__init__" (defArgs s_Spread_init) (defBody s_Spread_init) (defScope s_Spread_init) [] [] (He.ma K (He.ga K "Spread") "__init__") fd
  f_Spread_moments : ∃ fd, FunD K "moments" "Spread.moments" (defArgs s_Spread_moments) (defBody s_Spread_moments) (defScope s_Spread_moments) [] [] (He.ma K (He.ga K "Spread") "moments") fd
  f_Spread_str : ∃ fd, FunD K "__str__" "Spread.__str__" (defArgs s_Spread_str) (defBody s_Spread_str) (defScope s_Spread_str) [] [] (He.ma K (He.ga K "Spread") "__str__") fd
  f_want : ∃ fd, FunD K "want" "want" (defArgs s_want) (defBody s_want) (defScope s_want) [] [] (He.ga K "want") fd
  f_Card_init : ∃ fd, FunD K "__init__" "Card.__init__" (defArgs s_Card_init) (defBody s_Card_init) (defScope s_Card_init) [] [] (He.ma K (He.ga K "Card") "__init__") fd
  f_Card_inner : ∃ fd, FunD K "inner" "Card.inner" (defArgs s_Card_inner) (defBody s_Card_inner) (defScope s_Card_inner) [] [] (He.ma K (He.ga K "Card") "inner") fd
  f_Once_init : ∃ fd, FunD K "__init__" "Once.__init__" (defArgs s_Once_init) (defBody s_Once_init) (defScope s_Once_init) [.non] [] (He.ma K (He.ga K "Once") "__init__") fd
  f_Every_init : ∃ fd, FunD K "__init__" "Every.__init__" (defArgs s_Every_init) (defBody s_Every_init) (defScope s_Every_init) [.non] [] (He.ma K (He.ga K "Every") "__init__") fd
  f_Join_init : ∃ fd, FunD K "__init__" "Join.__init__" (defArgs s_Join_init) (defBody s_Join_init) (defScope s_Join_init) [] [] (He.ma K (He.ga K "Join") "__init__") fd
  f_Less_init : ∃ fd, FunD K "__init__" "Less.__init__" (defArgs s_Less_init) (defBody s_Less_init) (defScope s_Less_init) [] [] (He.ma K (He.ga K "Less") "__init__") fd
  f_Swap_init : ∃ fd, FunD K "__init__" "Swap.__init__" (defArgs s_Swap_init) (defBody s_Swap_init) (defScope s_Swap_init) [] [] (He.ma K (He.ga K "Swap") "__init__") fd
  f_Later_init : ∃ fd, FunD K "__init__" "Later.__init__" (defArgs s_Later_init) (defBody s_Later_init) (defScope s_Later_init) [.int (60)] [] (He.ma K (He.ga K "Later") "__init__") fd
  f_Noted_init : ∃ fd, FunD K "__init__" "Noted.__init__" (defArgs s_Noted_init) (defBody s_Noted_init) (defScope s_Noted_init) [] [] (He.ma K (He.ga K "Noted") "__init__") fd
  f_As_init : ∃ fd, FunD K "__init__" "As.__init__" (defArgs s_As_init) (defBody s_As_init) (defScope s_As_init) [] [] (He.ma K (He.ga K "As") "__init__") fd
  f_notes_text : ∃ fd, FunD K "notes_text" "notes_text" (defArgs s_notes_text) (defBody s_notes_text) (defScope s_notes_text) [] [] (He.ga K "notes_text") fd
  f_row_of : ∃ fd, FunD K "row_of" "row_of" (defArgs s_row_of) (defBody s_row_of) (defScope s_row_of) [] [] (He.ga K "row_of") fd
  f_rows_of : ∃ fd, FunD K "rows_of" "rows_of" (defArgs s_rows_of) (defBody s_rows_of) (defScope s_rows_of) [] [] (He.ga K "rows_of") fd
  f_show_card : ∃ fd, FunD K "show_card" "show_card" (defArgs s_show_card) (defBody s_show_card) (defScope s_show_card) [] [] (He.ga K "show_card") fd
  f__law_pot : ∃ fd, FunD K "_law_pot" "_law_pot" (defArgs s__law_pot) (defBody s__law_pot) (defScope s__law_pot) [] [] (He.ga K "_law_pot") fd
  f__law_draw : ∃ fd, FunD K "_law_draw" "_law_draw" (defArgs s__law_draw) (defBody s__law_draw) (defScope s__law_draw) [] [] (He.ga K "_law_draw") fd
  f__law_moment : ∃ fd, FunD K "_law_moment" "_law_moment" (defArgs s__law_moment) (defBody s__law_moment) (defScope s__law_moment) [] [] (He.ga K "_law_moment") fd
  f__law_spread_text : ∃ fd, FunD K "_law_spread_text" "_law_spread_text" (defArgs s__law_spread_text) (defBody s__law_spread_text) (defScope s__law_spread_text) [] [] (He.ga K "_law_spread_text") fd
  f__law_days_text : ∃ fd, FunD K "_law_days_text" "_law_days_text" (defArgs s__law_days_text) (defBody s__law_days_text) (defScope s__law_days_text) [] [] (He.ga K "_law_days_text") fd
  f__law_row : ∃ fd, FunD K "_law_row" "_law_row" (defArgs s__law_row) (defBody s__law_row) (defScope s__law_row) [] [] (He.ga K "_law_row") fd
  f__law_inner : ∃ fd, FunD K "_law_inner" "_law_inner" (defArgs s__law_inner) (defBody s__law_inner) (defScope s__law_inner) [] [] (He.ga K "_law_inner") fd
  f__law_rows : ∃ fd, FunD K "_law_rows" "_law_rows" (defArgs s__law_rows) (defBody s__law_rows) (defScope s__law_rows) [] [] (He.ga K "_law_rows") fd
  f__law_written : ∃ fd, FunD K "_law_written" "_law_written" (defArgs s__law_written) (defBody s__law_written) (defScope s__law_written) [] [] (He.ga K "_law_written") fd
  f__law_name : ∃ fd, FunD K "_law_name" "_law_name" (defArgs s__law_name) (defBody s__law_name) (defScope s__law_name) [] [] (He.ga K "_law_name") fd
  f__law_notes : ∃ fd, FunD K "_law_notes" "_law_notes" (defArgs s__law_notes) (defBody s__law_notes) (defScope s__law_notes) [] [] (He.ga K "_law_notes") fd
  f__law_means : ∃ fd, FunD K "_law_means" "_law_means" (defArgs s__law_means) (defBody s__law_means) (defScope s__law_means) [] [] (He.ga K "_law_means") fd
  f__law_spread : ∃ fd, FunD K "_law_spread" "_law_spread" (defArgs s__law_spread) (defBody s__law_spread) (defScope s__law_spread) [] [] (He.ga K "_law_spread") fd
  f__law_days : ∃ fd, FunD K "_law_days" "_law_days" (defArgs s__law_days) (defBody s__law_days) (defScope s__law_days) [] [] (He.ga K "_law_days") fd
  f__law_card : ∃ fd, FunD K "_law_card" "_law_card" (defArgs s__law_card) (defBody s__law_card) (defScope s__law_card) [] [] (He.ga K "_law_card") fd
  f__law_whole_card : ∃ fd, FunD K "_law_whole_card" "_law_whole_card" (defArgs s__law_whole_card) (defBody s__law_whole_card) (defScope s__law_whole_card) [] [] (He.ga K "_law_whole_card") fd
  f__law_made_parts : ∃ fd, FunD K "_law_made_parts" "_law_made_parts" (defArgs s__law_made_parts) (defBody s__law_made_parts) (defScope s__law_made_parts) [] [] (He.ga K "_law_made_parts") fd
  f__law_made_spread : ∃ fd, FunD K "_law_made_spread" "_law_made_spread" (defArgs s__law_made_spread) (defBody s__law_made_spread) (defScope s__law_made_spread) [] [] (He.ga K "_law_made_spread") fd
  f__law_made_days : ∃ fd, FunD K "_law_made_days" "_law_made_days" (defArgs s__law_made_days) (defBody s__law_made_days) (defScope s__law_made_days) [] [] (He.ga K "_law_made_days") fd
  f__law_made_leaf : ∃ fd, FunD K "_law_made_leaf" "_law_made_leaf" (defArgs s__law_made_leaf) (defBody s__law_made_leaf) (defScope s__law_made_leaf) [] [] (He.ga K "_law_made_leaf") fd
  f__law_made : ∃ fd, FunD K "_law_made" "_law_made" (defArgs s__law_made) (defBody s__law_made) (defScope s__law_made) [] [] (He.ga K "_law_made") fd
  f__law_refused : ∃ fd, FunD K "_law_refused" "_law_refused" (defArgs s__law_refused) (defBody s__law_refused) (defScope s__law_refused) [] [] (He.ga K "_law_refused") fd
  f__law_right : ∃ fd, FunD K "_law_right" "_law_right" (defArgs s__law_right) (defBody s__law_right) (defScope s__law_right) [] [] (He.ga K "_law_right") fd
  f__law_twice_right : ∃ fd, FunD K "_law_twice_right" "_law_twice_right" (defArgs s__law_twice_right) (defBody s__law_twice_right) (defScope s__law_twice_right) [] [] (He.ga K "_law_twice_right") fd
  f_law : ∃ fd, FunD K "law" "law" (defArgs s_law) (defBody s_law) (defScope s_law) [] [] (He.ga K "law") fd
end Toy
namespace Toy
open PySem PySem.Spec PyProof.Rows L2 L3
theorem Env.k_is_whole {K : PySem.W.Frag} {mg : Str → Option Value} (T : Env K mg) : PySem.W.keepIn K (.ref (He.ga K "is_whole")) = true := let ⟨_, F⟩ := T.f_is_whole; F.kp
theorem Env.k_is_moment {K : PySem.W.Frag} {mg : Str → Option Value} (T : Env K mg) : PySem.W.keepIn K (.ref (He.ga K "is_moment")) = true := let ⟨_, F⟩ := T.f_is_moment; F.kp
theorem Env.k_want_moment {K : PySem.W.Frag} {mg : Str → Option Value} (T : Env K mg) : PySem.W.keepIn K (.ref (He.ga K "want_moment")) = true := let ⟨_, F⟩ := T.f_want_moment; F.kp
theorem Env.k_clock_of {K : PySem.W.Frag} {mg : Str → Option Value} (T : Env K mg) : PySem.W.keepIn K (.ref (He.ga K "clock_of")) = true := let ⟨_, F⟩ := T.f_clock_of; F.kp
theorem Env.k_show_moment {K : PySem.W.Frag} {mg : Str → Option Value} (T : Env K mg) : PySem.W.keepIn K (.ref (He.ga K "show_moment")) = true := let ⟨_, F⟩ := T.f_show_moment; F.kp
theorem Env.k_want_day {K : PySem.W.Frag} {mg : Str → Option Value} (T : Env K mg) : PySem.W.keepIn K (.ref (He.ga K "want_day")) = true := let ⟨_, F⟩ := T.f_want_day; F.kp
theorem Env.k_are_signs {K : PySem.W.Frag} {mg : Str → Option Value} (T : Env K mg) : PySem.W.keepIn K (.ref (He.ga K "are_signs")) = true := let ⟨_, F⟩ := T.f_are_signs; F.kp
theorem Env.k_told_days {K : PySem.W.Frag} {mg : Str → Option Value} (T : Env K mg) : PySem.W.keepIn K (.ref (He.ga K "told_days")) = true := let ⟨_, F⟩ := T.f_told_days; F.kp
theorem Env.k_want_till {K : PySem.W.Frag} {mg : Str → Option Value} (T : Env K mg) : PySem.W.keepIn K (.ref (He.ga K "want_till")) = true := let ⟨_, F⟩ := T.f_want_till; F.kp
theorem Env.k_is_name {K : PySem.W.Frag} {mg : Str → Option Value} (T : Env K mg) : PySem.W.keepIn K (.ref (He.ga K "is_name")) = true := let ⟨_, F⟩ := T.f_is_name; F.kp
theorem Env.k_notes_of {K : PySem.W.Frag} {mg : Str → Option Value} (T : Env K mg) : PySem.W.keepIn K (.ref (He.ga K "notes_of")) = true := let ⟨_, F⟩ := T.f_notes_of; F.kp
theorem Env.k_is_number {K : PySem.W.Frag} {mg : Str → Option Value} (T : Env K mg) : PySem.W.keepIn K (.ref (He.ga K "is_number")) = true := let ⟨_, F⟩ := T.f_is_number; F.kp
theorem Env.k_all_rising {K : PySem.W.Frag} {mg : Str → Option Value} (T : Env K mg) : PySem.W.keepIn K (.ref (He.ga K "all_rising")) = true := let ⟨_, F⟩ := T.f_all_rising; F.kp
theorem Env.k_shorts_in {K : PySem.W.Frag} {mg : Str → Option Value} (T : Env K mg) : PySem.W.keepIn K (.ref (He.ga K "shorts_in")) = true := let ⟨_, F⟩ := T.f_shorts_in; F.kp
theorem Env.k_row_moments {K : PySem.W.Frag} {mg : Str → Option Value} (T : Env K mg) : PySem.W.keepIn K (.ref (He.ga K "row_moments")) = true := let ⟨_, F⟩ := T.f_row_moments; F.kp
theorem Env.k_row_many {K : PySem.W.Frag} {mg : Str → Option Value} (T : Env K mg) : PySem.W.keepIn K (.ref (He.ga K "row_many")) = true := let ⟨_, F⟩ := T.f_row_many; F.kp
theorem Env.k_row_text {K : PySem.W.Frag} {mg : Str → Option Value} (T : Env K mg) : PySem.W.keepIn K (.ref (He.ga K "row_text")) = true := let ⟨_, F⟩ := T.f_row_text; F.kp
theorem Env.k_want {K : PySem.W.Frag} {mg : Str → Option Value} (T : Env K mg) : PySem.W.keepIn K (.ref (He.ga K "want")) = true := let ⟨_, F⟩ := T.f_want; F.kp
theorem Env.k_notes_text {K : PySem.W.Frag} {mg : Str → Option Value} (T : Env K mg) : PySem.W.keepIn K (.ref (He.ga K "notes_text")) = true := let ⟨_, F⟩ := T.f_notes_text; F.kp
theorem Env.k_row_of {K : PySem.W.Frag} {mg : Str → Option Value} (T : Env K mg) : PySem.W.keepIn K (.ref (He.ga K "row_of")) = true := let ⟨_, F⟩ := T.f_row_of; F.kp
theorem Env.k_rows_of {K : PySem.W.Frag} {mg : Str → Option Value} (T : Env K mg) : PySem.W.keepIn K (.ref (He.ga K "rows_of")) = true := let ⟨_, F⟩ := T.f_rows_of; F.kp
theorem Env.k_show_card {K : PySem.W.Frag} {mg : Str → Option Value} (T : Env K mg) : PySem.W.keepIn K (.ref (He.ga K "show_card")) = true := let ⟨_, F⟩ := T.f_show_card; F.kp
theorem Env.k__law_pot {K : PySem.W.Frag} {mg : Str → Option Value} (T : Env K mg) : PySem.W.keepIn K (.ref (He.ga K "_law_pot")) = true := let ⟨_, F⟩ := T.f__law_pot; F.kp
theorem Env.k__law_draw {K : PySem.W.Frag} {mg : Str → Option Value} (T : Env K mg) : PySem.W.keepIn K (.ref (He.ga K "_law_draw")) = true := let ⟨_, F⟩ := T.f__law_draw; F.kp
theorem Env.k__law_moment {K : PySem.W.Frag} {mg : Str → Option Value} (T : Env K mg) : PySem.W.keepIn K (.ref (He.ga K "_law_moment")) = true := let ⟨_, F⟩ := T.f__law_moment; F.kp
theorem Env.k__law_spread_text {K : PySem.W.Frag} {mg : Str → Option Value} (T : Env K mg) : PySem.W.keepIn K (.ref (He.ga K "_law_spread_text")) = true := let ⟨_, F⟩ := T.f__law_spread_text; F.kp
theorem Env.k__law_days_text {K : PySem.W.Frag} {mg : Str → Option Value} (T : Env K mg) : PySem.W.keepIn K (.ref (He.ga K "_law_days_text")) = true := let ⟨_, F⟩ := T.f__law_days_text; F.kp
theorem Env.k__law_row {K : PySem.W.Frag} {mg : Str → Option Value} (T : Env K mg) : PySem.W.keepIn K (.ref (He.ga K "_law_row")) = true := let ⟨_, F⟩ := T.f__law_row; F.kp
theorem Env.k__law_inner {K : PySem.W.Frag} {mg : Str → Option Value} (T : Env K mg) : PySem.W.keepIn K (.ref (He.ga K "_law_inner")) = true := let ⟨_, F⟩ := T.f__law_inner; F.kp
theorem Env.k__law_rows {K : PySem.W.Frag} {mg : Str → Option Value} (T : Env K mg) : PySem.W.keepIn K (.ref (He.ga K "_law_rows")) = true := let ⟨_, F⟩ := T.f__law_rows; F.kp
theorem Env.k__law_written {K : PySem.W.Frag} {mg : Str → Option Value} (T : Env K mg) : PySem.W.keepIn K (.ref (He.ga K "_law_written")) = true := let ⟨_, F⟩ := T.f__law_written; F.kp
theorem Env.k__law_name {K : PySem.W.Frag} {mg : Str → Option Value} (T : Env K mg) : PySem.W.keepIn K (.ref (He.ga K "_law_name")) = true := let ⟨_, F⟩ := T.f__law_name; F.kp
theorem Env.k__law_notes {K : PySem.W.Frag} {mg : Str → Option Value} (T : Env K mg) : PySem.W.keepIn K (.ref (He.ga K "_law_notes")) = true := let ⟨_, F⟩ := T.f__law_notes; F.kp
theorem Env.k__law_means {K : PySem.W.Frag} {mg : Str → Option Value} (T : Env K mg) : PySem.W.keepIn K (.ref (He.ga K "_law_means")) = true := let ⟨_, F⟩ := T.f__law_means; F.kp
theorem Env.k__law_spread {K : PySem.W.Frag} {mg : Str → Option Value} (T : Env K mg) : PySem.W.keepIn K (.ref (He.ga K "_law_spread")) = true := let ⟨_, F⟩ := T.f__law_spread; F.kp
theorem Env.k__law_days {K : PySem.W.Frag} {mg : Str → Option Value} (T : Env K mg) : PySem.W.keepIn K (.ref (He.ga K "_law_days")) = true := let ⟨_, F⟩ := T.f__law_days; F.kp
theorem Env.k__law_card {K : PySem.W.Frag} {mg : Str → Option Value} (T : Env K mg) : PySem.W.keepIn K (.ref (He.ga K "_law_card")) = true := let ⟨_, F⟩ := T.f__law_card; F.kp
theorem Env.k__law_whole_card {K : PySem.W.Frag} {mg : Str → Option Value} (T : Env K mg) : PySem.W.keepIn K (.ref (He.ga K "_law_whole_card")) = true := let ⟨_, F⟩ := T.f__law_whole_card; F.kp
theorem Env.k__law_made_parts {K : PySem.W.Frag} {mg : Str → Option Value} (T : Env K mg) : PySem.W.keepIn K (.ref (He.ga K "_law_made_parts")) = true := let ⟨_, F⟩ := T.f__law_made_parts; F.kp
theorem Env.k__law_made_spread {K : PySem.W.Frag} {mg : Str → Option Value} (T : Env K mg) : PySem.W.keepIn K (.ref (He.ga K "_law_made_spread")) = true := let ⟨_, F⟩ := T.f__law_made_spread; F.kp
theorem Env.k__law_made_days {K : PySem.W.Frag} {mg : Str → Option Value} (T : Env K mg) : PySem.W.keepIn K (.ref (He.ga K "_law_made_days")) = true := let ⟨_, F⟩ := T.f__law_made_days; F.kp
theorem Env.k__law_made_leaf {K : PySem.W.Frag} {mg : Str → Option Value} (T : Env K mg) : PySem.W.keepIn K (.ref (He.ga K "_law_made_leaf")) = true := let ⟨_, F⟩ := T.f__law_made_leaf; F.kp
theorem Env.k__law_made {K : PySem.W.Frag} {mg : Str → Option Value} (T : Env K mg) : PySem.W.keepIn K (.ref (He.ga K "_law_made")) = true := let ⟨_, F⟩ := T.f__law_made; F.kp
theorem Env.k__law_refused {K : PySem.W.Frag} {mg : Str → Option Value} (T : Env K mg) : PySem.W.keepIn K (.ref (He.ga K "_law_refused")) = true := let ⟨_, F⟩ := T.f__law_refused; F.kp
theorem Env.k__law_right {K : PySem.W.Frag} {mg : Str → Option Value} (T : Env K mg) : PySem.W.keepIn K (.ref (He.ga K "_law_right")) = true := let ⟨_, F⟩ := T.f__law_right; F.kp
theorem Env.k__law_twice_right {K : PySem.W.Frag} {mg : Str → Option Value} (T : Env K mg) : PySem.W.keepIn K (.ref (He.ga K "_law_twice_right")) = true := let ⟨_, F⟩ := T.f__law_twice_right; F.kp
section
def sp_is_whole (K : PySem.W.Frag) : Sp := fun vs H Q _ => ∃ x, vs = [x] ∧ Cl K H x ∧ Q (.bl (isW x)) H
theorem fb_is_whole {P : Program} {w : World} {K : PySem.W.Frag} {mg : Str → Option Value} {base : Heap} (T : Env K mg) : ∃ fd, FunD K "is_whole" "is_whole" (defArgs s_is_whole) (defBody s_is_whole) (defScope s_is_whole) [] [] (He.ga K "is_whole") fd ∧ Fb P w K mg base 1 (He.ga K "is_whole") fd ["thing"] (sp_is_whole K) := by
  obtain ⟨fd, F⟩ := T.f_is_whole
  refine ⟨fd, F, fb_of F sc_is_whole (fun vs H Q E h => ?_) (fun cdv A outer s H vs Q E hr h => ?_)⟩
  · obtain ⟨x, rfl, _⟩ := h
    rfl
  · obtain ⟨x, rfl, ⟨t, b, c, ty, h1, h2, e⟩, q⟩ := h
    refine ⟨_, (pss_one (ps_ret (pe_and (pe_callB call_isi (by rfl) T.n_isinstance (by decide +kernel) (pa_cons (pv 0) (pa_cons (pe_bltn (v := .ty "int") (by rfl) T.n_int (by decide +kernel) rfl) pa_nil))) (pe_one (pe_not (pe_callB call_isi (by rfl) T.n_isinstance (by decide +kernel) (pa_cons (pv 0) (pa_cons (pe_bltn (v := .ty "bool") (by rfl) T.n_bool (by decide +kernel) rfl) pa_nil)))))))), ?_⟩
    refine ⟨x, rfl, x, .ty "int", t, _, b, rfl, .ty "int", ty, h1, b, rfl, ?_⟩
    rw [e] at q
    cases b with
    | false => exact q
    | true => exact ⟨x, rfl, x, .ty "bool", t, _, c, rfl, .ty "bool", ty, h2, c, rfl, q⟩
theorem ok_is_whole {P : Program} {w : World} {K : PySem.W.Frag} {mg : Str → Option Value} {base : Heap} (T : Env K mg) : Fc P w K mg base 1 (He.ga K "is_whole") [] (sp_is_whole K ) := by
  obtain ⟨fd, D, F⟩ := fb_is_whole T
  exact F.all (D.bindsN fun _ _ _ _ _ _ us hl => match us, hl with | [_], _ => rfl)
end
section
def sp_is_moment (K : PySem.W.Frag) : Sp := fun vs H Q _ => ∃ x, vs = [x] ∧ Cl K H x ∧ Q (.bl (isM x)) H
theorem fb_is_moment {P : Program} {w : World} {K : PySem.W.Frag} {mg : Str → Option Value} {base : Heap} (T : Env K mg) : ∃ fd, FunD K "is_moment" "is_moment" (defArgs s_is_moment) (defBody s_is_moment) (defScope s_is_moment) [] [] (He.ga K "is_moment") fd ∧ Fb P w K mg base 2 (He.ga K "is_moment") fd ["thing"] (sp_is_moment K) := by
  obtain ⟨fd, F⟩ := T.f_is_moment
  refine ⟨fd, F, fb_of F sc_is_moment (fun vs H Q E h => ?_) (fun cdv A outer s H vs Q E hr h => ?_)⟩
  · obtain ⟨x, rfl, _⟩ := h
    rfl
  · obtain ⟨x, rfl, cl, q⟩ := h
    refine ⟨_, (pss_one (ps_ret (pe_and (c_call (ok_is_whole T) (hr.mono (by decide)) T.g_is_whole T.k_is_whole takes0 (pa_cons (pv 0) pa_nil)) (pe_one (pe_cmpR op_ge (pv 0) pe_int (nomark _)))))), ?_⟩
    refine ⟨x, rfl, x, rfl, cl, isW x, rfl, ?_⟩
    cases x with
    | int i => exact ⟨_, rfl, i, 0, rfl, rfl, q⟩
    | _ => exact q
theorem ok_is_moment {P : Program} {w : World} {K : PySem.W.Frag} {mg : Str → Option Value} {base : Heap} (T : Env K mg) : Fc P w K mg base 2 (He.ga K "is_moment") [] (sp_is_moment K ) := by
  obtain ⟨fd, D, F⟩ := fb_is_moment T
  exact F.all (D.bindsN fun _ _ _ _ _ _ us hl => match us, hl with | [_], _ => rfl)
end
section
def sp_want_moment (K : PySem.W.Frag) : Sp := fun vs H Q E => ∃ x, vs = [x] ∧ Cl K H x ∧ (isM x = true → Q .non H) ∧ (isM x = false → E (.ref (He.ga K "NoTime")) none H)
theorem fb_want_moment {P : Program} {w : World} {K : PySem.W.Frag} {mg : Str → Option Value} {base : Heap} (T : Env K mg) : ∃ fd, FunD K "want_moment" "want_moment" (defArgs s_want_moment) (defBody s_want_moment) (defScope s_want_moment) [] [] (He.ga K "want_moment") fd ∧ FbN P w K mg base 3 (He.ga K "want_moment") fd ["thing"] (sp_want_moment K) := by
  obtain ⟨fd, F⟩ := T.f_want_moment
  refine ⟨fd, F, fbN_of F sc_want_moment (fun vs H Q E h => ?_) (fun cdv A outer s H vs Q E hr h => ?_)⟩
  · obtain ⟨x, rfl, _⟩ := h
    rfl
  · obtain ⟨x, rfl, cl, q, qe⟩ := h
    refine ⟨_, (pss_one (ps_if (pt_not (pt_val (c_call (ok_is_moment T) (hr.mono (by decide)) T.g_is_moment T.k_is_moment takes0 (pa_cons (pv 0) pa_nil))))
      (pss_one (L2N.ps_raise rfl (L2N.takes_of rfl rfl rfl rfl) (L2N.pmk_own PySem.F.excBase_ValueError T.x_NoTime.x T.g_NoTime T.x_NoTime.kp (raises_own T.x_NoTime.sub T.x_NoTime.ty) rfl)))
      pss_nil)), ?_⟩
    refine ⟨x, rfl, x, rfl, cl, isM x, rfl, ?_⟩
    cases e : isM x with
    | true => exact q e
    | false => exact qe e
theorem okN_want_moment {P : Program} {w : World} {K : PySem.W.Frag} {mg : Str → Option Value} {base : Heap} (T : Env K mg) : FcN P w K mg base 3 (He.ga K "want_moment") [] (sp_want_moment K ) := by
  obtain ⟨fd, D, F⟩ := fb_want_moment T
  exact F.all (D.bindsN fun _ _ _ _ _ _ us hl => match us, hl with | [_], _ => rfl)
theorem ok_want_moment {P : Program} {w : World} {K : PySem.W.Frag} {mg : Str → Option Value} {base : Heap} (T : Env K mg) : Fc P w K mg base 3 (He.ga K "want_moment") [] (sp_want_moment K ) := (okN_want_moment T).fc
end
section
def clockV (m : Int) : List V := [.int (m / 1440), .int (m % 1440 / 60), .int (m % 60)]
def sp_clock_of (K : PySem.W.Frag) : Sp := fun vs H Q E => ∃ x, vs = [x] ∧ Cl K H x ∧ (∀ m : Int, x = .int m → 0 ≤ m → ∀ p, H p = none → Q (.ref p) (upd H p (.tup (clockV m)))) ∧ (isM x = false → E (.ref (He.ga K "NoTime")) none H)
theorem fb_clock_of {P : Program} {w : World} {K : PySem.W.Frag} {mg : Str → Option Value} {base : Heap} (T : Env K mg) : ∃ fd, FunD K "clock_of" "clock_of" (defArgs s_clock_of) (defBody s_clock_of) (defScope s_clock_of) [] [] (He.ga K "clock_of") fd ∧ Fb P w K mg base 4 (He.ga K "clock_of") fd ["moment"] (sp_clock_of K) := by
  obtain ⟨fd, F⟩ := T.f_clock_of
  refine ⟨fd, F, fb_of F sc_clock_of (fun vs H Q E h => ?_) (fun cdv A outer s H vs Q E hr h => ?_)⟩
  · obtain ⟨x, rfl, _⟩ := h
    rfl
  · obtain ⟨x, rfl, cl, q, qe⟩ := h
    refine ⟨_, (pss_cons (ps_expr (c_call (ok_want_moment T) (hr.mono (by decide)) T.g_want_moment T.k_want_moment (takes_of rfl rfl rfl rfl) (pa_cons (pv 0) pa_nil)))
      (pss_one (ps_ret (pe_tup (pa_cons (pe_op op_fdiv (pv 0) (pe_k T.v_DAY)) (pa_cons (pe_op op_fdiv (pe_op op_mod (pv 0) (pe_k T.v_DAY)) (pe_k T.v_HOUR)) (pa_cons (pe_op op_mod (pv 0) (pe_k T.v_HOUR)) pa_nil))))))), ?_⟩
    refine ⟨x, rfl, x, rfl, cl, fun e => ?_, qe⟩
    obtain ⟨m, rfl, hm⟩ := isM_w e
    refine ⟨_, rfl, _, _, rfl, rfl, ⟨by decide, by decide⟩, _, rfl, _, _, rfl, rfl, (by show (0 : Int) < 1440; decide), _, _, rfl, rfl, ⟨by decide, by decide⟩, _, rfl, _, _, rfl, rfl, (by show (0 : Int) < 60; decide), by show 3 ≤ sizeLine; decide, fun p hp => ?_⟩
    exact q m rfl hm p hp
theorem ok_clock_of {P : Program} {w : World} {K : PySem.W.Frag} {mg : Str → Option Value} {base : Heap} (T : Env K mg) : Fc P w K mg base 4 (He.ga K "clock_of") [] (sp_clock_of K ) := by
  obtain ⟨fd, D, F⟩ := fb_clock_of T
  exact F.all (D.bindsN fun _ _ _ _ _ _ us hl => match us, hl with | [_], _ => rfl)
end
section
def sp_show_moment (K : PySem.W.Frag) : Sp := fun vs H Q E => ∃ x, vs = [x] ∧ Cl K H x ∧ (∀ m : Nat, x = .int m → m < 10 ^ 255 ∧ ∀ H', Ex H H' → Q (.str (SX.S (Mo.shw m))) H') ∧ (isM x = false → E (.ref (He.ga K "NoTime")) none H)
theorem str_two : ∀ m : Nat, m < 60 → Txt.zfill (Str.ofString (toString ((m : Nat) : Int))) 2 = SX.S (Mo.two m) := by
  intro m h
  have all : ∀ m, m < 60 → TL.tl (Txt.zfill (Str.ofString (toString ((m : Nat) : Int))) 2) = Mo.two m := by decide +kernel
  exact TL.ext_tl (all m h)
theorem log_small {n : Nat} (h : n < 10 ^ 255) : ((n : Nat) : Int).natAbs.log2 < 1920 := PySem.Flt.log2_lt_of (by decide) (Nat.lt_trans (show ((n : Nat) : Int).natAbs < 10 ^ 255 by rw [Int.natAbs_natCast]; exact h) (by decide +kernel))
theorem fb_show_moment {P : Program} {w : World} {K : PySem.W.Frag} {mg : Str → Option Value} {base : Heap} (T : Env K mg) : ∃ fd, FunD K "show_moment" "show_moment" (defArgs s_show_moment) (defBody s_show_moment) (defScope s_show_moment) [] [] (He.ga K "show_moment") fd ∧ Fb P w K mg base 5 (He.ga K "show_moment") fd ["moment"] (sp_show_moment K) := by
  obtain ⟨fd, F⟩ := T.f_show_moment
  refine ⟨fd, F, fb_of F sc_show_moment (fun vs H Q E h => ?_) (fun cdv A outer s H vs Q E hr h => ?_)⟩
  · obtain ⟨x, rfl, _⟩ := h
    rfl
  · obtain ⟨x, rfl, cl, q, qe⟩ := h
    refine ⟨_, (pss_cons (ps_asg (c_call (ok_clock_of T) (hr.mono (by decide)) T.g_clock_of T.k_clock_of (takes_of rfl rfl rfl rfl) (pa_cons (pv 0) pa_nil)) (pg_tup (by rfl) (pgs_cons (pg_name (i := 1) sc_show_moment.nd rfl (Or.inl rfl)) (pgs_cons (pg_name (i := 2) sc_show_moment.nd rfl (Or.inl rfl)) (pgs_cons (pg_name (i := 3) sc_show_moment.nd rfl (Or.inl rfl)) pgs_nil)))))
      (pss_cons (ps_set (i := 4) sc_show_moment.nd rfl (Or.inl rfl) (pe_op op_add_str (pe_op op_add_str (pe_callTy call_str_int (by rfl) T.n_str (by decide +kernel) (pa_cons (pv 2) pa_nil)) (pe_k T.v_COLON)) (pe_bm PySem.F.plainAttrs_str PySem.F.slot_str_zfill PySem.F.type_str_zfill mt_zfill (pe_callTy call_str_int (by rfl) T.n_str (by decide +kernel) (pa_cons (pv 3) pa_nil)) (pa_cons pe_int pa_nil))))
      (pss_cons (ps_if (pt_cmpR op_eq (pv 1) pe_int (nomark _))
      (pss_one (ps_ret (pv 4)))
      pss_nil)
      (pss_one (ps_ret (pe_op op_add_str (pe_op op_add_str (pe_callTy call_str_int (by rfl) T.n_str (by decide +kernel) (pa_cons (pv 1) pa_nil)) (pe_k T.v_BLANK)) (pv 4))))))), ?_⟩
    refine ⟨x, rfl, x, rfl, cl, fun m e m0 t nt => ?_, qe⟩
    obtain ⟨m, rfl⟩ := Int.eq_ofNat_of_zero_le m0
    subst e
    obtain ⟨mb, q⟩ := q m rfl
    have X1 : Ex H (upd H t (.tup (clockV m))) := ex_new nt
    refine ⟨t, _, rfl, sq_tup upd_same, rfl, _, _, rfl, _, _, rfl, _, _, rfl, rfl, ?_⟩
    have e1 : ((m : Nat) : Int) / 1440 = ((m / 1440 : Nat) : Int) := by omega
    have e2 : ((m : Nat) : Int) % 1440 / 60 = ((m % 1440 / 60 : Nat) : Int) := by omega
    have e3 : ((m : Nat) : Int) % 60 = ((m % 60 : Nat) : Int) := by omega
    rw [e1, e2, e3]
    have l1 : (Mo.shw m).length ≤ 263 := Mo.shw_len (by decide) mb
    have l2 : (TL.numL (m % 1440 / 60)).length ≤ 2 := TL.numL_len (by decide) (by omega)
    have l3 : (TL.numL (m / 1440)).length ≤ 255 := TL.numL_len (by decide) (Nat.lt_of_le_of_lt (Nat.div_le_self _ _) mb)
    refine ⟨_, rfl, _, rfl, log_small (Nat.lt_of_le_of_lt (by omega) mb), ?_⟩
    rw [SX.num_S]
    have c1 : (SX.S (TL.numL (m % 1440 / 60)) ++ Str.ofString ":").length ≤ 1000 := by
      rw [TL.len_tl, TL.tl_append]
      simp only [List.length_append]
      have : (TL.tl (Str.ofString ":")).length = 1 := rfl
      show (TL.numL (m % 1440 / 60)).length + _ ≤ 1000
      omega
    refine ⟨_, _, rfl, rfl, Nat.le_of_lt (small_len (by have := SX.S_len (TL.numL (m % 1440 / 60)); have : (Str.ofString ":").length = 1 := rfl; omega)), ?_⟩
    refine ⟨_, rfl, _, rfl, log_small (Nat.lt_of_le_of_lt (Nat.mod_le _ _) mb), rfl, _, _, rfl, rfl, rfl, ?_⟩
    rw [show Txt.zfill (Str.ofString (toString ((m % 60 : Nat) : Int))) 2 = SX.S (Mo.two (m % 60)) from str_two _ (by omega)]
    refine ⟨_, _, rfl, rfl, Nat.le_of_lt (small_len (by have : (SX.S (Mo.two (m % 60))).length = 2 := rfl; omega)), ?_⟩
    have e4 : SX.S (TL.numL (m % 1440 / 60)) ++ Str.ofString ":" ++ SX.S (Mo.two (m % 60)) = SX.S (Mo.clk m) := by
      rw [show Str.ofString ":" = SX.S [58] from rfl, SX.S_cat, SX.S_cat]
      unfold Mo.clk
      simp
    rw [e4]
    have l4 : (Mo.clk m).length ≤ 5 := by
      unfold Mo.clk Mo.two
      simp
      omega
    refine ⟨_, rfl, rfl, _, rfl, ite2 (fun c => ?_) (fun c => ?_)⟩
    · have c2 : m / 1440 = 0 := by
        have := of_decide_eq_true c
        injection this with this
        omega
      refine ⟨_, rfl, ?_⟩
      have e5 : Mo.shw m = Mo.clk m := by unfold Mo.shw; rw [if_pos c2]
      rw [← e5]
      exact q _ X1
    · have c2 : ¬ m / 1440 = 0 := fun z => c (decide_eq_true (by rw [z]; rfl))
      refine ⟨_, rfl, _, rfl, log_small (Nat.lt_of_le_of_lt (Nat.div_le_self _ _) mb), ?_⟩
      rw [SX.num_S]
      refine ⟨_, _, rfl, rfl, Nat.le_of_lt (small_len (by have := SX.S_len (TL.numL (m / 1440)); have : (Str.ofString " ").length = 1 := rfl; omega)), ?_⟩
      rw [show Str.ofString " " = SX.S [32] from rfl, SX.S_cat]
      refine ⟨_, rfl, _, _, rfl, rfl, Nat.le_of_lt (small_len (by rw [SX.S_len, SX.S_len]; simp; omega)), ?_⟩
      rw [SX.S_cat]
      have e5 : Mo.shw m = TL.numL (m / 1440) ++ [32] ++ Mo.clk m := by unfold Mo.shw; rw [if_neg c2]; simp
      rw [← e5]
      exact q _ X1
theorem sm_good {K : PySem.W.Frag} {H : Hp} {Q : VK} {E : XK} {m : Nat} (mb : m < 10 ^ 255) (q : ∀ H', Ex H H' → Q (.str (SX.S (Mo.shw m))) H') : sp_show_moment K [.int m] H Q E :=
  ⟨_, rfl, cl_int _, fun k e => by
    have ek : k = m := by injection e with e; omega
    subst ek
    exact ⟨mb, q⟩, fun e => absurd e (by rw [show isM (.int m) = true from decide_eq_true (Int.natCast_nonneg m)]; decide)⟩
theorem ok_show_moment {P : Program} {w : World} {K : PySem.W.Frag} {mg : Str → Option Value} {base : Heap} (T : Env K mg) : Fc P w K mg base 5 (He.ga K "show_moment") [] (sp_show_moment K ) := by
  obtain ⟨fd, D, F⟩ := fb_show_moment T
  exact F.all (D.bindsN fun _ _ _ _ _ _ us hl => match us, hl with | [_], _ => rfl)
end
section
def sp_want_day (K : PySem.W.Frag) : Sp := fun vs H Q E => ∃ x, vs = [x] ∧ Cl K H x ∧ (isM x = true → Q .non H) ∧ (isM x = false → E (.ref (He.ga K "NoDays")) none H)
theorem fb_want_day {P : Program} {w : World} {K : PySem.W.Frag} {mg : Str → Option Value} {base : Heap} (T : Env K mg) : ∃ fd, FunD K "want_day" "want_day" (defArgs s_want_day) (defBody s_want_day) (defScope s_want_day) [] [] (He.ga K "want_day") fd ∧ Fb P w K mg base 3 (He.ga K "want_day") fd ["thing"] (sp_want_day K) := by
  obtain ⟨fd, F⟩ := T.f_want_day
  refine ⟨fd, F, fb_of F sc_want_day (fun vs H Q E h => ?_) (fun cdv A outer s H vs Q E hr h => ?_)⟩
  · obtain ⟨x, rfl, _⟩ := h
    rfl
  · obtain ⟨x, rfl, c, q, qe⟩ := h
    refine ⟨_, (pss_one (ps_if (pt_not (pt_val (c_call (ok_is_moment T) (hr.mono (by decide)) T.g_is_moment T.k_is_moment (takes_of rfl rfl rfl rfl) (pa_cons (pv 0) pa_nil))))
      (pss_one (ps_raise rfl (takes_of rfl rfl rfl rfl) (pmk_own PySem.F.excBase_ValueError T.x_NoDays.x T.g_NoDays T.x_NoDays.kp (raises_own T.x_NoDays.sub T.x_NoDays.ty) rfl)))
      pss_nil)), ?_⟩
    refine ⟨_, rfl, x, rfl, c, _, rfl, ?_⟩
    cases e : isM x with
    | true => exact q e
    | false => exact qe e
theorem ok_want_day {P : Program} {w : World} {K : PySem.W.Frag} {mg : Str → Option Value} {base : Heap} (T : Env K mg) : Fc P w K mg base 3 (He.ga K "want_day") [] (sp_want_day K ) := by
  obtain ⟨fd, D, F⟩ := fb_want_day T
  exact F.all (D.bindsN fun _ _ _ _ _ _ us hl => match us, hl with | [_], _ => rfl)
end
section
/-- the signs of a ring -/
def sgn (l : List Nat) : Bool := decide (1 ≤ l.length ∧ l.length ≤ 7) && l.all fun c => c == 48 || c == 49
theorem sgn_in (c : Nat) : inV (.str ⟨#[c]⟩) [.str (Str.ofString "0"), .str (Str.ofString "1")] = (c == 48 || c == 49) := by
  have e : ∀ d : Nat, eqV (.str (SX.S [d])) (.str ⟨#[c]⟩) = (c == d) := fun d => by
    show decide ((SX.S [d]) = SX.S [c]) = (c == d)
    by_cases h : c = d
    · rw [h]
      simp
    · rw [decide_eq_false (fun z => h (by have w : [d] = [c] := SX.S_inj z; injection w with w; exact w.symm))]
      exact (beq_eq_false_iff_ne.mpr h).symm
  show (eqV (.str (SX.S [48])) (.str ⟨#[c]⟩) || (eqV (.str (SX.S [49])) (.str ⟨#[c]⟩) || false)) = _
  rw [e, e, Bool.or_false]
def sp_are_signs (K : PySem.W.Frag) : Sp := fun vs H Q _ => ∃ x, vs = [x] ∧ ((∃ l : List Nat, x = .str (SX.S l) ∧ l.length ≤ 600 ∧ ∀ H', Ex H H' → Q (.bl (sgn l)) H') ∨ (∃ t, TyX K H x t ∧ PySem.W.kitOne K t (.type "str") = some false ∧ Q (.bl false) H))
theorem fb_are_signs {P : Program} {w : World} {K : PySem.W.Frag} {mg : Str → Option Value} {base : Heap} (T : Env K mg) : ∃ fd, FunD K "are_signs" "are_signs" (defArgs s_are_signs) (defBody s_are_signs) (defScope s_are_signs) [] [] (He.ga K "are_signs") fd ∧ Fb P w K mg base 1 (He.ga K "are_signs") fd ["thing"] (sp_are_signs K) := by
  obtain ⟨fd, F⟩ := T.f_are_signs
  refine ⟨fd, F, fb_of F sc_are_signs (fun vs H Q E h => ?_) (fun cdv A outer s H vs Q E hr h => ?_)⟩
  · obtain ⟨x, rfl, _⟩ := h
    rfl
  · obtain ⟨x, rfl, h⟩ := h
    refine ⟨_, (pss_cons (ps_if (PW.pt (pw_or (pt_not (pt_val (pe_callB call_isi (by rfl) T.n_isinstance (by decide +kernel) (pa_cons (pv 0) (pa_cons (pe_bltn (v := .ty "str") (by rfl) T.n_str (by decide +kernel) rfl) pa_nil))))) (pw_or1 (pt_not (pt_chain op_le op_le pe_int (pe_callB call_len (by rfl) T.n_len (by decide +kernel) (pa_cons (pv 0) pa_nil)) (pe_k T.v_MOST_SIGNS))))))
      (pss_one (ps_ret pe_bl))
      pss_nil)
      (pss_one (ps_ret (pe_callB (cr_all rfl) (by rfl) T.n_all (by decide +kernel) (pa_cons (pe_lc (own := [("sign", 1)]) (by rfl) sc_are_signs.nd (pi_str (pv 0)) (blkOk_by (own := [("sign", 1)]) (N := ["thing", "sign"]) (sc := defScope s_are_signs) (by decide +kernel)) (fun _ _ _ _ _ => (pg_name (i := 1) sc_are_signs.nd rfl (Or.inl rfl))) (fun _ _ _ _ _ => pts_nil) (fun _ _ _ _ _ => (pe_cmpR (op_in_seqK K) (pv 1) (pe_tup (pa_cons (pe_k T.v_NOUGHT) (pa_cons (pe_k T.v_ONE) pa_nil))) (by rfl)))) pa_nil))))), ?_⟩
    rcases h with ⟨l, rfl, hl, q⟩ | ⟨t, ty, kt, q⟩
    · have ls : (SX.S l).length ≤ sizeLine := Nat.le_of_lt (small_len (by rw [SX.S_len]; omega))
      refine ⟨_, rfl, .str (SX.S l), .ty "str", _, _, true, rfl, .ty "str", .base (.str _), kit_ty (by decide +kernel), true, rfl, iteF ?_⟩
      refine ⟨_, rfl, _, l.length, rfl, ⟨ls, (SX.S_len l).symm⟩, _, _, rfl, rfl, _, rfl, ?_⟩
      by_cases h1 : 1 ≤ l.length
      · rw [decide_eq_true (show (1 : Int) ≤ (l.length : Nat) by omega)]
        refine ⟨_, _, rfl, rfl, _, rfl, ?_⟩
        by_cases h7 : l.length ≤ 7
        · rw [decide_eq_true (show ((l.length : Nat) : Int) ≤ 7 by omega)]
          refine iteF ?_
          refine ⟨_, rfl, _, rfl, fun D nD => lc_fm L2.walk_str (fun i => some (.bl (l.getD i 0 == 48 || l.getD i 0 == 49))) (fun H' => Ex H H') (fun H' z e => ex_mut e nD) (.refl H) (by show l.toArray.size ≤ 100000; simp; omega) (fun _ _ => trivial) (fun i x H1 H2 acc N hi e hD la y k => ?_) fun H1 e1 d1 => ?_⟩
          · obtain ⟨rfl, c, hc, rfl⟩ := y
            refine ⟨rfl, _, rfl, by show 2 ≤ sizeLine; decide, fun t nt => ?_⟩
            have hDt := fun o => ex_new (o := o) nt _ _ hD
            refine ⟨t, _, rfl, .inr (sq_tup upd_same), rfl, rfl, acc, hDt _, la, ?_⟩
            have e2 : l.getD i 0 = c := by
              have hc2 : l[i]? = some c := by simpa using hc
              rw [List.getD_eq_getElem?_getD, hc2]
              rfl
            have k2 := fun o => k _ (e.trans (ex_new (o := o) nt)) (hDt o)
            have e3 : inV (.str ⟨#[c]⟩) [.str (Str.ofString "0"), .str (Str.ofString "1")] = (l.getD i 0 == 48 || l.getD i 0 == 49) := by
              rw [e2]
              exact sgn_in c
            rw [← e3] at k2
            exact k2 _
          · refine ⟨D, l.map (fun c => c == 48 || c == 49), rfl, sq_lst ?_, ?_⟩
            · rw [d1]
              have e3 := range_map_get l 0 (fun c => V.bl (c == 48 || c == 49))
              have e4 : l.toArray.size = l.length := by simp
              show some (HO.lst (List.filterMap _ (List.range l.toArray.size))) = _
              rw [e4, e3, List.map_map]
              rfl
            · have e5 : (l.map fun c => c == 48 || c == 49).all id = l.all fun c => c == 48 || c == 49 := by
                rw [List.all_map]
                rfl
              rw [e5]
              have z := q H1 e1
              unfold sgn at z
              rw [decide_eq_true ⟨h1, h7⟩, Bool.true_and] at z
              exact z
        · rw [decide_eq_false (show ¬ ((l.length : Nat) : Int) ≤ 7 by omega)]
          have z := q H (.refl H)
          unfold sgn at z
          rw [decide_eq_false (fun y => h7 y.2)] at z
          exact z
      · rw [decide_eq_false (show ¬ (1 : Int) ≤ (l.length : Nat) by omega)]
        have z := q H (.refl H)
        unfold sgn at z
        rw [decide_eq_false (fun y => h1 y.1)] at z
        exact ⟨_, rfl, z⟩
    · exact ⟨_, rfl, x, .ty "str", t, _, false, rfl, .ty "str", ty, kt, false, rfl, q⟩
theorem ok_are_signs {P : Program} {w : World} {K : PySem.W.Frag} {mg : Str → Option Value} {base : Heap} (T : Env K mg) : Fc P w K mg base 1 (He.ga K "are_signs") [] (sp_are_signs K ) := by
  obtain ⟨fd, D, F⟩ := fb_are_signs T
  exact F.all (D.bindsN fun _ _ _ _ _ _ us hl => match us, hl with | [_], _ => rfl)
end
section
theorem ex_made {H : Hp} {x dx : Addr} {o1 o2 : HO} (nx : H x = none) (nd : H dx = none) (ne : dx ≠ x) : Ex H (upd (upd H dx o1) x o2) := fun b o e => by
  rw [upd_ne (ne_of_none e nx), upd_ne (ne_of_none e nd)]
  exact e
end
section
abbrev RingC (K : PySem.W.Frag) : Addr := He.ga K "Ring"
/-- at a a ring of these signs -/
def RingAt (K : PySem.W.Frag) (H : Hp) (a : Addr) (l : List Nat) : Prop := ∃ dx, H a = some (.ins (RingC K) dx [("bits", .str (SX.S l))])
def sp_Ring_init (K : PySem.W.Frag) : Sp := fun vs H Q E => ∃ a dx x, vs = [.ref a, x] ∧ H a = some (.ins (RingC K) dx []) ∧ ((∃ l : List Nat, x = .str (SX.S l) ∧ l.length ≤ 600 ∧ (sgn l = true → ∀ H', Ex H H' → Q .non (upd H' a (.ins (RingC K) dx [("bits", .str (SX.S l))]))) ∧ (sgn l = false → ∀ H', Ex H H' → E (.ref (He.ga K "NoDays")) none H')) ∨
  (∃ t, TyX K H x t ∧ PySem.W.kitOne K t (.type "str") = some false ∧ E (.ref (He.ga K "NoDays")) none H))
theorem fb_Ring_init {P : Program} {w : World} {K : PySem.W.Frag} {mg : Str → Option Value} {base : Heap} (T : Env K mg) : ∃ fd, FunD K "__init__" "Ring.__init__" (defArgs s_Ring_init) (defBody s_Ring_init) (defScope s_Ring_init) [] [] (He.ma K (He.ga K "Ring") "__init__") fd ∧ Fb P w K mg base 2 (He.ma K (He.ga K "Ring") "__init__") fd ["self", "text"] (sp_Ring_init K) := by
  obtain ⟨fd, F⟩ := T.f_Ring_init
  refine ⟨fd, F, fb_of F sc_Ring_init (fun vs H Q E h => ?_) (fun cdv A outer s H vs Q E hr h => ?_)⟩
  · obtain ⟨a, dx, x, rfl, _⟩ := h
    rfl
  · obtain ⟨a, dx, x, rfl, ha, h⟩ := h
    refine ⟨_, (pss_cons (ps_if (pt_not (pt_val (c_call (ok_are_signs T) (hr.mono (by decide)) T.g_are_signs T.k_are_signs (takes_of rfl rfl rfl rfl) (pa_cons (pv 1) pa_nil))))
      (pss_one (ps_raise rfl (takes_of rfl rfl rfl rfl) (pmk_own PySem.F.excBase_ValueError T.x_NoDays.x T.g_NoDays T.x_NoDays.kp (raises_own T.x_NoDays.sub T.x_NoDays.ty) rfl)))
      pss_nil)
      (pss_one (ps_fld (pv 0) (pv 1) rfl))), ?_⟩
    rcases h with ⟨l, rfl, hl, q, qe⟩ | ⟨t, ty, kt, qe⟩
    · refine ⟨_, rfl, _, rfl, .inl ⟨l, rfl, hl, fun H1 e1 => ⟨_, rfl, ?_⟩⟩⟩
      cases e : sgn l with
      | false => exact qe e H1 e1
      | true =>
        refine iteF ?_
        refine ⟨_, rfl, _, rfl, a, _, dx, [], rfl, e1 _ _ ha, T.c_Ring, T.a_Ring_bits, by decide, ?_⟩
        exact q e H1 e1
    · exact ⟨_, rfl, _, rfl, .inr ⟨t, ty, kt, _, rfl, qe⟩⟩
theorem ring_new {K : PySem.W.Frag} {H : Hp} {x dx : Addr} {l : List Nat} {Q : VK} {E : XK} (nx : H x = none) (nd : H dx = none) (ne : dx ≠ x) (hs : sgn l = true) (q : ∀ H', Ex H H' → RingAt K H' x l → Q .non H') :
    sp_Ring_init K [.ref x, .str (SX.S l)] (upd (upd H dx (.own x)) x (.ins (RingC K) dx [])) Q E := by
  have h7 : 1 ≤ l.length ∧ l.length ≤ 7 := of_decide_eq_true (Bool.and_eq_true_iff.mp hs).1
  refine ⟨x, dx, _, rfl, upd_same, .inl ⟨l, rfl, by omega, fun _ H' e => q _ ?_ ⟨dx, upd_same⟩, fun z => absurd (hs.symm.trans z) Bool.noConfusion⟩⟩
  exact ex_mut ((ex_made nx nd ne).trans e) nx
theorem ok_Ring_init {P : Program} {w : World} {K : PySem.W.Frag} {mg : Str → Option Value} {base : Heap} (T : Env K mg) : Fc P w K mg base 2 (He.ma K (He.ga K "Ring") "__init__") [] (sp_Ring_init K ) := by
  obtain ⟨fd, D, F⟩ := fb_Ring_init T
  exact F.all (D.bindsN fun _ _ _ _ _ _ us hl => match us, hl with | [_, _], _ => rfl)
end
section
def sp_Ring_str (K : PySem.W.Frag) : Sp := fun vs H Q _ => ∃ a l, vs = [.ref a] ∧ RingAt K H a l ∧ Q (.str (SX.S l)) H
theorem fb_Ring_str {P : Program} {w : World} {K : PySem.W.Frag} {mg : Str → Option Value} {base : Heap} (T : Env K mg) : ∃ fd, FunD K "__str__" "Ring.__str__" (defArgs s_Ring_str) (defBody s_Ring_str) (defScope s_Ring_str) [] [] (He.ma K (He.ga K "Ring") "__str__") fd ∧ Fb P w K mg base 1 (He.ma K (He.ga K "Ring") "__str__") fd ["self"] (sp_Ring_str K) := by
  obtain ⟨fd, F⟩ := T.f_Ring_str
  refine ⟨fd, F, fb_of F sc_Ring_str (fun vs H Q E h => ?_) (fun cdv A outer s H vs Q E hr h => ?_)⟩
  · obtain ⟨a, l, rfl, _⟩ := h
    rfl
  · obtain ⟨a, l, rfl, ⟨dx, ha⟩, q⟩ := h
    refine ⟨_, (pss_one (ps_ret (pe_callTy SkE.call_str_str (by rfl) T.n_str (by decide +kernel) (pa_cons (pe_fld (pv 0) (by rfl)) pa_nil)))), ?_⟩
    exact ⟨_, rfl, a, _, dx, _, _, rfl, ha, T.c_Ring, T.a_Ring_bits, rfl, _, rfl, q⟩
theorem ok_Ring_str {P : Program} {w : World} {K : PySem.W.Frag} {mg : Str → Option Value} {base : Heap} (T : Env K mg) : Fc P w K mg base 1 (He.ma K (He.ga K "Ring") "__str__") [] (sp_Ring_str K ) := by
  obtain ⟨fd, D, F⟩ := fb_Ring_str T
  exact F.all (D.bindsN fun _ _ _ _ _ _ us hl => match us, hl with | [_], _ => rfl)
end
section
/-- whole numbers as values -/
def natV (ns : List Nat) : List V := ns.map fun n : Nat => V.int (n : Int)
/-- in order -/
def srtN (ns : List Nat) : List Nat := (srt (ns.map fun n : Nat => (n : Int))).map Int.toNat
theorem nat_int (ns : List Nat) : natV ns = (ns.map fun n : Nat => (n : Int)).map V.int := by
  unfold natV
  rw [List.map_map]
  rfl
theorem inV_nat (d : Nat) (ns : List Nat) : inV (.int (d : Int)) (natV ns) = decide (d ∈ ns) := by
  rw [nat_int, inV_int]
  apply decide_eq_decide.mpr
  constructor
  · intro h
    obtain ⟨n, hn, e⟩ := List.mem_map.mp h
    have : n = d := by omega
    exact this ▸ hn
  · intro h
    exact List.mem_map.mpr ⟨d, h, rfl⟩
theorem flat_nat (ns : List Nat) : (natV ns).all flatV = true := by
  rw [nat_int]
  exact flat_ints _
theorem mem_srtN (d : Nat) (ns : List Nat) : decide (d ∈ srtN ns) = decide (d ∈ ns) := by
  apply decide_eq_decide.mpr
  unfold srtN
  constructor
  · intro h
    obtain ⟨i, hi, e⟩ := List.mem_map.mp h
    obtain ⟨n, hn, e2⟩ := List.mem_map.mp ((srt_perm _).subset hi)
    have : n = d := by omega
    exact this ▸ hn
  · intro h
    exact List.mem_map.mpr ⟨(d : Int), (srt_perm _).symm.subset (List.mem_map.mpr ⟨d, h, rfl⟩), by simp⟩
theorem srtN_mem (d : Nat) (ns : List Nat) : d ∈ srtN ns ↔ d ∈ ns := decide_eq_decide.mp (mem_srtN d ns)
theorem natV_len (ns : List Nat) : (natV ns).length = ns.length := by
  unfold natV
  rw [List.length_map]
theorem srtN_len (ns : List Nat) : (srtN ns).length = ns.length := by
  unfold srtN
  rw [List.length_map, (srt_perm _).length_eq, List.length_map]
theorem natV_srt (ns : List Nat) : (srt (ns.map fun n : Nat => (n : Int))).map V.int = natV (srtN ns) := by
  unfold natV srtN
  rw [List.map_map]
  apply List.map_congr_left
  intro i hi
  obtain ⟨n, _, e⟩ := List.mem_map.mp ((srt_perm _).subset hi)
  show V.int i = V.int ((i.toNat : Nat) : Int)
  rw [Int.toNat_of_nonneg (by omega)]
theorem cut1 (xs : List V) : cutV xs (some 1) none = xs.drop 1 := by
  unfold cutV
  rw [HT.sIx_none, show (some (1 : Int)) = some ((1 : Nat) : Int) from rfl, HT.sIx_nat]
  cases xs with
  | nil => rfl
  | cons x r =>
    rw [show min 1 (x :: r).length = 1 by simp]
    exact List.take_of_length_le (by simp)
theorem natV_snoc (ns : List Nat) (n : Nat) : natV ns ++ [.int (n : Int)] = natV (ns ++ [n]) := by
  unfold natV
  rw [List.map_append]
  rfl
end
section
/-- the days of a list that is handed in, none where they are none -/
def dayNum : V → Nat
  | .int i => i.toNat
  | _ => 0
theorem natV_isM (ns : List Nat) : (natV ns).all isM = true := by
  rw [List.all_eq_true]
  intro x hx
  obtain ⟨n, _, rfl⟩ := List.mem_map.mp hx
  exact isM_nat n
theorem natV_num (ns : List Nat) : (natV ns).map dayNum = ns := by
  unfold natV
  rw [List.map_map]
  have : (dayNum ∘ fun n : Nat => V.int (n : Int)) = id := funext fun n => by simp [dayNum]
  rw [this, List.map_id]
theorem isM_natV : ∀ {xs : List V}, xs.all isM = true → xs = natV (xs.map dayNum)
  | [], _ => rfl
  | x :: xs, h => by
    obtain ⟨h1, h2⟩ := Bool.and_eq_true_iff.mp (show (isM x && xs.all isM) = true from h)
    obtain ⟨i, rfl, i0⟩ := isM_w h1
    obtain ⟨n, rfl⟩ := Int.eq_ofNat_of_zero_le i0
    have ih := isM_natV h2
    show V.int (n : Nat) :: xs = V.int (((Int.ofNat n).toNat : Nat) : Int) :: natV (xs.map dayNum)
    rw [← ih]
    rfl
/-- neighbours that are alike -/
def alikeN (l : List Nat) : List Bool := (l.zip (l.drop 1)).map fun p => decide (p.1 = p.2)
theorem alike_any {l : List Nat} (h : l.Pairwise (· ≤ ·)) : (alikeN l).any id = !decide l.Nodup := by
  induction l with
  | nil => rfl
  | cons a l ih =>
    obtain ⟨h1, h2⟩ := List.pairwise_cons.mp h
    have ih := ih h2
    cases l with
    | nil => rfl
    | cons b r =>
      have e : alikeN (a :: b :: r) = decide (a = b) :: alikeN (b :: r) := rfl
      rw [e, List.any_cons, ih]
      by_cases c : a = b
      · have nn : ¬ (a :: b :: r).Nodup := fun z => (List.pairwise_cons.mp z).1 b List.mem_cons_self c
        rw [decide_eq_false nn, decide_eq_true c]
        rfl
      · have iff : (a :: b :: r).Nodup ↔ (b :: r).Nodup := by
          refine ⟨fun z => (List.pairwise_cons.mp z).2, fun z => List.pairwise_cons.mpr ⟨fun x hx ex => ?_, z⟩⟩
          subst ex
          have hb := h1 b List.mem_cons_self
          rcases List.mem_cons.mp hx with hx | hx
          · exact c hx
          · have := (List.pairwise_cons.mp h2).1 a hx
            omega
        rw [decide_eq_false c, show decide (a :: b :: r).Nodup = decide (b :: r).Nodup from decide_eq_decide.mpr iff]
        rfl
theorem srtN_le (ns : List Nat) : (srtN ns).Pairwise (· ≤ ·) := by
  unfold srtN
  refine List.pairwise_map.mpr ((srt_sorted _).imp fun {a b} h => ?_)
  omega
theorem srtN_nodup (ns : List Nat) : decide (srtN ns).Nodup = decide ns.Nodup := by
  apply decide_eq_decide.mpr
  have p : (srtN ns).Perm ns := by
    unfold srtN
    have := (srt_perm (ns.map fun n : Nat => (n : Int))).map Int.toNat
    rw [List.map_map] at this
    have e : (Int.toNat ∘ fun n : Nat => (n : Int)) = id := funext fun n => by simp
    rw [e, List.map_id] at this
    exact this
  exact p.nodup_iff
end
section
/-- a list of days that is handed in: None, a list, a tuple -/
def DayL (K : PySem.W.Frag) (H : Hp) (x : V) (ns : List Nat) : Prop := (x = .non ∧ ns = []) ∨ (∃ a, x = .ref a ∧ ((H a = some (.lst (natV ns))) ∨ (H a = some (.tup (natV ns)))) ∧ ns.length ≤ 8 ∧ ns.Nodup)
def dayList (xs : List V) : Option (List Nat) := if (decide (xs.length ≤ 8) && xs.all isM && decide (xs.map dayNum).Nodup) = true then some (xs.map dayNum) else none
/-- what is handed in for days, and what it tells -/
def DayG (K : PySem.W.Frag) (H : Hp) (x : V) (r : Option (List Nat)) : Prop := (x = .non ∧ r = some []) ∨ (∃ a xs, x = .ref a ∧ (H a = some (.lst xs) ∨ H a = some (.tup xs)) ∧ xs.length ≤ 10000 ∧ (∀ y ∈ xs, Cl K H y) ∧ r = dayList xs) ∨ (x ≠ .non ∧ (∃ t, TyX K H x t ∧ PySem.W.kitAny K t [.type "list", .type "tuple"] = some false) ∧ r = none)
theorem dayList_nat (ns : List Nat) : dayList (natV ns) = if decide (ns.length ≤ 8) && decide ns.Nodup then some ns else none := by
  unfold dayList
  rw [natV_isM, natV_num, natV_len, Bool.and_true]
theorem DayL.gen {K : PySem.W.Frag} {H : Hp} {x : V} {ns : List Nat} (h : DayL K H x ns) : DayG K H x (some ns) := by
  rcases h with ⟨h1, h2⟩ | ⟨a, h1, h2, h3, h4⟩
  · exact .inl ⟨h1, by rw [h2]⟩
  · refine .inr (.inl ⟨a, natV ns, h1, h2, by rw [natV_len]; omega, fun y hy => ?_, ?_⟩)
    · obtain ⟨n, _, rfl⟩ := List.mem_map.mp hy
      exact cl_int _
    · rw [dayList_nat, decide_eq_true h3, decide_eq_true h4]
      rfl
theorem DayG.mono {K : PySem.W.Frag} {H H' : Hp} {x : V} {r : Option (List Nat)} (h : DayG K H x r) (e : Ex H H') : DayG K H' x r := by
  rcases h with h | ⟨a, xs, h1, h2, h3, h4, h5⟩ | ⟨h1, ⟨t, h2, h3⟩, h4⟩
  · exact .inl h
  · exact .inr (.inl ⟨a, xs, h1, h2.imp (e _ _) (e _ _), h3, fun y hy => (h4 y hy).mono e, h5⟩)
  · exact .inr (.inr ⟨h1, ⟨t, tyX_mono e h2, h3⟩, h4⟩)
def sp_told_days (K : PySem.W.Frag) : Sp := fun vs H Q E => ∃ x r, vs = [x] ∧ DayG K H x r ∧ (∀ ns, r = some ns → ∀ p H', Ex H H' → H p = none → H' p = some (.tup (natV (srtN ns))) → Q (.ref p) H') ∧ (r = none → ∀ H', Ex H H' → E (.ref (He.ga K "NoDays")) none H')
theorem fb_told_days {P : Program} {w : World} {K : PySem.W.Frag} {mg : Str → Option Value} {base : Heap} (T : Env K mg) : ∃ fd, FunD K "told_days" "told_days" (defArgs s_told_days) (defBody s_told_days) (defScope s_told_days) [] [] (He.ga K "told_days") fd ∧ Fb P w K mg base 4 (He.ga K "told_days") fd ["thing"] (sp_told_days K) := by
  obtain ⟨fd, F⟩ := T.f_told_days
  refine ⟨fd, F, fb_of F sc_told_days (fun vs H Q E h => ?_) (fun cdv A outer s H vs Q E hr h => ?_)⟩
  · obtain ⟨x, ns, rfl, _⟩ := h
    rfl
  · obtain ⟨x, r, rfl, hx, q, qe⟩ := h
    refine ⟨_, (pss_cons (ps_if (pt_cmpR op_isN (pv 0) pe_non (nomark _))
      (pss_one (ps_ret (pe_tup pa_nil)))
      pss_nil)
      (pss_cons (ps_if (PW.pt (pw_or (pt_not (pt_val (pe_callB call_isiT (by rfl) T.n_isinstance (by decide +kernel) (pa_cons (pv 0) (pa_cons (pe_tup (pa_cons (pe_bltn (v := .ty "list") (by rfl) T.n_list (by decide +kernel) rfl) (pa_cons (pe_bltn (v := .ty "tuple") (by rfl) T.n_tuple (by decide +kernel) rfl) pa_nil))) pa_nil))))) (pw_or1 (pt_cmpR op_gt (pe_callB call_len (by rfl) T.n_len (by decide +kernel) (pa_cons (pv 0) pa_nil)) (pe_k T.v_MOST_DAYS) (nomark _)))))
      (pss_one (ps_raise rfl (takes_of rfl rfl rfl rfl) (pmk_own PySem.F.excBase_ValueError T.x_NoDays.x T.g_NoDays T.x_NoDays.kp (raises_own T.x_NoDays.sub T.x_NoDays.ty) rfl)))
      pss_nil)
      (Evl.pss_cut (ps_for (passes_of rfl) rfl (pi_seq (pv 0)) (pg_name (i := 1) sc_told_days.nd rfl (Or.inl rfl))
      (pss_one (ps_expr (c_call (ok_want_day T) (hr.mono (by decide)) T.g_want_day T.k_want_day (takes_of rfl rfl rfl rfl) (pa_cons (pv 1) pa_nil)))))
      (pss_cons (ps_set (i := 2) sc_told_days.nd rfl (Or.inl rfl) (pe_callTy call_tuple_of (by rfl) T.n_tuple (by decide +kernel) (pa_cons (pe_callB (cr_sortedA K) (by rfl) T.n_sorted (by decide +kernel) (pa_cons (pv 0) pa_nil)) pa_nil)))
      (pss_cons (ps_if (pt_val (pe_callB (cr_any rfl) (by rfl) T.n_any (by decide +kernel) (pa_cons (pe_lc (own := [("one", 3), ("other", 4)]) (by rfl) sc_told_days.nd (RZ.pi_zipA (by rfl) T.n_zip (pa_cons (pv 2) (pa_cons (pe_slice sl_tupA (pv 2) (po_some pe_int) po_none) pa_nil))) (blkOk_by (own := [("one", 3), ("other", 4)]) (N := ["thing", "day", "found", "one", "other"]) (sc := defScope s_told_days) (by decide +kernel)) (fun _ _ _ _ _ => (pg_tupK K (n := 2) rfl (pgs_cons (pg_name (i := 3) sc_told_days.nd rfl (Or.inl rfl)) (pgs_cons (pg_name (i := 4) sc_told_days.nd rfl (Or.inl rfl)) pgs_nil)))) (fun _ _ _ _ _ => pts_nil) (fun _ _ _ _ _ => (pe_cmpR op_eq (pv 3) (pv 4) (nomark _)))) pa_nil)))
      (pss_one (ps_raise rfl (takes_of rfl rfl rfl rfl) (pmk_own PySem.F.excBase_ValueError T.x_NoDays.x T.g_NoDays T.x_NoDays.kp (raises_own T.x_NoDays.sub T.x_NoDays.ty) rfl)))
      pss_nil)
      (pss_one (ps_ret (pv 2)))))))), ?_⟩
    rcases hx with ⟨rfl, rfl⟩ | ⟨a, xs, rfl, hl, lx, hc, er⟩ | ⟨nx, ⟨t, ty, kt⟩, rfl⟩
    · refine ⟨_, rfl, rfl, _, rfl, iteT ?_⟩
      refine ⟨by show 0 ≤ sizeLine; decide, fun p np => q [] rfl p _ (ex_new np) np ?_⟩
      have e : srtN [] = [] := List.eq_nil_of_length_eq_zero (by rw [srtN_len]; rfl)
      rw [upd_same, e]
      rfl
    · refine ⟨_, rfl, rfl, _, rfl, iteF ?_⟩
      refine ⟨_, rfl, by show 2 ≤ sizeLine; decide, fun tp ntp => ?_⟩
      have X1 := ex_new (o := .tup [.ty "list", .ty "tuple"]) ntp
      have ty : ∃ t, TyX K (upd H tp (.tup [.ty "list", .ty "tuple"])) (.ref a) t ∧ PySem.W.kitAny K t [.type "list", .type "tuple"] = some true := by
        rcases hl with h | h
        · exact ⟨_, .base (.lst (X1 _ _ h)), kitAny_cons (b := true) (kit_ty (by decide +kernel)) (fun z => nomatch z) (fun _ => rfl)⟩
        · exact ⟨_, .base (.tup (X1 _ _ h)), kitAny_cons (b := false) (kit_ty (by decide +kernel)) (fun _ => kitAny_cons (b := true) (kit_ty (by decide +kernel)) (fun z => nomatch z) (fun _ => rfl)) (by decide)⟩
      obtain ⟨t, ty, kt⟩ := ty
      have sq : ∀ {H' : Hp}, Ex H H' → SqL K H' a xs ∨ SqT K H' a xs := fun {H'} e => by
        rcases hl with h | h
        · exact .inl (sq_lst (e _ _ h))
        · exact .inr (sq_tup (e _ _ h))
      refine ⟨.ref a, tp, _, t, _, true, rfl, upd_same, .cons (.ty "list") (.cons (.ty "tuple") .nil), ty, kt, true, rfl, iteF ?_⟩
      refine ⟨_, rfl, _, xs.length, rfl, ?_, _, _, rfl, rfl, _, rfl, ?_⟩
      · rcases sq X1 with h | h
        · exact .inl ⟨_, h, rfl⟩
        · exact .inr ⟨_, h, rfl⟩
      by_cases l8 : 8 < xs.length
      · rw [decide_eq_true (show (8 : Int) < ((xs.length : Nat) : Int) by omega)]
        refine qe ?_ _ X1
        rw [er]
        unfold dayList
        rw [decide_eq_false (show ¬ xs.length ≤ 8 by omega)]
        rfl
      rw [decide_eq_false (show ¬ (8 : Int) < ((xs.length : Nat) : Int) by omega)]
      refine iteF ?_
      have H1d : ∀ y ∈ xs, Cl K (upd H tp (.tup [.ty "list", .ty "tuple"])) y := fun y hy => (hc y hy).mono X1
      refine ⟨fun σ' H' => H' = upd H tp (.tup [.ty "list", .ty "tuple"]) ∧ xs.all isM = true ∧ ∃ v, σ' = [some (.ref a), v, none, none, none], ?_, ?_⟩
      · have stp : ∀ (i : Nat) (x : V) (σ : L2.St) (H' : Hp) (D : Ends), xs[i]? = some x → (H' = upd H tp (.tup [.ty "list", .ty "tuple"]) ∧ (xs.take i).all isM = true ∧ ∃ v, σ = [some (.ref a), v, none, none, none]) →
            sp_want_day K [x] H' (fun _ H2 => H2 = upd H tp (.tup [.ty "list", .ty "tuple"]) ∧ (xs.take (i + 1)).all isM = true ∧ ∃ v, (σ.set 1 (some x)) = [some (.ref a), v, none, none, none]) (fun c d H' => E c d H') := fun i x σ H' D hx ⟨e1, e2, v, e3⟩ => by
          subst e1 e3
          refine ⟨x, rfl, H1d x (List.mem_of_getElem? hx), fun hm => ⟨rfl, ?_, _, rfl⟩, fun hm => qe ?_ _ X1⟩
          · rw [take_snoc hx, List.all_append, e2]
            simp [hm]
          · rw [er]
            unfold dayList
            have : xs.all isM = false := by
              rw [List.all_eq_false]
              exact ⟨x, List.mem_of_getElem? hx, by rw [hm]; decide⟩
            rw [this, Bool.and_false, Bool.false_and]
            rfl
        have fin : ∀ (σ : L2.St) (H' : Hp), (H' = upd H tp (.tup [.ty "list", .ty "tuple"]) ∧ (xs.take xs.length).all isM = true ∧ ∃ v, σ = [some (.ref a), v, none, none, none]) → H' = upd H tp (.tup [.ty "list", .ty "tuple"]) ∧ xs.all isM = true ∧ ∃ v, σ = [some (.ref a), v, none, none, none] := fun σ H' h => by
          rw [List.take_length] at h
          exact h
        rcases hl with h | h
        · refine .inl ⟨_, rfl, a, rfl, ⟨_, sq_lst (X1 _ _ h)⟩, for_list (fun i σ H' => H' = upd H tp (.tup [.ty "list", .ty "tuple"]) ∧ (xs.take i).all isM = true ∧ ∃ v, σ = [some (.ref a), v, none, none, none]) ⟨rfl, rfl, _, rfl⟩ (fun i σ H' _ e => by rw [e.1]; exact sq_lst (X1 _ _ h)) ?_ fin⟩
          intro i x σ H' hx p
          obtain ⟨e1, e2, v, e3⟩ := id p
          have := stp i x σ H' { nx := fun _ _ => True, rt := fun _ _ => True } hx p
          subst e3
          exact ⟨_, rfl, this⟩
        · refine .inr ⟨_, rfl, a, rfl, ⟨_, sq_tup (X1 _ _ h)⟩, for_tup (fun i σ H' => H' = upd H tp (.tup [.ty "list", .ty "tuple"]) ∧ (xs.take i).all isM = true ∧ ∃ v, σ = [some (.ref a), v, none, none, none]) ⟨rfl, rfl, _, rfl⟩ (fun i σ H' _ e => by rw [e.1]; exact sq_tup (X1 _ _ h)) ?_ fin⟩
          intro i x σ H' hx p
          obtain ⟨e1, e2, v, e3⟩ := id p
          have := stp i x σ H' { nx := fun _ _ => True, rt := fun _ _ => True } hx p
          subst e3
          exact ⟨_, rfl, this⟩
      rintro σ' H1 ⟨rfl, hM, v, rfl⟩
      have exs := isM_natV hM
      generalize xs.map dayNum = ns at exs
      subst exs
      rw [dayList_nat] at er
      rw [natV_len] at l8
      rw [decide_eq_true (show ns.length ≤ 8 by omega), Bool.true_and] at er
      refine ⟨_, rfl, a, ns.map (fun n : Nat => (n : Int)), rfl, by rw [← nat_int]; exact sq X1, fun p1 np1 => ?_⟩
      rw [natV_srt]
      refine ⟨p1, _, rfl, .inl ⟨sq_lst upd_same, fun l nl => ?_⟩⟩
      have X3 := (X1.trans (ex_new (o := .lst (natV (srtN ns))) np1)).trans (ex_new (o := .tup (natV (srtN ns))) nl)
      have nl0 : H l = none := ex_fresh (X1.trans (ex_new np1)) nl
      have hl3 : upd (upd (upd H tp (.tup [.ty "list", .ty "tuple"])) p1 (.lst (natV (srtN ns)))) l (.tup (natV (srtN ns))) l = some (.tup (natV (srtN ns))) := upd_same
      generalize upd (upd (upd H tp (.tup [.ty "list", .ty "tuple"])) p1 (.lst (natV (srtN ns)))) l (.tup (natV (srtN ns))) = H3 at X3 hl3 ⊢
      refine ⟨_, rfl, _, rfl, _, rfl, ?_⟩
      dsimp only [tNoPart]
      refine slA_of (sq_tup hl3) fun b2 H4 X4 hb2 => ?_
      rw [cut1] at hb2
      have ed : (natV (srtN ns)).drop 1 = natV ((srtN ns).drop 1) := by
        unfold natV
        rw [List.map_drop]
      rw [ed] at hb2
      have sl := srtN_len ns
      refine ⟨l, b2, natV (srtN ns), natV ((srtN ns).drop 1), rfl, .inr ⟨sq_tup (X4 _ _ hl3), hb2, fun D nD => lc_zip (srtN ns) ((srtN ns).drop 1) (fun n : Nat => V.int n) (fun n : Nat => V.int n) (walk_zipT rfl) (by rw [List.length_map, List.length_map]) (fun x y => some (.bl (decide (x = y)))) (fun H' => Ex H4 H') (fun H' z e => ex_mut e nD) (.refl _) (by omega) (fun H' e => ⟨sq_tup (e _ _ (X4 _ _ hl3)), ex_sqt e hb2⟩) (fun i x y u H5 acc N hx hy X5 nu hA la k => ?_) fun H5 X5 d5 => ?_⟩⟩
      · have hA2 := fun o => ex_new (o := o) nu _ _ hA
        refine ⟨u, _, rfl, sq_tup upd_same, rfl, _, _, rfl, _, _, rfl, rfl, rfl, _, rfl, _, rfl, rfl, acc, hA2 _, la, ?_⟩
        have eq : decide (V.int ((x : Nat) : Int) = V.int ((y : Nat) : Int)) = decide (x = y) := decide_eq_decide.mpr ⟨fun z => by injection z with z; omega, fun z => by rw [z]⟩
        rw [eq]
        exact k _ (X5.trans (ex_new nu)) (hA2 _)
      · have eb : ((srtN ns).zip ((srtN ns).drop 1)).filterMap (fun p => some (V.bl (decide (p.1 = p.2)))) = (alikeN (srtN ns)).map V.bl := by
          unfold alikeN
          rw [List.filterMap_eq_map', List.map_map]
          rfl
        rw [eb] at d5
        refine ⟨D, alikeN (srtN ns), rfl, sq_lst d5, ?_⟩
        rw [alike_any (srtN_le ns), srtN_nodup]
        have X := (X3.trans X4).trans X5
        by_cases nd : ns.Nodup
        · rw [decide_eq_true nd] at er ⊢
          refine ⟨false, rfl, iteF ?_⟩
          exact ⟨_, rfl, q ns er l H5 X nl0 ((X4.trans X5) _ _ hl3)⟩
        · rw [decide_eq_false nd] at er ⊢
          exact ⟨true, rfl, qe er _ X⟩
    · refine ⟨_, rfl, rfl, _, rfl, ?_⟩
      rw [decide_eq_false nx]
      refine iteF ?_
      refine ⟨_, rfl, by show 2 ≤ sizeLine; decide, fun tp ntp => ?_⟩
      have X1 := ex_new (o := .tup [.ty "list", .ty "tuple"]) ntp
      exact ⟨x, tp, _, t, _, false, rfl, upd_same, .cons (.ty "list") (.cons (.ty "tuple") .nil), tyX_mono X1 ty, kt, false, rfl, qe rfl _ X1⟩
theorem ok_told_days {P : Program} {w : World} {K : PySem.W.Frag} {mg : Str → Option Value} {base : Heap} (T : Env K mg) : Fc P w K mg base 4 (He.ga K "told_days") [] (sp_told_days K ) := by
  obtain ⟨fd, D, F⟩ := fb_told_days T
  exact F.all (D.bindsN fun _ _ _ _ _ _ us hl => match us, hl with | [_], _ => rfl)
end
section
def optV : Option Nat → V
  | none => .non
  | some n => .int (n : Int)
/-- a last day as it is told: r what it is, none where it is none -/
def TillG (K : PySem.W.Frag) (H : Hp) (x : V) (s : Nat) (r : Option (Option Nat)) : Prop := (x = .non ∧ r = some none) ∨ (x ≠ .non ∧ Cl K H x ∧ ((∃ n : Nat, x = .int n ∧ r = if s ≤ n then some (some n) else none) ∨ (isM x = false ∧ r = none)))
def sp_want_till (K : PySem.W.Frag) : Sp := fun vs H Q E => ∃ (s : Nat) (x : V) (r : Option (Option Nat)), vs = [.int s, x] ∧ TillG K H x s r ∧ (r ≠ none → Q .non H) ∧ (r = none → E (.ref (He.ga K "NoDays")) none H)
theorem fb_want_till {P : Program} {w : World} {K : PySem.W.Frag} {mg : Str → Option Value} {base : Heap} (T : Env K mg) : ∃ fd, FunD K "want_till" "want_till" (defArgs s_want_till) (defBody s_want_till) (defScope s_want_till) [] [] (He.ga K "want_till") fd ∧ Fb P w K mg base 4 (He.ga K "want_till") fd ["since", "till"] (sp_want_till K) := by
  obtain ⟨fd, F⟩ := T.f_want_till
  refine ⟨fd, F, fb_of F sc_want_till (fun vs H Q E h => ?_) (fun cdv A outer s H vs Q E hr h => ?_)⟩
  · obtain ⟨s, x, r, rfl, _⟩ := h
    rfl
  · obtain ⟨s, x, r, rfl, ht, q, qe⟩ := h
    refine ⟨_, (pss_one (ps_if (pt_cmpR op_notN (pv 1) pe_non (nomark _))
      (pss_cons (ps_expr (c_call (ok_want_day T) (hr.mono (by decide)) T.g_want_day T.k_want_day (takes_of rfl rfl rfl rfl) (pa_cons (pv 1) pa_nil)))
      (pss_one (ps_if (pt_cmpR op_lt (pv 1) (pv 0) (nomark _))
      (pss_one (ps_raise rfl (takes_of rfl rfl rfl rfl) (pmk_own PySem.F.excBase_ValueError T.x_NoDays.x T.g_NoDays T.x_NoDays.kp (raises_own T.x_NoDays.sub T.x_NoDays.ty) rfl)))
      pss_nil)))
      pss_nil)), ?_⟩
    rcases ht with ⟨rfl, rfl⟩ | ⟨nx, c, ⟨n, rfl, rfl⟩ | ⟨hm, rfl⟩⟩
    · exact ⟨_, rfl, rfl, _, rfl, q (by simp)⟩
    · refine ⟨_, rfl, rfl, _, rfl, ?_⟩
      refine ⟨_, rfl, _, rfl, cl_int _, fun _ => ?_, isM_no⟩
      refine ⟨_, rfl, _, rfl, _, _, rfl, rfl, _, rfl, ?_⟩
      by_cases c1 : s ≤ n
      · rw [decide_eq_false (show ¬ ((n : Nat) : Int) < ((s : Nat) : Int) by omega)]
        exact q (by rw [if_pos c1]; simp)
      · rw [decide_eq_true (show ((n : Nat) : Int) < ((s : Nat) : Int) by omega)]
        exact qe (if_neg c1)
    · refine ⟨_, rfl, rfl, _, rfl, ?_⟩
      rw [decide_eq_false nx]
      refine iteT ?_
      exact ⟨_, rfl, x, rfl, c, fun e => absurd (hm.symm.trans e) (by decide), fun _ => qe rfl⟩
theorem ok_want_till {P : Program} {w : World} {K : PySem.W.Frag} {mg : Str → Option Value} {base : Heap} (T : Env K mg) : Fc P w K mg base 4 (He.ga K "want_till") [] (sp_want_till K ) := by
  obtain ⟨fd, D, F⟩ := fb_want_till T
  exact F.all (D.bindsN fun _ _ _ _ _ _ us hl => match us, hl with | [_, _], _ => rfl)
end
section
abbrev DaysC (K : PySem.W.Frag) : Addr := He.ga K "Days"
structure DaysD where
  bits : List Nat
  since : Nat
  till : Option Nat
  out : List Nat
  also : List Nat
def DaysD.ok (D : DaysD) : Prop := sgn D.bits = true ∧ (∀ u, D.till = some u → D.since ≤ u) ∧ D.out.length ≤ 8 ∧ D.also.length ≤ 8 ∧ D.out.Nodup ∧ D.also.Nodup ∧ ∀ n ∈ D.also, n ∉ D.out
def dayF (r po pa : Addr) (D : DaysD) : List (Str × V) := [("ring", .ref r), ("since", .int (D.since : Nat)), ("till", optV D.till), ("out", .ref po), ("also", .ref pa)]
/-- at a Days of these -/
def DaysAt (K : PySem.W.Frag) (H : Hp) (a : Addr) (D : DaysD) : Prop := ∃ dx r po pa, H a = some (.ins (DaysC K) dx (dayF r po pa D)) ∧ RingAt K H r D.bits ∧ H po = some (.tup (natV (srtN D.out))) ∧ H pa = some (.tup (natV (srtN D.also)))
theorem DayL.keep {K : PySem.W.Frag} {H H' : Hp} {x : V} {ns : List Nat} (h : DayL K H x ns) (k : ∀ b o, (∀ C d f, o ≠ .ins C d f) → H b = some o → H' b = some o) : DayL K H' x ns := by
  rcases h with h | ⟨a, rfl, h | h, r⟩
  · exact .inl h
  · exact .inr ⟨a, rfl, .inl (k _ _ (fun _ _ _ z => by cases z) h), r⟩
  · exact .inr ⟨a, rfl, .inr (k _ _ (fun _ _ _ z => by cases z) h), r⟩
theorem RingAt.mono {K : PySem.W.Frag} {H H' : Hp} {a : Addr} {l : List Nat} (h : RingAt K H a l) (e : Ex H H') : RingAt K H' a l := let ⟨dx, h⟩ := h; ⟨dx, e _ _ h⟩
theorem DaysAt.mono {K : PySem.W.Frag} {H H' : Hp} {a : Addr} {D : DaysD} (h : DaysAt K H a D) (e : Ex H H') : DaysAt K H' a D := let ⟨dx, r, po, pa, h1, h2, h3, h4⟩ := h; ⟨dx, r, po, pa, e _ _ h1, h2.mono e, e _ _ h3, e _ _ h4⟩
/-- what is handed in for a ring -/
def RingG (K : PySem.W.Frag) (H : Hp) (x : V) (r : Option (List Nat)) : Prop := (∃ a l, x = .ref a ∧ RingAt K H a l ∧ sgn l = true ∧ r = some l) ∨ (∃ t, TyX K H x t ∧ PySem.W.kitOne K t (.ref (RingC K)) = some false ∧ r = none)
/-- what Days are made of, and what becomes of it -/
def DaysArg (K : PySem.W.Frag) (H : Hp) (xr xs xt xo xa : V) (R : Option DaysD) : Prop := ∃ rb, RingG K H xr rb ∧ (rb = none ∧ R = none ∨ ∃ bits, rb = some bits ∧ Cl K H xs ∧ (isM xs = false ∧ R = none ∨ ∃ s : Nat, xs = .int s ∧ ∃ rt, TillG K H xt s rt ∧ (rt = none ∧ R = none ∨ ∃ t, rt = some t ∧
  ∃ ro, DayG K H xo ro ∧ (ro = none ∧ R = none ∨ ∃ o, ro = some o ∧ ∃ ra, DayG K H xa ra ∧ (ra = none ∧ R = none ∨ ∃ al, ra = some al ∧ R = if (al.any fun d => decide (d ∈ o)) = true then none else some ⟨bits, s, t, o, al⟩)))))
theorem TillG.mono {K : PySem.W.Frag} {H H' : Hp} {x : V} {s : Nat} {r : Option (Option Nat)} (h : TillG K H x s r) (e : Ex H H') : TillG K H' x s r := by
  rcases h with h | ⟨h1, h2, h3⟩
  · exact .inl h
  · exact .inr ⟨h1, h2.mono e, h3⟩
theorem TillG.val {K : PySem.W.Frag} {H : Hp} {x : V} {s : Nat} {t : Option Nat} (h : TillG K H x s (some t)) : x = optV t ∧ ∀ u, t = some u → s ≤ u := by
  rcases h with ⟨h1, h2⟩ | ⟨h1, h2, ⟨n, h3, h4⟩ | ⟨h3, h4⟩⟩
  · cases h2
    exact ⟨h1, fun u hu => by cases hu⟩
  · by_cases c : s ≤ n
    · rw [if_pos c] at h4
      cases h4
      exact ⟨h3, fun u hu => by cases hu; exact c⟩
    · rw [if_neg c] at h4
      cases h4
  · cases h4
theorem DayG.ok {K : PySem.W.Frag} {H : Hp} {x : V} {o : List Nat} (h : DayG K H x (some o)) : o.length ≤ 8 ∧ o.Nodup := by
  rcases h with ⟨_, h2⟩ | ⟨a, xs, h1, h2, h3, h4, h5⟩ | ⟨_, _, h4⟩
  · cases h2
    exact ⟨by decide, List.nodup_nil⟩
  · unfold dayList at h5
    split at h5
    · rename_i c
      cases h5
      obtain ⟨c1, c2⟩ := Bool.and_eq_true_iff.mp c
      obtain ⟨c3, c4⟩ := Bool.and_eq_true_iff.mp c1
      exact ⟨by rw [List.length_map]; exact of_decide_eq_true c3, of_decide_eq_true c2⟩
    · cases h5
  · cases h4
theorem DaysArg.ok {K : PySem.W.Frag} {H : Hp} {xr xs xt xo xa : V} {D : DaysD} (h : DaysArg K H xr xs xt xo xa (some D)) : D.ok := by
  obtain ⟨rb, h1, h⟩ := h
  rcases h with ⟨_, h⟩ | ⟨bits, rfl, _, h⟩
  · cases h
  rcases h with ⟨_, h⟩ | ⟨s, _, rt, h2, h⟩
  · cases h
  rcases h with ⟨_, h⟩ | ⟨t, rfl, ro, h3, h⟩
  · cases h
  rcases h with ⟨_, h⟩ | ⟨o, rfl, ra, h4, h⟩
  · cases h
  rcases h with ⟨_, h⟩ | ⟨al, rfl, h⟩
  · cases h
  split at h
  · cases h
  · rename_i c
    cases h
    have hs : sgn bits = true := by
      rcases h1 with ⟨a, l, _, _, h5, h6⟩ | ⟨_, _, _, h6⟩
      · cases h6
        exact h5
      · cases h6
    refine ⟨hs, h2.val.2, h3.ok.1, h4.ok.1, h3.ok.2, h4.ok.2, fun n hn ho => c ?_⟩
    exact List.any_eq_true.mpr ⟨n, hn, decide_eq_true ho⟩
def sp_Days_init (K : PySem.W.Frag) : Sp := fun vs H Q E => ∃ a dx xr xs xt xo xa R H0, vs = [.ref a, xr, xs, xt, xo, xa] ∧ H a = some (.ins (DaysC K) dx []) ∧ H0 a = none ∧ Ex H0 H ∧ DaysArg K H0 xr xs xt xo xa R ∧ (∀ D, R = some D → ∀ H', Oth a H H' → DaysAt K H' a D → Q .non H') ∧ (R = none → ∀ H', Oth a H H' → E (.ref (He.ga K "NoDays")) none H')
theorem fb_Days_init {P : Program} {w : World} {K : PySem.W.Frag} {mg : Str → Option Value} {base : Heap} (T : Env K mg) : ∃ fd, FunD K "__init__" "Days.__init__" (defArgs s_Days_init) (defBody s_Days_init) (defScope s_Days_init) [.int (0), .non, .non, .non] [] (He.ma K (He.ga K "Days") "__init__") fd ∧ Fb P w K mg base 5 (He.ma K (He.ga K "Days") "__init__") fd ["self", "ring", "since", "till", "out", "also"] (sp_Days_init K) := by
  obtain ⟨fd, F⟩ := T.f_Days_init
  refine ⟨fd, F, fb_of F sc_Days_init (fun vs H Q E h => ?_) (fun cdv A outer s H vs Q E hr h => ?_)⟩
  · obtain ⟨a, dx, xr, xs, xt, xo, xa, R, H0, rfl, _⟩ := h
    rfl
  · obtain ⟨a, dx, xr, xs, xt, xo, xa, R, H0, rfl, ha, na0, X0, hA, q, qe⟩ := h
    refine ⟨_, (pss_cons (ps_if (pt_not (pt_val (pe_callB call_isi (by rfl) T.n_isinstance (by decide +kernel) (pa_cons (pv 1) (pa_cons (pe_glob (v := .ref _) (by rfl) T.g_Ring rfl) pa_nil)))))
      (pss_one (ps_raise rfl (takes_of rfl rfl rfl rfl) (pmk_own PySem.F.excBase_ValueError T.x_NoDays.x T.g_NoDays T.x_NoDays.kp (raises_own T.x_NoDays.sub T.x_NoDays.ty) rfl)))
      pss_nil)
      (pss_cons (ps_expr (c_call (ok_want_day T) (hr.mono (by decide)) T.g_want_day T.k_want_day (takes_of rfl rfl rfl rfl) (pa_cons (pv 2) pa_nil)))
      (pss_cons (ps_expr (c_call (ok_want_till T) (hr.mono (by decide)) T.g_want_till T.k_want_till (takes_of rfl rfl rfl rfl) (pa_cons (pv 2) (pa_cons (pv 3) pa_nil))))
      (pss_cons (ps_fld (pv 0) (pv 1) rfl)
      (pss_cons (ps_fld (pv 0) (pv 2) rfl)
      (pss_cons (ps_fld (pv 0) (pv 3) rfl)
      (pss_cons (ps_fld (pv 0) (c_call (ok_told_days T) (hr.mono (by decide)) T.g_told_days T.k_told_days (takes_of rfl rfl rfl rfl) (pa_cons (pv 4) pa_nil)) rfl)
      (pss_cons (ps_fld (pv 0) (c_call (ok_told_days T) (hr.mono (by decide)) T.g_told_days T.k_told_days (takes_of rfl rfl rfl rfl) (pa_cons (pv 5) pa_nil)) rfl)
      (pss_one (ps_if (pt_val (pe_callB (cr_any rfl) (by rfl) T.n_any (by decide +kernel) (pa_cons (pe_lc (own := [("day", 6)]) (by rfl) sc_Days_init.nd (pi_tup (pe_fld (pv 0) (by rfl))) (blkOk_by (own := [("day", 6)]) (N := ["self", "ring", "since", "till", "out", "also", "day"]) (sc := defScope s_Days_init) (by decide +kernel)) (fun _ _ _ _ _ => (pg_name (i := 6) sc_Days_init.nd rfl (Or.inl rfl))) (fun _ _ _ _ _ => pts_nil) (fun _ _ _ _ _ => (pe_cmpR (op_in_seqK K) (pv 6) (pe_fldK K (pv 0) (by rfl)) (by rfl)))) pa_nil)))
      (pss_one (ps_raise rfl (takes_of rfl rfl rfl rfl) (pmk_own PySem.F.excBase_ValueError T.x_NoDays.x T.g_NoDays T.x_NoDays.kp (raises_own T.x_NoDays.sub T.x_NoDays.ty) rfl)))
      pss_nil)))))))))), ?_⟩
    obtain ⟨rb, h1, hA⟩ := hA
    have ex0 : ∀ {H' : Hp}, Oth a H H' → Ex H0 H' := fun {H'} o => Oth.ex X0 na0 o
    rcases h1 with ⟨r, l, rfl, ⟨dr, hr3⟩, hs, rfl⟩ | ⟨t, ty, kt, rfl⟩
    · rcases hA with ⟨z, _⟩ | ⟨bits, e, cs, hA⟩
      · cases z
      cases e
      refine ⟨_, rfl, .ref r, .ref (RingC K), _, _, true, rfl, .own _, ty_ins T.i_Ring T.c_Ring (X0 _ _ hr3), T.kit_Ring_Ring, true, rfl, iteF ?_⟩
      rcases hA with ⟨hm, rfl⟩ | ⟨s, rfl, rt, h2, hA⟩
      · exact ⟨_, rfl, xs, rfl, cs.mono X0, fun e => absurd (hm.symm.trans e) (by decide), fun _ => qe rfl H (Oth.refl _ _)⟩
      refine ⟨_, rfl, _, rfl, cl_int _, fun _ => ?_, isM_no⟩
      rcases hA with ⟨rfl, rfl⟩ | ⟨t, rfl, ro, h3, hA⟩
      · exact ⟨_, rfl, _, rfl, s, xt, none, rfl, h2.mono X0, fun z => absurd rfl z, fun _ => qe rfl H (Oth.refl _ _)⟩
      refine ⟨_, rfl, _, rfl, s, xt, some t, rfl, h2.mono X0, fun _ => ?_, fun z => nomatch z⟩
      obtain ⟨rfl, ht⟩ := h2.val
      refine ⟨_, rfl, _, rfl, a, _, dx, [], rfl, ha, T.c_Days, T.a_Days_ring, by decide, ?_⟩
      refine ⟨_, rfl, _, rfl, a, _, dx, _, rfl, upd_same, T.c_Days, T.a_Days_since, Nat.le_of_ble_eq_true rfl, ?_⟩
      refine ⟨_, rfl, _, rfl, a, _, dx, _, rfl, upd_same, T.c_Days, T.a_Days_till, Nat.le_of_ble_eq_true rfl, ?_⟩
      rw [upd_upd, upd_upd]
      have O3 := fun o => (Oth.refl a H).upd (o := o)
      rcases hA with ⟨rfl, rfl⟩ | ⟨o, rfl, ra, h4, hA⟩
      · exact ⟨_, rfl, xo, none, rfl, h3.mono (ex0 (O3 _)), (fun ns z => nomatch z), fun _ H4 X4 => qe rfl H4 ((O3 _).trans (ex_oth X4))⟩
      refine ⟨_, rfl, xo, some o, rfl, h3.mono (ex0 (O3 _)), fun ns ens po H4 X4 npo hpo => ?_, fun z => nomatch z⟩
      cases ens
      have O4 := (O3 _).trans (ex_oth X4)
      have ha4 := X4 _ _ upd_same
      refine ⟨_, rfl, a, _, dx, _, rfl, ha4, T.c_Days, T.a_Days_out, Nat.le_of_ble_eq_true rfl, ?_⟩
      have poa : po ≠ a := fun z => by
        rw [z, upd_same] at npo
        cases npo
      have O5 := fun o => O4.upd (o := o)
      rcases hA with ⟨rfl, rfl⟩ | ⟨al, rfl, eR⟩
      · exact ⟨_, rfl, xa, none, rfl, h4.mono (ex0 (O5 _)), (fun ns z => nomatch z), fun _ H6 X6 => qe rfl H6 ((O5 _).trans (ex_oth X6))⟩
      refine ⟨_, rfl, xa, some al, rfl, h4.mono (ex0 (O5 _)), fun ns ens pa H6 X6 npa hpa => ?_, fun z => nomatch z⟩
      cases ens
      have ha6 := X6 _ _ upd_same
      refine ⟨_, rfl, a, _, dx, _, rfl, ha6, T.c_Days, T.a_Days_also, Nat.le_of_ble_eq_true rfl, ?_⟩
      have paa : pa ≠ a := fun z => by
        rw [z, upd_same] at npa
        cases npa
      have O7 := fun o => ((O5 _).trans (ex_oth X6)).upd (o := o)
      have O7 := O7 (.ins (DaysC K) dx (dayF r po pa ⟨l, s, t, o, al⟩))
      have h7 : upd H6 a (.ins (DaysC K) dx (dayF r po pa ⟨l, s, t, o, al⟩)) a = some (.ins (DaysC K) dx (dayF r po pa ⟨l, s, t, o, al⟩)) := upd_same
      have hpo7 : upd H6 a (.ins (DaysC K) dx (dayF r po pa ⟨l, s, t, o, al⟩)) po = some (.tup (natV (srtN o))) := by
        rw [upd_ne poa]
        exact X6 _ _ (by rw [upd_ne poa]; exact hpo)
      have hpa7 : upd H6 a (.ins (DaysC K) dx (dayF r po pa ⟨l, s, t, o, al⟩)) pa = some (.tup (natV (srtN al))) := by
        rw [upd_ne paa]
        exact hpa
      have ra : r ≠ a := fun z => by
        rw [z, na0] at hr3
        cases hr3
      rw [show putF "also" (V.ref pa) (putF "out" (V.ref po) (putF "till" (optV t) (putF "since" (V.int (s : Nat)) (putF "ring" (V.ref r) [])))) = dayF r po pa ⟨l, s, t, o, al⟩ from rfl]
      generalize upd H6 a (.ins (DaysC K) dx (dayF r po pa ⟨l, s, t, o, al⟩)) = H7 at O7 h7 hpo7 hpa7 ⊢
      have ol := h4.ok.1
      have sl := srtN_len al
      refine ⟨_, rfl, a, _, dx, _, _, rfl, h7, T.c_Days, T.a_Days_also, rfl, pa, rfl, ⟨_, sq_tup hpa7⟩, fun A7 nA => lc_on (srtN al) (fun n : Nat => V.int n) L2.walk_tup (fun d => some (.bl (decide (d ∈ o)))) (fun H' => Ex H7 H') (fun H' z e => ex_mut e nA) (.refl _) (by omega) (fun H' e => sq_tup (e _ _ hpa7)) (fun i n H8 acc N hn X8 hD la k => ?_) fun H8 X8 d8 => ?_⟩
      · refine ⟨rfl, _, rfl, _, rfl, a, _, dx, _, _, rfl, X8 _ _ h7, T.c_Days, T.a_Days_out, rfl, po, _, rfl, .inr (sq_tup (X8 _ _ hpo7)), rfl, flat_nat _, acc, hD, la, ?_⟩
        rw [inV_nat, mem_srtN]
        exact k H8 X8 hD
      · have eb : (srtN al).filterMap (fun d => some (V.bl (decide (d ∈ o)))) = ((srtN al).map fun d => decide (d ∈ o)).map V.bl := by
          rw [List.filterMap_eq_map', List.map_map]
          rfl
        rw [eb] at d8
        refine ⟨A7, _, rfl, sq_lst d8, ?_⟩
        have ea : ((srtN al).map fun d => decide (d ∈ o)).any id = al.any fun d => decide (d ∈ o) := by
          rw [Bool.eq_iff_iff, List.any_eq_true, List.any_eq_true]
          constructor
          · rintro ⟨b, hb, e⟩
            obtain ⟨d, hd, rfl⟩ := List.mem_map.mp hb
            exact ⟨d, (srtN_mem d al).mp hd, e⟩
          · rintro ⟨d, hd, e⟩
            exact ⟨_, List.mem_map.mpr ⟨d, (srtN_mem d al).mpr hd, rfl⟩, e⟩
        rw [ea]
        have O8 := O7.trans (ex_oth X8)
        cases c : (al.any fun d => decide (d ∈ o)) with
        | true =>
          rw [c] at eR
          exact ⟨true, rfl, qe eR H8 O8⟩
        | false =>
          rw [c] at eR
          refine ⟨false, rfl, ?_⟩
          exact q _ eR H8 O8 ⟨dx, r, po, pa, X8 _ _ h7, ⟨dr, O8 _ _ ra (X0 _ _ hr3)⟩, X8 _ _ hpo7, X8 _ _ hpa7⟩
    · rcases hA with ⟨_, rfl⟩ | ⟨bits, e, _⟩
      · exact ⟨_, rfl, xr, .ref (RingC K), _, _, false, rfl, .own _, tyX_mono X0 ty, kt, false, rfl, qe rfl H (Oth.refl _ _)⟩
      · cases e
theorem days_new {K : PySem.W.Frag} {H : Hp} {x dx r : Addr} {xo xa : V} {D : DaysD} {Q : VK} {E : XK} (nx : H x = none) (nd : H dx = none) (ne : dx ≠ x) (hr : RingAt K H r D.bits) (hD : D.ok) (ho : DayL K H xo D.out) (ha : DayL K H xa D.also) (q : ∀ H', Ex H H' → DaysAt K H' x D → Q .non H') :
    sp_Days_init K [.ref x, .ref r, .int (D.since : Nat), optV D.till, xo, xa] (upd (upd H dx (.own x)) x (.ins (DaysC K) dx [])) Q E := by
  have X1 := ex_made (o1 := .own x) (o2 := .ins (DaysC K) dx []) nx nd ne
  obtain ⟨hs, ht, lo, la, no, na, hdj⟩ := id hD
  refine ⟨x, dx, _, _, _, xo, xa, some D, H, rfl, upd_same, nx, X1, ?_, fun D' e H' k d => ?_, fun z => nomatch z⟩
  · refine ⟨some D.bits, .inl ⟨r, D.bits, rfl, hr, hs, rfl⟩, .inr ⟨D.bits, rfl, cl_int _, .inr ⟨D.since, rfl, some D.till, ?_, .inr ⟨D.till, rfl, some D.out, ho.gen, .inr ⟨D.out, rfl, some D.also, ha.gen, .inr ⟨D.also, rfl, ?_⟩⟩⟩⟩⟩⟩
    · cases hT : D.till with
      | none => exact .inl ⟨rfl, rfl⟩
      | some u => exact .inr ⟨(fun z => nomatch z), cl_int _, .inl ⟨u, rfl, by rw [if_pos (ht u hT)]⟩⟩
    · have : (D.also.any fun d => decide (d ∈ D.out)) = false := by
        rw [List.any_eq_false]
        intro d hd
        simpa using hdj d hd
      rw [this]
      rfl
  · cases e
    exact q H' (fun b o e => k b o (ne_of_none e nx) (X1 _ _ e)) d
theorem ok_Days_init {P : Program} {w : World} {K : PySem.W.Frag} {mg : Str → Option Value} {base : Heap} (T : Env K mg) : Fc P w K mg base 5 (He.ma K (He.ga K "Days") "__init__") [] (fun vs H Q E => vs.length = 6 + ([] : List Str).length ∧ sp_Days_init K  (pick [.inl 0, .inl 1, .inl 2, .inl 3, .inl 4, .inl 5] vs [.int (0), .non, .non, .non]) H Q E) := by
  obtain ⟨fd, D, F⟩ := fb_Days_init T
  exact Fb.shape D F 6 [] (fun us its => pick [.inl 0, .inl 1, .inl 2, .inl 3, .inl 4, .inl 5] us its) (by decide) (fun r1 r2 => pick_vals _ r1 r2) (fun T kV doc pm an cdv ct us ws its h1 h2 h3 => match us, ws, its, h1, h2, h3 with | [_, _, _, _, _, _], [], [_, _, _, _], _, _, _ => ⟨_, rfl, rfl⟩)
end
section
def natD (ns : List Nat) : List PyData := ns.map fun n : Nat => PyData.int (n : Int)
theorem dp_nat (K : PySem.W.Frag) (H : Hp) : ∀ ns : List Nat, DpAll K H (natV ns) (natD ns)
  | [] => .nil
  | n :: ns => .cons (.int _) (dp_nat K H ns)
theorem natD_lay : ∀ ns : List Nat, PyData.canLayAll0 (natD ns) = true
  | [] => rfl
  | n :: ns => by
    show (true && PyData.canLayAll0 (natD ns)) = true
    rw [natD_lay ns]
    rfl
theorem natD_dep : ∀ ns : List Nat, PyData.depthAll (natD ns) = 0
  | [] => rfl
  | n :: ns => by
    show max 0 (PyData.depthAll (natD ns)) = 0
    rw [natD_dep ns]
    rfl
theorem shaped_nat (ns : List Nat) : SeqAt.shaped (.list (natD ns)) = true := by
  show (PyData.canLayAll0 (natD ns) && decide (PyData.depthAll (natD ns) + 1 ≤ 64)) = true
  rw [natD_lay, natD_dep]
  rfl
theorem shapedT_nat (ns : List Nat) : SeqAt.shaped (.tuple (natD ns)) = true := by
  show (PyData.canLayAll0 (natD ns) && decide (PyData.depthAll (natD ns) + 1 ≤ 64)) = true
  rw [natD_lay, natD_dep]
  rfl
end
section
theorem joinL_len {k : Nat} : ∀ {ws : List (List Nat)}, (∀ w ∈ ws, w.length ≤ k) → (TL.joinL [32] ws).length ≤ (k + 1) * ws.length
  | [], _ => Nat.zero_le _
  | [w], h => by
    have := h w List.mem_cons_self
    show w.length ≤ _
    simp
    omega
  | w :: x :: r, h => by
    have ih := joinL_len (ws := x :: r) fun y hy => h y (List.mem_cons_of_mem _ hy)
    have h1 := h w List.mem_cons_self
    have e : TL.joinL [32] (w :: x :: r) = w ++ ([32] ++ TL.joinL [32] (x :: r)) := rfl
    rw [e]
    simp only [List.length_append, List.length_cons, List.length_nil] at ih ⊢
    rw [Nat.mul_add]
    omega
end
section
/-- words, as values -/
def sV (ws : List (List Nat)) : List V := ws.map fun w => V.str (SX.S w)
theorem sV_len (ws : List (List Nat)) : (sV ws).length = ws.length := by
  unfold sV
  rw [List.length_map]
theorem sV_app (a b : List (List Nat)) : sV a ++ sV b = sV (a ++ b) := by
  unfold sV
  rw [List.map_append]
theorem sV_str (ws : List (List Nat)) : sV ws = (ws.map SX.S).map V.str := by
  unfold sV
  rw [List.map_map]
  rfl
abbrev wFrom : List Nat := [102, 114, 111, 109]
abbrev wTo : List Nat := [116, 111]
abbrev wNot : List Nat := [110, 111, 116]
abbrev wAlso : List Nat := [97, 108, 115, 111]
def wTill (D : DaysD) : List (List Nat) := match D.till with
  | some t => [wTo, TL.numL t]
  | none => []
def wSince (D : DaysD) : List (List Nat) := if 0 < D.since then [wFrom, TL.numL D.since] else []
def wList (w : List Nat) (ns : List Nat) : List (List Nat) := if ns = [] then [] else w :: ns.map TL.numL
/-- the words of Days, and their text -/
def dwords (D : DaysD) : List (List Nat) := [D.bits] ++ wSince D ++ wTill D ++ wList wNot (srtN D.out) ++ wList wAlso (srtN D.also)
def dtxt (D : DaysD) : List Nat := TL.joinL [32] (dwords D)
/-- all numbers of D are below 10 ^ k -/
def DaysD.fit (D : DaysD) (k : Nat) : Prop := D.since < 10 ^ k ∧ (∀ t, D.till = some t → t < 10 ^ k) ∧ (∀ n ∈ D.out, n < 10 ^ k) ∧ ∀ n ∈ D.also, n < 10 ^ k
theorem wlen {k : Nat} (hk : 8 ≤ k) {D : DaysD} (hD : D.ok) (hf : D.fit k) : (∀ w ∈ dwords D, w.length ≤ k) ∧ (dwords D).length ≤ 23 := by
  obtain ⟨hs, ht, lo, la, no, na, hdj⟩ := hD
  obtain ⟨f1, f2, f3, f4⟩ := hf
  have hb : 1 ≤ D.bits.length ∧ D.bits.length ≤ 7 := of_decide_eq_true (Bool.and_eq_true_iff.mp hs).1
  have nl : ∀ {n : Nat}, n < 10 ^ k → (TL.numL n).length ≤ k := fun h => TL.numL_len (by omega) h
  have s1 := srtN_len D.out
  have s2 := srtN_len D.also
  have wl : ∀ (w : List Nat) (ns : List Nat), w.length ≤ 4 → (∀ n ∈ ns, n < 10 ^ k) → (∀ x ∈ wList w ns, x.length ≤ k) ∧ (wList w ns).length ≤ ns.length + 1 := fun w ns hw hn => by
    unfold wList
    split
    · exact ⟨fun x hx => (by cases hx), Nat.zero_le _⟩
    · refine ⟨fun x hx => ?_, by simp⟩
      rcases List.mem_cons.mp hx with rfl | hx
      · omega
      · obtain ⟨n, h1, rfl⟩ := List.mem_map.mp hx
        exact nl (hn n h1)
  have w1 := wl wNot (srtN D.out) (by decide) fun n hn => f3 n ((srtN_mem n _).mp hn)
  have w2 := wl wAlso (srtN D.also) (by decide) fun n hn => f4 n ((srtN_mem n _).mp hn)
  have w3 : (∀ x ∈ wSince D, x.length ≤ k) ∧ (wSince D).length ≤ 2 := by
    unfold wSince
    split
    · refine ⟨fun x hx => ?_, Nat.le_refl _⟩
      rcases List.mem_cons.mp hx with rfl | hx
      · show 4 ≤ k
        omega
      · rw [List.mem_singleton.mp hx]
        exact nl f1
    · exact ⟨fun x hx => (by cases hx), Nat.zero_le _⟩
  have w4 : (∀ x ∈ wTill D, x.length ≤ k) ∧ (wTill D).length ≤ 2 := by
    unfold wTill
    cases hT : D.till with
    | none => exact ⟨fun x hx => (by cases hx), Nat.zero_le _⟩
    | some t =>
      refine ⟨fun x hx => ?_, Nat.le_refl _⟩
      rcases List.mem_cons.mp hx with rfl | hx
      · show 2 ≤ k
        omega
      · rw [List.mem_singleton.mp hx]
        exact nl (f2 t hT)
  unfold dwords
  refine ⟨fun w hw => ?_, ?_⟩
  · rcases List.mem_append.mp hw with hw | hw
    · rcases List.mem_append.mp hw with hw | hw
      · rcases List.mem_append.mp hw with hw | hw
        · rcases List.mem_append.mp hw with hw | hw
          · rw [List.mem_singleton.mp hw]
            omega
          · exact w3.1 w hw
        · exact w4.1 w hw
      · exact w1.1 w hw
    · exact w2.1 w hw
  · simp only [List.length_append, List.length_cons, List.length_nil]
    have := w1.2
    have := w2.2
    have := w3.2
    have := w4.2
    omega
theorem sum_len {k : Nat} : ∀ {ws : List (List Nat)}, (∀ w ∈ ws, w.length ≤ k) → ((ws.map SX.S).map (·.length)).sum ≤ k * ws.length
  | [], _ => Nat.zero_le _
  | w :: ws, h => by
    have ih := sum_len (ws := ws) fun x hx => h x (List.mem_cons_of_mem _ hx)
    have h1 := h w List.mem_cons_self
    show (SX.S w).length + ((ws.map SX.S).map (·.length)).sum ≤ k * (ws.length + 1)
    rw [SX.S_len, Nat.mul_add]
    omega
end
section
def sp_Days_str (K : PySem.W.Frag) : Sp := fun vs H Q _ => ∃ a D, vs = [.ref a] ∧ DaysAt K H a D ∧ D.ok ∧ D.fit 150 ∧ ∀ H', Ex H H' → Q (.str (SX.S (dtxt D))) H'
theorem fb_Days_str {P : Program} {w : World} {K : PySem.W.Frag} {mg : Str → Option Value} {base : Heap} (T : Env K mg) : ∃ fd, FunD K "__str__" "Days.__str__" (defArgs s_Days_str) (defBody s_Days_str) (defScope s_Days_str) [] [] (He.ma K (He.ga K "Days") "__str__") fd ∧ Fb P w K mg base 4 (He.ma K (He.ga K "Days") "__str__") fd ["self"] (sp_Days_str K) := by
  obtain ⟨fd, F⟩ := T.f_Days_str
  refine ⟨fd, F, fb_of F sc_Days_str (fun vs H Q E h => ?_) (fun cdv A outer s H vs Q E hr h => ?_)⟩
  · obtain ⟨a, D, rfl, _⟩ := h
    rfl
  · obtain ⟨a, D, rfl, ha, hD, hF, q⟩ := h
    refine ⟨_, (pss_cons (ps_set (i := 1) sc_Days_str.nd rfl (Or.inl rfl) (pe_lst (pa_cons (pe_callTy (call_strO T.m_Ring_str (ok_Ring_str T) (hr.mono (by decide))) (by rfl) T.n_str (by decide +kernel) (pa_cons (pe_fld (pv 0) (by rfl)) pa_nil)) pa_nil)))
      (Evl.pss_cut (ps_if (pt_cmpR op_gt (pe_fld (pv 0) (by rfl)) pe_int (nomark _))
      (pss_one (ps_expr (pe_bm PySem.F.plainAttrs_list PySem.F.slot_list_extend PySem.F.type_list_extend mt_extend (pv 1) (pa_cons (pe_lst (pa_cons (pe_k T.v_FROM) (pa_cons (pe_callTy call_str_int (by rfl) T.n_str (by decide +kernel) (pa_cons (pe_fld (pv 0) (by rfl)) pa_nil)) pa_nil))) pa_nil))))
      pss_nil)
      (Evl.pss_cut (ps_if (pt_cmpR op_notN (pe_fld (pv 0) (by rfl)) pe_non (nomark _))
      (pss_one (ps_expr (pe_bm PySem.F.plainAttrs_list PySem.F.slot_list_extend PySem.F.type_list_extend mt_extend (pv 1) (pa_cons (pe_lst (pa_cons (pe_k T.v_TO) (pa_cons (pe_callTy call_str_int (by rfl) T.n_str (by decide +kernel) (pa_cons (pe_fld (pv 0) (by rfl)) pa_nil)) pa_nil))) pa_nil))))
      pss_nil)
      (pss_cons (ps_for (passes_of rfl) rfl (pi_tup (pe_tup (pa_cons (pe_tup (pa_cons (pe_k T.v_NOT) (pa_cons (pe_fld (pv 0) (by rfl)) pa_nil))) (pa_cons (pe_tup (pa_cons (pe_k T.v_ALSO) (pa_cons (pe_fld (pv 0) (by rfl)) pa_nil))) pa_nil)))) (pg_tup (by rfl) (pgs_cons (pg_name (i := 2) sc_Days_str.nd rfl (Or.inl rfl)) (pgs_cons (pg_name (i := 3) sc_Days_str.nd rfl (Or.inl rfl)) pgs_nil)))
      (pss_one (ps_if (pt_cmpR (op_neD hr.rm.units) (pv 3) (pe_tup pa_nil) (nomark _))
      (pss_one (ps_expr (pe_bm PySem.F.plainAttrs_list PySem.F.slot_list_extend PySem.F.type_list_extend mt_extend (pv 1) (pa_cons (pe_op op_cat (pe_lst (pa_cons (pv 2) pa_nil)) (pe_lc (own := [("day", 4)]) (by rfl) sc_Days_str.nd (pi_tup (pv 3)) (blkOk_by (own := [("day", 4)]) (N := ["self", "words", "word", "some", "day"]) (sc := defScope s_Days_str) (by decide +kernel)) (fun _ _ _ _ _ => (pg_name (i := 4) sc_Days_str.nd rfl (Or.inl rfl))) (fun _ _ _ _ _ => pts_nil) (fun _ _ _ _ _ => (pe_callTy call_str_int (by rfl) T.n_str (by decide +kernel) (pa_cons (pv 4) pa_nil))))) pa_nil))))
      pss_nil)))
      (pss_one (ps_ret (pe_join pe_str (pv 1)))))))), ?_⟩
    obtain ⟨hs, ht, lo, la, no, na, hdj⟩ := id hD
    obtain ⟨f1, f2, f3, f4⟩ := id hF
    obtain ⟨dx, r, po, pa, h1, ⟨dr, h2⟩, h3, h4⟩ := id ha
    refine ⟨_, rfl, a, _, dx, _, _, rfl, h1, T.c_Days, T.a_Days_ring, rfl, r, dr, _, rfl, h2, r, D.bits, rfl, ⟨dr, h2⟩, ?_⟩
    refine ⟨trivial, by show 1 ≤ sizeLine; decide, fun w nw => ?_⟩
    have X0 := ex_new (o := .lst (sV [D.bits])) nw
    have dn := (wlen (by decide) hD hF).2
    have dw := (wlen (by decide) hD hF).1
    have big : ∀ {n : Nat}, n < 10 ^ 150 → ((n : Nat) : Int).natAbs.log2 < 1920 := fun {n} h => log_of (Nat.lt_trans (show ((n : Nat) : Int).natAbs < 10 ^ 150 by rw [Int.natAbs_natCast]; exact h) (by decide +kernel))
    refine ⟨fun σ' H' => Ex H H' ∧ σ' = [some (.ref a), some (.ref w), none, none, none] ∧ H' w = some (.lst (sV ([D.bits] ++ wSince D))), ?_, ?_⟩
    · refine ⟨_, rfl, a, _, dx, _, _, rfl, X0 _ _ h1, T.c_Days, T.a_Days_since, rfl, _, _, rfl, rfl, _, rfl, ?_⟩
      unfold wSince
      by_cases c : 0 < D.since
      · rw [decide_eq_true (show (0 : Int) < ((D.since : Nat) : Int) by omega), if_pos c]
        refine iteT ?_
        refine ⟨_, rfl, .inl ⟨rfl, _, sq_lst upd_same⟩, _, rfl, a, _, dx, _, _, rfl, X0 _ _ h1, T.c_Days, T.a_Days_since, rfl, _, rfl, big f1, by show 2 ≤ sizeLine; decide, fun l nl => ?_⟩
        have wl : w ≠ l := ne_of_none upd_same nl
        refine ⟨w, l, sV [D.bits], sV [wFrom, TL.numL D.since], rfl, rfl, ex_new nl _ _ upd_same, ?_, by show 1 + 2 ≤ sizeLine; decide, ?_⟩
        · rw [upd_same, SX.num_S]
          rfl
        · exact ⟨ex_mut (X0.trans (ex_new nl)) nw, rfl, by rw [upd_same, sV_app]⟩
      · rw [decide_eq_false (show ¬ (0 : Int) < ((D.since : Nat) : Int) by omega), if_neg c]
        exact ⟨X0, rfl, upd_same⟩
    rintro σ' H1 ⟨X1, rfl, hw1⟩
    refine ⟨fun σ' H' => Ex H H' ∧ σ' = [some (.ref a), some (.ref w), none, none, none] ∧ H' w = some (.lst (sV ([D.bits] ++ wSince D ++ wTill D))), ?_, ?_⟩
    · refine ⟨_, rfl, a, _, dx, _, _, rfl, X1 _ _ h1, T.c_Days, T.a_Days_till, rfl, rfl, _, rfl, ?_⟩
      unfold wTill
      cases hT : D.till with
      | none => exact ⟨X1, rfl, by rw [List.append_nil]; exact hw1⟩
      | some t =>
        refine iteT ?_
        refine ⟨_, rfl, .inl ⟨rfl, _, sq_lst hw1⟩, _, rfl, a, _, dx, _, _, rfl, X1 _ _ h1, T.c_Days, T.a_Days_till, rfl, (t : Int), (by rw [hT]; rfl), big (f2 t hT), by show 2 ≤ sizeLine; decide, fun l nl => ?_⟩
        have l2 : (sV ([D.bits] ++ wSince D)).length ≤ 10 := by
          rw [sV_len]
          unfold wSince
          split <;> simp
        refine ⟨w, l, _, sV [wTo, TL.numL t], rfl, rfl, ex_new nl _ _ hw1, ?_, sz_le (by rw [sV_len [wTo, TL.numL t]]; show _ + 2 ≤ _; omega), ?_⟩
        · rw [upd_same, SX.num_S]
          rfl
        · exact ⟨ex_mut (X1.trans (ex_new nl)) nw, rfl, by rw [upd_same, sV_app]⟩
    rintro σ' H2 ⟨X2, rfl, hw2⟩
    refine ⟨_, rfl, a, _, dx, _, _, rfl, X2 _ _ h1, T.c_Days, T.a_Days_out, rfl, by show 2 ≤ sizeLine; decide, fun t1 n1 => ?_⟩
    have Y1 := ex_new (o := .tup [.str (Str.ofString "not"), .ref po]) n1
    refine ⟨_, rfl, a, _, dx, _, _, rfl, Y1 _ _ (X2 _ _ h1), T.c_Days, T.a_Days_also, rfl, by show 2 ≤ sizeLine; decide, fun t2 n2 => ⟨by show 2 ≤ sizeLine; decide, fun t nt => ?_⟩⟩
    have Y2 := ex_new (o := .tup [.str (Str.ofString "also"), .ref pa]) n2
    have Y3 := ex_new (o := .tup [.ref t1, .ref t2]) nt
    have X3 := X2.trans ((Y1.trans Y2).trans Y3)
    have hw3 := ((Y1.trans Y2).trans Y3) _ _ hw2
    have g1 := (Y2.trans Y3) _ _ upd_same
    have g2 := Y3 _ _ upd_same
    have g3 : upd (upd (upd H2 t1 (.tup [.str (Str.ofString "not"), .ref po])) t2 (.tup [.str (Str.ofString "also"), .ref pa])) t (.tup [.ref t1, .ref t2]) t = some (.tup [.ref t1, .ref t2]) := upd_same
    refine ⟨t, rfl, ⟨_, sq_tup g3⟩, ?_⟩
    generalize upd (upd (upd H2 t1 (.tup [.str (Str.ofString "not"), .ref po])) t2 (.tup [.str (Str.ofString "also"), .ref pa])) t (.tup [.ref t1, .ref t2]) = H3 at X3 hw3 g1 g2 g3 ⊢
    have g1 : H3 t1 = some (.tup [.str (SX.S wNot), .ref po]) := g1
    have g2 : H3 t2 = some (.tup [.str (SX.S wAlso), .ref pa]) := g2
    have nlw : ∀ b o, (∀ ys, o ≠ .lst ys) → H3 b = some o → b ≠ w := fun b o ho e z => by
      rw [z, hw3] at e
      exact ho _ (Option.some.inj e).symm
    have tw := nlw _ _ (fun _ z => by cases z) g3
    have t1w := nlw _ _ (fun _ z => by cases z) g1
    have t2w := nlw _ _ (fun _ z => by cases z) g2
    have pow := nlw _ _ (fun _ z => by cases z) (X3 _ _ h3)
    have paw := nlw _ _ (fun _ z => by cases z) (X3 _ _ h4)
    have bl : ([D.bits] ++ wSince D ++ wTill D).length ≤ 5 := by
      unfold wSince wTill
      cases D.till <;> split <;> simp
    refine for_on [(t1, wNot, po, srtN D.out), (t2, wAlso, pa, srtN D.also)] (fun p : Addr × List Nat × Addr × List Nat => V.ref p.1) L2.walk_tup (fun i σ H' => Oth w H3 H' ∧ H' w = some (.lst (sV ([D.bits] ++ wSince D ++ wTill D ++ (([(t1, wNot, po, srtN D.out), (t2, wAlso, pa, srtN D.also)] : List (Addr × List Nat × Addr × List Nat)).take i).flatMap fun p => wList p.2.1 p.2.2.2))) ∧ ∃ v2 v3 v4, σ = [some (.ref a), some (.ref w), v2, v3, v4]) ⟨Oth.refl _ _, by rw [List.take_zero, List.flatMap_nil, List.append_nil]; exact hw3, _, _, _, rfl⟩ (fun i σ H' p => sq_tup (p.1 _ _ tw g3)) ?_ ?_
    · rintro i ⟨u, wd, pp, ns⟩ σ H4 hx ⟨O4, hw4, v2, v3, v4, rfl⟩
      have hm : u ≠ w ∧ H3 u = some (.tup [.str (SX.S wd), .ref pp]) ∧ pp ≠ w ∧ H3 pp = some (.tup (natV ns)) ∧ ns.length ≤ 8 ∧ ∀ n ∈ ns, n < 10 ^ 150 := by
        have hm := List.mem_of_getElem? hx
        have s1 := srtN_len D.out
        have s2 := srtN_len D.also
        simp only [List.mem_cons, List.not_mem_nil, or_false, Prod.mk.injEq] at hm
        rcases hm with ⟨rfl, rfl, rfl, rfl⟩ | ⟨rfl, rfl, rfl, rfl⟩
        · exact ⟨t1w, g1, pow, X3 _ _ h3, by omega, fun n hn => f3 n ((srtN_mem n _).mp hn)⟩
        · exact ⟨t2w, g2, paw, X3 _ _ h4, by omega, fun n hn => f4 n ((srtN_mem n _).mp hn)⟩
      obtain ⟨uw, hu, ppw, hpp, ln, bn⟩ := hm
      have tk := take_snoc hx
      have hu4 := O4 _ _ uw hu
      have hp4 := O4 _ _ ppw hpp
      refine ⟨u, _, rfl, sq_tup hu4, rfl, _, _, rfl, _, _, rfl, rfl, ?_⟩
      refine ⟨_, rfl, by show 0 ≤ sizeLine; decide, fun e ne => ?_⟩
      have Z1 := ex_new (o := .tup []) ne
      refine ⟨.tuple (natD ns), .tuple [], .tup (sq_tup (Z1 _ _ hp4)) (dp_nat K _ ns), .tup (sq_tup upd_same) .nil, shapedT_nat ns, rfl, _, rfl, ?_⟩
      have lb : ([D.bits] ++ wSince D ++ wTill D ++ (([(t1, wNot, po, srtN D.out), (t2, wAlso, pa, srtN D.also)] : List (Addr × List Nat × Addr × List Nat)).take i).flatMap fun p => wList p.2.1 p.2.2.2).length ≤ 50 := by
        have s1 := srtN_len D.out
        have s2 := srtN_len D.also
        have wl : ∀ (w : List Nat) (ns : List Nat), (wList w ns).length ≤ ns.length + 1 := fun w ns => by
          unfold wList
          split <;> simp
        have w1 := wl wNot (srtN D.out)
        have w2 := wl wAlso (srtN D.also)
        rw [List.length_append]
        have hi : i = 0 ∨ i = 1 ∨ 2 ≤ i := by omega
        rcases hi with rfl | rfl | hi
        · rw [List.take_zero, List.flatMap_nil]
          show _ + 0 ≤ 50
          omega
        · simp only [List.take_succ_cons, List.take_zero, List.flatMap_cons, List.flatMap_nil, List.append_nil]
          omega
        · rw [List.take_of_length_le (by show 2 ≤ i; exact hi)]
          have bl2 := bl
          simp only [List.length_append] at bl2
          simp only [List.flatMap_cons, List.flatMap_nil, List.append_nil, List.length_append]
          omega
      rw [tk, List.flatMap_append, ← List.append_assoc]
      generalize [D.bits] ++ wSince D ++ wTill D ++ (([(t1, wNot, po, srtN D.out), (t2, wAlso, pa, srtN D.also)] : List (Addr × List Nat × Addr × List Nat)).take i).flatMap (fun p => wList p.2.1 p.2.2.2) = B at hw4 lb ⊢
      rw [show ([(u, wd, pp, ns)] : List (Addr × List Nat × Addr × List Nat)).flatMap (fun p => wList p.2.1 p.2.2.2) = wList wd ns by simp]
      cases hns : ns with
      | nil =>
        exact ⟨O4.trans (ex_oth Z1), by show upd H4 e _ w = some (.lst (sV (B ++ []))); rw [List.append_nil]; exact Z1 _ _ hw4, _, _, _, rfl⟩
      | cons n0 nr =>
        refine iteT ?_
        rw [← hns]
        have nne : ns ≠ [] := by rw [hns]; simp
        refine ⟨_, rfl, .inl ⟨rfl, _, sq_lst (Z1 _ _ hw4)⟩, _, rfl, by show 1 ≤ sizeLine; decide, fun l1 nl1 => ?_⟩
        have Z2 := Z1.trans (ex_new (o := .lst (sV [wd])) nl1)
        refine ⟨_, rfl, pp, rfl, ⟨_, sq_tup (Z2 _ _ hp4)⟩, fun A nA => lc_on ns (fun n : Nat => V.int n) L2.walk_tup (fun n => some (.str (SX.S (TL.numL n)))) (fun H' => Ex (upd (upd H4 e (.tup [])) l1 (.lst (sV [wd]))) H') (fun H' z e => ex_mut e nA) (.refl _) (by omega) (fun H' e => sq_tup (e _ _ (Z2 _ _ hp4))) (fun j n H5 acc N hn X5 hA la k => ?_) fun H5 X5 d5 => ?_⟩
        · refine ⟨rfl, _, rfl, _, rfl, big (bn n (List.mem_of_getElem? hn)), acc, hA, la, ?_⟩
          rw [SX.num_S]
          exact k H5 X5 hA
        · have e5 : ns.filterMap (fun n => some (V.str (SX.S (TL.numL n)))) = sV (ns.map TL.numL) := by
            unfold sV
            rw [List.filterMap_eq_map', List.map_map]
            rfl
          rw [e5] at d5
          have Z5 := Z2.trans X5
          refine ⟨l1, A, sV [wd], _, rfl, rfl, X5 _ _ upd_same, d5, sz_le (by rw [sV_len, sV_len, List.length_map]; show 1 + _ ≤ _; omega), fun l3 nl3 => ?_⟩
          rw [sV_app]
          have Z6 := Z5.trans (ex_new (o := .lst (sV ([wd] ++ ns.map TL.numL))) nl3)
          refine ⟨w, l3, _, _, rfl, rfl, Z6 _ _ hw4, upd_same, sz_le (by rw [sV_len, sV_len, List.length_append, List.length_map]; show _ + (1 + _) ≤ _; omega), ?_⟩
          refine ⟨(O4.trans (ex_oth Z6)).upd, ?_, _, _, _, rfl⟩
          rw [upd_same, sV_app]
          unfold wList
          rw [if_neg nne]
          rfl
    · rintro σ H4 ⟨O4, hw4, v2, v3, v4, rfl⟩
      have ed : [D.bits] ++ wSince D ++ wTill D ++ (([(t1, wNot, po, srtN D.out), (t2, wAlso, pa, srtN D.also)] : List (Addr × List Nat × Addr × List Nat)).take ([(t1, wNot, po, srtN D.out), (t2, wAlso, pa, srtN D.also)] : List (Addr × List Nat × Addr × List Nat)).length).flatMap (fun p => wList p.2.1 p.2.2.2) = dwords D := by
        rw [List.take_length]
        unfold dwords
        simp
      rw [ed] at hw4
      have X4 : Ex H H4 := Oth.ex X3 nw O4
      refine ⟨⟨_, rfl⟩, _, rfl, _, _, (dwords D).map SX.S, rfl, rfl, .inl (sq_lst (by rw [hw4, sV_str])), ?_, ?_⟩
      · have := sum_len dw
        rw [List.length_map]
        have z : (Str.ofString " ").length = 1 := rfl
        rw [z]
        omega
      · rw [show Str.ofString " " = SX.S [32] from rfl, SX.join_S]
        exact q H4 X4
theorem ok_Days_str {P : Program} {w : World} {K : PySem.W.Frag} {mg : Str → Option Value} {base : Heap} (T : Env K mg) : Fc P w K mg base 4 (He.ma K (He.ga K "Days") "__str__") [] (sp_Days_str K ) := by
  obtain ⟨fd, D, F⟩ := fb_Days_str T
  exact F.all (D.bindsN fun _ _ _ _ _ _ us hl => match us, hl with | [_], _ => rfl)
end
section
/-- a name: one to eight small letters -/
def nmN (w : List Nat) : Bool := decide (1 ≤ w.length) && (decide (w.length ≤ 8) && w.all fun c => decide (97 ≤ c) && decide (c < 123))
def isNm : V → Bool
  | .str z => nmN z.cps.toList
  | _ => false
/-- a text, or what is none -/
def ClS (K : PySem.W.Frag) (H : Hp) (x : V) : Prop := (∃ z : Str, x = .str z ∧ z.length ≤ 10000) ∨ ((∀ z, x ≠ .str z) ∧ ∃ t, TyX K H x t ∧ PySem.W.kitOne K t (.type "str") = some false)
theorem ClS.no {K : PySem.W.Frag} {H : Hp} {x : V} (h : ∀ z, x ≠ .str z) : isNm x = false := by
  cases x <;> first | rfl | exact absurd rfl (h _)
theorem ClS.mono {K : PySem.W.Frag} {H H' : Hp} {x : V} (h : ClS K H x) (e : Ex H H') : ClS K H' x := h.imp id fun ⟨n, t, ty, k⟩ => ⟨n, t, tyX_mono e ty, k⟩
theorem S_of (z : Str) : SX.S z.cps.toList = z := by
  obtain ⟨⟨l⟩⟩ := z
  rfl
/-- the texts of a row of texts -/
def strL : List V → List Str
  | [] => []
  | .str z :: r => z :: strL r
  | _ :: r => strL r
theorem strL_map (ws : List Str) : strL (ws.map V.str) = ws := by
  induction ws with
  | nil => rfl
  | cons z r ih =>
    show z :: strL (r.map V.str) = _
    rw [ih]
theorem names_str : ∀ {xs : List V}, xs.all isNm = true → xs = (strL xs).map V.str
  | [], _ => rfl
  | x :: r, h => by
    rw [List.all_cons, Bool.and_eq_true] at h
    have e := names_str h.2
    cases x with
    | str z =>
      show _ = V.str z :: (strL r).map V.str
      rw [← e]
    | _ => exact absurd h.1 (by simp [isNm])
/-- the notes that a row of things stands for, or none -/
def notesR (xs : List V) : Option (List Str) := if xs.all isNm then (if (strL xs).Nodup then some (srtS (strL xs)) else none) else none
/-- what notes_of makes of a thing -/
def NtX (K : PySem.W.Frag) (H : Hp) (y : V) (r : Option (List Str)) : Prop :=
  (y = .non ∧ r = some []) ∨ (∃ a xs, y = .ref a ∧ (H a = some (.lst xs) ∨ H a = some (.tup xs)) ∧ xs.length ≤ 1000 ∧ (∀ v ∈ xs, ClS K H v) ∧ r = notesR xs) ∨
  (y ≠ .non ∧ ∃ t, TyX K H y t ∧ PySem.W.kitAny K t [.type "list", .type "tuple"] = some false ∧ r = none)
theorem NtX.mono {K : PySem.W.Frag} {H H' : Hp} {y : V} {r : Option (List Str)} (h : NtX K H y r) (e : Ex H H') : NtX K H' y r := by
  rcases h with h | ⟨a, xs, rfl, h1, h2, h3, h4⟩ | ⟨n, t, ty, k, h⟩
  · exact .inl h
  · exact .inr (.inl ⟨a, xs, rfl, h1.imp (e _ _) (e _ _), h2, fun v hv => (h3 v hv).mono e, h4⟩)
  · exact .inr (.inr ⟨n, t, tyX_mono e ty, k, h⟩)
/-- a row of names -/
def Nms (ws : List Str) : Prop := ∀ z ∈ ws, nmN z.cps.toList = true
theorem nm_facts {w : List Nat} (h : nmN w = true) : 1 ≤ w.length ∧ w.length ≤ 8 ∧ ∀ c ∈ w, 97 ≤ c ∧ c < 123 := by
  unfold nmN at h
  simp only [Bool.and_eq_true, decide_eq_true_eq, List.all_eq_true] at h
  exact ⟨h.1, h.2.1, h.2.2⟩
theorem inV_str (z : Str) (ws : List Str) : inV (.str z) (ws.map V.str) = decide (z ∈ ws) := by
  unfold inV
  rw [List.any_map]
  apply Bool.eq_iff_iff.mpr
  rw [List.any_eq_true, decide_eq_true_eq]
  constructor
  · rintro ⟨y, hy, e⟩
    have e' : (y == z) = true := e
    rw [← eq_of_beq e']
    exact hy
  · intro h
    exact ⟨z, h, (beq_self_eq_true z : (z == z) = true)⟩
theorem names_all {ws : List Str} (h : Nms ws) : (ws.map V.str).all isNm = true := by
  rw [List.all_map]
  exact List.all_eq_true.mpr fun z hz => h z hz
theorem clS_names {K : PySem.W.Frag} {H : Hp} {ws : List Str} (h : Nms ws) : ∀ v ∈ ws.map V.str, ClS K H v := fun v hv => by
  obtain ⟨z, hz, rfl⟩ := List.mem_map.mp hv
  have h2 := (nm_facts (h z hz)).2.1
  have h3 : z.length = z.cps.toList.length := rfl
  exact .inl ⟨z, rfl, by omega⟩
theorem nt_names {K : PySem.W.Frag} {H : Hp} {a : Addr} {ws : List Str} (hx : H a = some (.lst (ws.map V.str)) ∨ H a = some (.tup (ws.map V.str))) (hw : Nms ws) (nd : ws.Nodup) (l : ws.length ≤ 1000) : NtX K H (.ref a) (some (srtS ws)) := by
  refine .inr (.inl ⟨a, _, rfl, hx, by rw [List.length_map]; exact l, clS_names hw, ?_⟩)
  unfold notesR
  rw [if_pos (names_all hw), strL_map, if_pos nd]
end
section
theorem abc_in (c : Nat) : decide (c ∈ (Str.ofString "abcdefghijklmnopqrstuvwxyz").cps.toList) = (decide (97 ≤ c) && decide (c < 123)) := by
  have e : (Str.ofString "abcdefghijklmnopqrstuvwxyz").cps.toList = [97, 98, 99, 100, 101, 102, 103, 104, 105, 106, 107, 108, 109, 110, 111, 112, 113, 114, 115, 116, 117, 118, 119, 120, 121, 122] := rfl
  rw [e, ← Bool.decide_and]
  apply decide_eq_decide.mpr
  simp only [List.mem_cons, List.not_mem_nil, or_false]
  omega
def sp_is_name (K : PySem.W.Frag) : Sp := fun vs H Q _ => ∃ x, vs = [x] ∧ ClS K H x ∧ ∀ H', Ex H H' → Q (.bl (isNm x)) H'
theorem fb_is_name {P : Program} {w : World} {K : PySem.W.Frag} {mg : Str → Option Value} {base : Heap} (T : Env K mg) : ∃ fd, FunD K "is_name" "is_name" (defArgs s_is_name) (defBody s_is_name) (defScope s_is_name) [] [] (He.ga K "is_name") fd ∧ Fb P w K mg base 1 (He.ga K "is_name") fd ["thing"] (sp_is_name K) := by
  obtain ⟨fd, F⟩ := T.f_is_name
  refine ⟨fd, F, fb_of F sc_is_name (fun vs H Q E h => ?_) (fun cdv A outer s H vs Q E hr h => ?_)⟩
  · obtain ⟨x, rfl, _⟩ := h
    rfl
  · obtain ⟨x, rfl, h, q⟩ := h
    refine ⟨_, (pss_cons (ps_if (PW.pt (pw_or (pt_not (pt_val (pe_callB call_isi (by rfl) T.n_isinstance (by decide +kernel) (pa_cons (pv 0) (pa_cons (pe_bltn (v := .ty "str") (by rfl) T.n_str (by decide +kernel) rfl) pa_nil))))) (pw_or (pt_cmpR op_lt (pe_callB call_len (by rfl) T.n_len (by decide +kernel) (pa_cons (pv 0) pa_nil)) pe_int (nomark _)) (pw_or1 (pt_cmpR op_gt (pe_callB call_len (by rfl) T.n_len (by decide +kernel) (pa_cons (pv 0) pa_nil)) (pe_k T.v_LONGEST_NAME) (nomark _))))))
      (pss_one (ps_ret pe_bl))
      pss_nil)
      (pss_one (ps_ret (pe_callB (cr_all rfl) (by rfl) T.n_all (by decide +kernel) (pa_cons (pe_lc (own := [("sign", 1)]) (by rfl) sc_is_name.nd (pi_str (pv 0)) (blkOk_by (own := [("sign", 1)]) (N := ["thing", "sign"]) (sc := defScope s_is_name) (by decide +kernel)) (fun _ _ _ _ _ => (pg_name (i := 1) sc_is_name.nd rfl (Or.inl rfl))) (fun _ _ _ _ _ => pts_nil) (fun _ _ _ _ _ => (pe_cmpR op_in_sign (pv 1) (pe_k T.v_NAME_SIGNS) (by rfl)))) pa_nil))))), ?_⟩
    rcases h with ⟨z, rfl, hz⟩ | ⟨n, t, ty, kt⟩
    · have q2 : ∀ H', Ex H H' → Q (.bl (nmN z.cps.toList)) H' := q
      have ez := S_of z
      generalize z.cps.toList = l at q2 ez
      subst ez
      rw [SX.S_len] at hz
      have kt : PySem.W.kitOne K (.type "str") (.type "str") = some true := kit_ty (by decide +kernel)
      by_cases c1 : l.length < 1
      · have e : nmN l = false := by unfold nmN; rw [decide_eq_false (by omega)]; rfl
        rw [e] at q2
        refine ⟨_, rfl, _, _, _, _, _, rfl, .ty _, .base (.str _), (kit_ty (r := true) (by decide +kernel)), _, rfl, _, rfl, _, _, rfl, ⟨(sz_big (by rw [SX.S_len]; omega)), rfl⟩, _, _, rfl, rfl, _, rfl, ?_⟩
        rw [SX.S_len, decide_eq_true (show ((l.length : Nat) : Int) < 1 by omega)]
        exact iteT (iteT (q2 H (.refl H)))
      by_cases c2 : 8 < l.length
      · have e : nmN l = false := by unfold nmN; rw [decide_eq_false (show ¬ l.length ≤ 8 by omega), Bool.false_and, Bool.and_false]
        rw [e] at q2
        refine ⟨_, rfl, _, _, _, _, _, rfl, .ty _, .base (.str _), (kit_ty (r := true) (by decide +kernel)), _, rfl, _, rfl, _, _, rfl, ⟨(sz_big (by rw [SX.S_len]; omega)), rfl⟩, _, _, rfl, rfl, _, rfl, ?_⟩
        rw [SX.S_len, decide_eq_false (show ¬ ((l.length : Nat) : Int) < 1 by omega)]
        refine iteF ⟨_, rfl, _, _, rfl, ⟨(sz_big (by rw [SX.S_len]; omega)), rfl⟩, _, _, rfl, rfl, _, rfl, ?_⟩
        rw [SX.S_len, decide_eq_true (show (8 : Int) < ((l.length : Nat) : Int) by omega)]
        exact iteT (q2 H (.refl H))
      have e : nmN l = l.all fun c => decide (97 ≤ c) && decide (c < 123) := by
        unfold nmN
        rw [decide_eq_true (by omega), decide_eq_true (by omega)]
        rfl
      rw [e] at q2
      refine ⟨_, rfl, _, _, _, _, _, rfl, .ty _, .base (.str _), (kit_ty (r := true) (by decide +kernel)), _, rfl, _, rfl, _, _, rfl, ⟨(sz_big (by rw [SX.S_len]; omega)), rfl⟩, _, _, rfl, rfl, _, rfl, ?_⟩
      rw [SX.S_len, decide_eq_false (show ¬ ((l.length : Nat) : Int) < 1 by omega)]
      refine iteF ⟨_, rfl, _, _, rfl, ⟨(sz_big (by rw [SX.S_len]; omega)), rfl⟩, _, _, rfl, rfl, _, rfl, ?_⟩
      rw [SX.S_len, decide_eq_false (show ¬ (8 : Int) < ((l.length : Nat) : Int) by omega)]
      refine iteF ⟨_, rfl, _, rfl, fun D nD => lc_fm L2.walk_str (fun i => some (.bl (decide (97 ≤ l.getD i 0) && decide (l.getD i 0 < 123)))) (fun H' => Ex H H') (fun H' z e => ex_mut e nD) (.refl H) (by show l.toArray.size ≤ 100000; simpa using Nat.le_trans hz (by decide)) (fun _ _ => trivial) (fun i x H1 H2 acc N hi e hD la y k => ?_) fun H1 e1 d1 => ?_⟩
      · obtain ⟨rfl, c, hc, rfl⟩ := y
        refine ⟨rfl, _, rfl, c, _, rfl, rfl, acc, hD, la, ?_⟩
        rw [abc_in]
        have e2 : l.getD i 0 = c := by
          have hc2 : l[i]? = some c := by simpa using hc
          rw [List.getD_eq_getElem?_getD, hc2]
          rfl
        have k2 := k H2 e hD
        rw [e2] at k2
        exact k2
      · refine ⟨D, l.map fun c => decide (97 ≤ c) && decide (c < 123), rfl, sq_lst ?_, ?_⟩
        · rw [d1]
          have e3 := range_map_get l 0 (fun c => V.bl (decide (97 ≤ c) && decide (c < 123)))
          have e4 : l.toArray.size = l.length := by simp
          show some (HO.lst (List.filterMap _ (List.range l.toArray.size))) = _
          rw [e4, e3, List.map_map]
          rfl
        · have e5 : (l.map fun c => decide (97 ≤ c) && decide (c < 123)).all id = l.all fun c => decide (97 ≤ c) && decide (c < 123) := by
            rw [List.all_map]
            rfl
          rw [e5]
          exact q2 H1 e1
    · rw [ClS.no (K := K) (H := H) n] at q
      exact ⟨_, rfl, _, _, _, _, false, rfl, .ty _, ty, kt, _, rfl, iteT (q H (.refl H))⟩
theorem ok_is_name {P : Program} {w : World} {K : PySem.W.Frag} {mg : Str → Option Value} {base : Heap} (T : Env K mg) : Fc P w K mg base 1 (He.ga K "is_name") [] (sp_is_name K ) := by
  obtain ⟨fd, D, F⟩ := fb_is_name T
  exact F.all (D.bindsN fun _ _ _ _ _ _ us hl => match us, hl with | [_], _ => rfl)
end
section
def sp_notes_of (K : PySem.W.Frag) : Sp := fun vs H Q E => ∃ y r, vs = [y] ∧ NtX K H y r ∧ (∀ ws, r = some ws → ∀ p H', Ex H H' → H p = none → H' p = some (.tup (ws.map V.str)) → Q (.ref p) H') ∧ (r = none → ∀ H', Ex H H' → E (.ref (He.ga K "NoCard")) none H')
theorem fb_notes_of {P : Program} {w : World} {K : PySem.W.Frag} {mg : Str → Option Value} {base : Heap} (T : Env K mg) : ∃ fd, FunD K "notes_of" "notes_of" (defArgs s_notes_of) (defBody s_notes_of) (defScope s_notes_of) [] [] (He.ga K "notes_of") fd ∧ Fb P w K mg base 2 (He.ga K "notes_of") fd ["notes"] (sp_notes_of K) := by
  obtain ⟨fd, F⟩ := T.f_notes_of
  refine ⟨fd, F, fb_of F sc_notes_of (fun vs H Q E h => ?_) (fun cdv A outer s H vs Q E hr h => ?_)⟩
  · obtain ⟨y, r, rfl, _⟩ := h
    rfl
  · obtain ⟨y, r, rfl, hN, q, qe⟩ := h
    refine ⟨_, (pss_cons (ps_if (pt_cmpR op_isN (pv 0) pe_non (nomark _))
      (pss_one (ps_ret (pe_tup pa_nil)))
      pss_nil)
      (pss_cons (ps_if (PW.pt (pw_or (pt_not (pt_val (pe_callB call_isiT (by rfl) T.n_isinstance (by decide +kernel) (pa_cons (pv 0) (pa_cons (pe_tup (pa_cons (pe_bltn (v := .ty "list") (by rfl) T.n_list (by decide +kernel) rfl) (pa_cons (pe_bltn (v := .ty "tuple") (by rfl) T.n_tuple (by decide +kernel) rfl) pa_nil))) pa_nil))))) (pw_or1 (pt_not (pt_val (pe_callB (cr_all rfl) (by rfl) T.n_all (by decide +kernel) (pa_cons (pe_lc (own := [("note", 1)]) (by rfl) sc_notes_of.nd (pi_seqB (pv 0) K) (blkOk_by (own := [("note", 1)]) (N := ["notes", "note"]) (sc := defScope s_notes_of) (by decide +kernel)) (fun _ _ _ _ _ => (pg_name (i := 1) sc_notes_of.nd rfl (Or.inl rfl))) (fun _ _ _ _ _ => pts_nil) (fun _ _ _ _ _ => (c_call (ok_is_name T) (hr.mono (by decide)) T.g_is_name T.k_is_name takes0 (pa_cons (pv 1) pa_nil)))) pa_nil)))))))
      (pss_one (ps_raise rfl (takes_of rfl rfl rfl rfl) (pmk_own PySem.F.excBase_ValueError T.x_NoCard.x T.g_NoCard T.x_NoCard.kp (raises_own T.x_NoCard.sub T.x_NoCard.ty) rfl)))
      pss_nil)
      (pss_cons (ps_if (pt_cmpR op_lt (pe_callB cr_lenT (by rfl) T.n_len (by decide +kernel) (pa_cons (pe_callTy (cr_setT K rfl) (by rfl) T.n_set (by decide +kernel) (pa_cons (pv 0) pa_nil)) pa_nil)) (pe_callB call_len (by rfl) T.n_len (by decide +kernel) (pa_cons (pv 0) pa_nil)) (nomark _))
      (pss_one (ps_raise rfl (takes_of rfl rfl rfl rfl) (pmk_own PySem.F.excBase_ValueError T.x_NoCard.x T.g_NoCard T.x_NoCard.kp (raises_own T.x_NoCard.sub T.x_NoCard.ty) rfl)))
      pss_nil)
      (pss_one (ps_ret (pe_callTy call_tuple_of (by rfl) T.n_tuple (by decide +kernel) (pa_cons (pe_callB (cr_sortedT K) (by rfl) T.n_sorted (by decide +kernel) (pa_cons (pv 0) pa_nil)) pa_nil))))))), ?_⟩
    rcases hN with ⟨rfl, rfl⟩ | ⟨a, xs, rfl, hx, hl, hv, rfl⟩ | ⟨n, t, ty, kt, rfl⟩
    · refine ⟨_, rfl, rfl, _, rfl, (by decide), fun a1 na1 => ?_⟩
      exact q [] rfl a1 _ (ex_new na1) na1 upd_same
    · refine ⟨_, rfl, rfl, _, rfl, ?_⟩
      rw [decide_eq_false (show ¬ V.ref a = V.non from nofun)]
      refine iteF ?_
      refine ⟨_, rfl, (by decide), ?_⟩
      intro a1 na1
      have Xa1 := ex_new (o := HO.tup [V.ty "list", V.ty "tuple"]) na1
      have ha1 : upd H a1 (HO.tup [V.ty "list", V.ty "tuple"]) a1 = some (HO.tup [V.ty "list", V.ty "tuple"]) := upd_same
      generalize upd H a1 (HO.tup [V.ty "list", V.ty "tuple"]) = Ga1 at Xa1 ha1 ⊢
      have ty : ∃ t, TyX K Ga1 (.ref a) t ∧ PySem.W.kitAny K t [.type "list", .type "tuple"] = some true := by
        rcases hx with h | h
        · exact ⟨_, .base (.lst (Xa1 _ _ h)), kitAny_cons (b := true) (kit_ty (by decide +kernel)) (fun z => nomatch z) (fun _ => rfl)⟩
        · exact ⟨_, .base (.tup (Xa1 _ _ h)), kitAny_cons (b := false) (kit_ty (by decide +kernel)) (fun _ => kitAny_cons (b := true) (kit_ty (by decide +kernel)) (fun z => nomatch z) (fun _ => rfl)) (by decide)⟩
      obtain ⟨t, ty, kt⟩ := ty
      have sq : ∀ {H' : Hp}, Ex H H' → SqS K H' a xs := fun {H'} e => by
        rcases hx with h | h
        · exact .inl (sq_lst (e _ _ h))
        · exact .inr (sq_tup (e _ _ h))
      refine ⟨.ref a, a1, _, t, _, true, rfl, ha1, .cons (.ty "list") (.cons (.ty "tuple") .nil), ty, kt, true, rfl, iteF ?_⟩
      refine ⟨_, rfl, a, xs, rfl, sq Xa1, fun J G wk hG A nA => lc_fm wk (fun i => (xs[i]?).map fun x => V.bl (isNm x)) (fun H' => Ex Ga1 H') (fun H' l e => ex_mut e nA) (.refl _) (by omega) (fun H' e => hG H' (stays_ex e)) (fun i x H1 H2 acc N hi e hD la y k => ?_) (fun H1 e hD => ?_)⟩
      · obtain ⟨rfl, y⟩ := y
        have cl := (hv x (List.mem_of_getElem? y)).mono (Xa1.trans e)
        rw [y] at k
        refine ⟨rfl, _, rfl, x, rfl, cl, fun H3 X3 => ?_⟩
        exact ⟨acc, X3 _ _ hD, la, k H3 (e.trans X3) (X3 _ _ hD)⟩
      have eD : (List.range xs.length).filterMap (fun i => (xs[i]?).map fun x => V.bl (isNm x)) = (xs.map isNm).map V.bl := by
        have := range_fm (fun x => some (V.bl (isNm x))) xs
        simp only [Option.map_eq_bind]
        rw [List.map_map, ← List.filterMap_eq_map']
        exact this
      rw [eD] at hD
      have X1 := Xa1.trans e
      refine ⟨A, _, rfl, sq_lst hD, ?_⟩
      rw [show (xs.map isNm).all id = xs.all isNm by rw [List.all_map]; rfl]
      cases hm : xs.all isNm with
      | false =>
        refine ⟨false, rfl, iteT (qe ?_ H1 X1)⟩
        unfold notesR
        rw [hm]
        rfl
      | true =>
        have er : notesR xs = if (strL xs).Nodup then some (srtS (strL xs)) else none := by
          unfold notesR
          rw [hm]
          rfl
        rw [er] at q qe
        have exs := names_str hm
        obtain ⟨ws, hws⟩ : ∃ ws, ws = strL xs := ⟨_, rfl⟩
        rw [← hws] at q qe exs
        have lw : ws.length = xs.length := by rw [exs, List.length_map]
        subst exs
        clear er hws eD
        have sqH : ∀ {G : Hp}, Ex H G → SqL K G a (ws.map V.str) ∨ SqT K G a (ws.map V.str) := fun {G} e => sq e
        have lenH : ∀ {G : Hp}, Ex H G → LenV K (.ref a) G ws.length := fun {G} e => (sqH e).elim (fun z => .inl ⟨_, z, by rw [List.length_map]⟩) (fun z => .inr ⟨_, z, by rw [List.length_map]⟩)
        refine ⟨true, rfl, iteF ⟨_, rfl, a, ws, rfl, sqH X1, by omega, fun s ns => ?_⟩⟩
        have Xs := ex_new (o := SetTO P w s (dst [] ws)) ns
        have hs : upd H1 s (SetTO P w s (dst [] ws)) s = some (SetTO P w s (dst [] ws)) := upd_same
        have hdl : (dst [] ws).length < ws.length ↔ ¬ ws.Nodup := by
          constructor
          · intro h1 h2
            have := dst_full ws [] h2 nofun
            rw [List.length_nil] at this
            omega
          · intro h1
            have := dst_less ws [] fun z => h1 z.1
            rw [List.length_nil] at this
            omega
        generalize dst [] ws = ds at hs hdl Xs ⊢
        have X2 := X1.trans Xs
        refine ⟨s, _, rfl, hs, _, rfl, _, _, rfl, lenH X2, _, _, rfl, rfl, _, rfl, ?_⟩
        by_cases nd : ws.Nodup
        · rw [decide_eq_false (show ¬ ((ds.length : Nat) : Int) < ((ws.length : Nat) : Int) from fun z => hdl.mp (by omega) nd)]
          refine iteF ⟨_, rfl, a, ws, rfl, sqH X2, fun p np => ?_⟩
          have Xp := ex_new (o := .lst ((srtS ws).map V.str)) np
          refine ⟨p, _, rfl, .inl ⟨sq_lst upd_same, fun t nt => ?_⟩⟩
          have Xt := ex_new (o := .tup ((srtS ws).map V.str)) nt
          exact q _ (if_pos nd) t _ ((X2.trans Xp).trans Xt) (ex_fresh (X2.trans Xp) nt) upd_same
        · rw [decide_eq_true (show ((ds.length : Nat) : Int) < ((ws.length : Nat) : Int) from by have := hdl.mpr nd; omega)]
          exact iteT (qe (if_neg nd) _ X2)
    · refine ⟨_, rfl, rfl, _, rfl, ?_⟩
      rw [decide_eq_false n]
      refine iteF ?_
      refine ⟨_, rfl, (by decide), ?_⟩
      intro a1 na1
      have Xa1 := ex_new (o := HO.tup [V.ty "list", V.ty "tuple"]) na1
      have ha1 : upd H a1 (HO.tup [V.ty "list", V.ty "tuple"]) a1 = some (HO.tup [V.ty "list", V.ty "tuple"]) := upd_same
      generalize upd H a1 (HO.tup [V.ty "list", V.ty "tuple"]) = Ga1 at Xa1 ha1 ⊢
      exact ⟨y, a1, _, t, _, false, rfl, ha1, .cons (.ty "list") (.cons (.ty "tuple") .nil), tyX_mono Xa1 ty, kt, false, rfl, iteT (iteT (qe rfl _ Xa1))⟩
theorem ok_notes_of {P : Program} {w : World} {K : PySem.W.Frag} {mg : Str → Option Value} {base : Heap} (T : Env K mg) : Fc P w K mg base 2 (He.ga K "notes_of") [] (sp_notes_of K ) := by
  obtain ⟨fd, D, F⟩ := fb_notes_of T
  exact F.all (D.bindsN fun _ _ _ _ _ _ us hl => match us, hl with | [_], _ => rfl)
end
section
def isN (n : Int) (x : V) : Bool := isW x && (match x with | .int i => decide (n ≤ i) | _ => false)
def sp_is_number (K : PySem.W.Frag) : Sp := fun vs H Q _ => ∃ x n, vs = [x, .int n] ∧ Cl K H x ∧ Q (.bl (isN n x)) H
theorem fb_is_number {P : Program} {w : World} {K : PySem.W.Frag} {mg : Str → Option Value} {base : Heap} (T : Env K mg) : ∃ fd, FunD K "is_number" "is_number" (defArgs s_is_number) (defBody s_is_number) (defScope s_is_number) [] [] (He.ga K "is_number") fd ∧ Fb P w K mg base 1 (He.ga K "is_number") fd ["thing", "least"] (sp_is_number K) := by
  obtain ⟨fd, F⟩ := T.f_is_number
  refine ⟨fd, F, fb_of F sc_is_number (fun vs H Q E h => ?_) (fun cdv A outer s H vs Q E hr h => ?_)⟩
  · obtain ⟨x, n, rfl, _⟩ := h
    rfl
  · obtain ⟨x, n, rfl, ⟨t, b, c, ty, h1, h2, e⟩, q⟩ := h
    refine ⟨_, (pss_one (ps_ret (pe_and (pe_callB call_isi (by rfl) T.n_isinstance (by decide +kernel) (pa_cons (pv 0) (pa_cons (pe_bltn (v := .ty "int") (by rfl) T.n_int (by decide +kernel) rfl) pa_nil))) (pe_and (pe_not (pe_callB call_isi (by rfl) T.n_isinstance (by decide +kernel) (pa_cons (pv 0) (pa_cons (pe_bltn (v := .ty "bool") (by rfl) T.n_bool (by decide +kernel) rfl) pa_nil)))) (pe_one (pe_cmpR op_ge (pv 0) (pv 1) (nomark _))))))), ?_⟩
    refine ⟨x, rfl, x, .ty "int", t, _, b, rfl, .ty "int", ty, h1, b, rfl, ?_⟩
    unfold isN at q
    rw [e] at q
    cases b with
    | false => exact q
    | true =>
      refine ⟨x, rfl, x, .ty "bool", t, _, c, rfl, .ty "bool", ty, h2, c, rfl, ?_⟩
      cases c with
      | true => exact ⟨false, rfl, q⟩
      | false =>
        refine ⟨true, rfl, iteT ?_⟩
        cases x with
        | int i => exact ⟨_, rfl, _, rfl, i, n, rfl, rfl, q⟩
        | _ => cases e
theorem ok_is_number {P : Program} {w : World} {K : PySem.W.Frag} {mg : Str → Option Value} {base : Heap} (T : Env K mg) : Fc P w K mg base 1 (He.ga K "is_number") [] (sp_is_number K ) := by
  obtain ⟨fd, D, F⟩ := fb_is_number T
  exact F.all (D.bindsN fun _ _ _ _ _ _ us hl => match us, hl with | [_, _], _ => rfl)
end
section
abbrev AtC (K : PySem.W.Frag) : Addr := He.ga K "At"
/-- at a an At of a moment -/
def AtAt (K : PySem.W.Frag) (H : Hp) (a : Addr) (n : Nat) : Prop := ∃ dx, H a = some (.ins (AtC K) dx [("moment", .int (n : Nat))])
theorem AtAt.mono {K : PySem.W.Frag} {H H' : Hp} {a : Addr} {n : Nat} (h : AtAt K H a n) (e : Ex H H') : AtAt K H' a n := let ⟨dx, h⟩ := h; ⟨dx, e _ _ h⟩
def sp_At_init (K : PySem.W.Frag) : Sp := fun vs H Q E => ∃ a dx x, vs = [.ref a, x] ∧ H a = some (.ins (AtC K) dx []) ∧ Cl K H x ∧ (isN 0 x = true → Q .non (upd H a (.ins (AtC K) dx [("moment", x)]))) ∧ (isN 0 x = false → E (.ref (He.ga K "NoPiece")) none H)
theorem fb_At_init {P : Program} {w : World} {K : PySem.W.Frag} {mg : Str → Option Value} {base : Heap} (T : Env K mg) : ∃ fd, FunD K "__init__" "At.__init__" (defArgs s_At_init) (defBody s_At_init) (defScope s_At_init) [] [] (He.ma K (He.ga K "At") "__init__") fd ∧ Fb P w K mg base 2 (He.ma K (He.ga K "At") "__init__") fd ["self", "moment"] (sp_At_init K) := by
  obtain ⟨fd, F⟩ := T.f_At_init
  refine ⟨fd, F, fb_of F sc_At_init (fun vs H Q E h => ?_) (fun cdv A outer s H vs Q E hr h => ?_)⟩
  · obtain ⟨a, dx, x, rfl, _⟩ := h
    rfl
  · obtain ⟨a, dx, x, rfl, ha, cl, q, qe⟩ := h
    refine ⟨_, (pss_cons (ps_if (pt_not (pt_val (c_call (ok_is_number T) (hr.mono (by decide)) T.g_is_number T.k_is_number (takes_of rfl rfl rfl rfl) (pa_cons (pv 1) (pa_cons pe_int pa_nil)))))
      (pss_one (ps_raise rfl (takes_of rfl rfl rfl rfl) (pmk_own PySem.F.excBase_ValueError T.x_NoPiece.x T.g_NoPiece T.x_NoPiece.kp (raises_own T.x_NoPiece.sub T.x_NoPiece.ty) rfl)))
      pss_nil)
      (pss_one (ps_fld (pv 0) (pv 1) rfl))), ?_⟩
    refine ⟨_, rfl, x, 0, rfl, cl, _, rfl, ?_⟩
    cases e : isN 0 x with
    | false => exact qe e
    | true =>
      refine iteF ?_
      refine ⟨_, rfl, _, rfl, a, _, dx, [], rfl, ha, T.c_At, T.a_At_moment, by decide, ?_⟩
      exact q e
theorem isN_nat {n m : Nat} (h : m ≤ n) : isN (m : Int) (.int (n : Nat)) = true := by
  show (true && decide ((m : Int) ≤ (n : Int))) = true
  rw [decide_eq_true (by omega)]
  rfl
theorem at_new {K : PySem.W.Frag} {H : Hp} {x dx : Addr} {n : Nat} {Q : VK} {E : XK} (nx : H x = none) (nd : H dx = none) (ne : dx ≠ x) (q : ∀ H', Ex H H' → AtAt K H' x n → Q .non H') :
    sp_At_init K [.ref x, .int (n : Nat)] (upd (upd H dx (.own x)) x (.ins (AtC K) dx [])) Q E := by
  refine ⟨x, dx, _, rfl, upd_same, cl_int _, fun _ => q _ ?_ ⟨dx, upd_same⟩, fun z => ?_⟩
  · exact ex_mut (ex_made nx nd ne) nx
  · rw [show isN 0 (.int (n : Nat)) = true from isN_nat (m := 0) (Nat.zero_le _)] at z
    cases z
theorem ok_At_init {P : Program} {w : World} {K : PySem.W.Frag} {mg : Str → Option Value} {base : Heap} (T : Env K mg) : Fc P w K mg base 2 (He.ma K (He.ga K "At") "__init__") [] (sp_At_init K ) := by
  obtain ⟨fd, D, F⟩ := fb_At_init T
  exact F.all (D.bindsN fun _ _ _ _ _ _ us hl => match us, hl with | [_, _], _ => rfl)
end
section
def sp_At_ends (K : PySem.W.Frag) : Sp := fun vs H Q _ => ∃ a n, vs = [.ref a] ∧ AtAt K H a n ∧ Q (.int (n : Nat)) H
theorem fb_At_ends {P : Program} {w : World} {K : PySem.W.Frag} {mg : Str → Option Value} {base : Heap} (T : Env K mg) : ∃ fd, FunD K "ends" "At.ends" (defArgs s_At_ends) (defBody s_At_ends) (defScope s_At_ends) [] [] (He.ma K (He.ga K "At") "ends") fd ∧ Fb P w K mg base 1 (He.ma K (He.ga K "At") "ends") fd ["self"] (sp_At_ends K) := by
  obtain ⟨fd, F⟩ := T.f_At_ends
  refine ⟨fd, F, fb_of F sc_At_ends (fun vs H Q E h => ?_) (fun cdv A outer s H vs Q E hr h => ?_)⟩
  · obtain ⟨a, n, rfl, _⟩ := h
    rfl
  · obtain ⟨a, n, rfl, ⟨dx, ha⟩, q⟩ := h
    refine ⟨_, (pss_one (ps_ret (pe_fld (pv 0) (by rfl)))), ?_⟩
    exact ⟨_, rfl, a, _, dx, _, _, rfl, ha, T.c_At, T.a_At_moment, rfl, q⟩
theorem ok_At_ends {P : Program} {w : World} {K : PySem.W.Frag} {mg : Str → Option Value} {base : Heap} (T : Env K mg) : Fc P w K mg base 1 (He.ma K (He.ga K "At") "ends") [] (sp_At_ends K ) := by
  obtain ⟨fd, D, F⟩ := fb_At_ends T
  exact F.all (D.bindsN fun _ _ _ _ _ _ us hl => match us, hl with | [_], _ => rfl)
end
section
/-- the moments of ns, over and over -/
def overN (ns : List Nat) (m s : Nat) : List Nat := (List.range m).flatMap fun t => ns.map fun n => n + t * s
theorem overN_len (ns : List Nat) (m s : Nat) : (overN ns m s).length = m * ns.length := by
  unfold overN
  induction m with
  | zero => simp
  | succ m ih =>
    rw [List.range_succ, List.flatMap_append, List.length_append, ih]
    simp
    rw [Nat.add_mul, Nat.one_mul]
theorem overN_succ (ns : List Nat) (m s : Nat) : overN ns (m + 1) s = overN ns m s ++ ns.map fun n => n + m * s := by
  unfold overN
  rw [List.range_succ, List.flatMap_append]
  simp
/-- shorts -/
inductive Tr where
  | at (n : Nat)
  | ov (ps : List Tr) (m s : Nat)
mutual
def Tr.moms : Tr → List Nat
  | .at n => [n]
  | .ov ps m s => overN (momsL ps) m s
def momsL : List Tr → List Nat
  | [] => []
  | t :: ts => t.moms ++ momsL ts
end
mutual
def Tr.nest : Tr → Nat
  | .at _ => 0
  | .ov ps _ _ => 1 + nestL ps
def nestL : List Tr → Nat
  | [] => 0
  | t :: ts => max t.nest (nestL ts)
end
mutual
def Tr.pcs : Tr → Nat
  | .at _ => 1
  | .ov ps _ _ => 1 + pcsL ps
def pcsL : List Tr → Nat
  | [] => 0
  | t :: ts => t.pcs + pcsL ts
end
theorem pcsL_app (a b : List Tr) : pcsL (a ++ b) = pcsL a + pcsL b := by
  induction a with
  | nil => simp [pcsL]
  | cons t r ih => simp [pcsL, ih, Nat.add_assoc]
theorem momsL_app (a b : List Tr) : momsL (a ++ b) = momsL a ++ momsL b := by
  induction a with
  | nil => simp [momsL]
  | cons t r ih => simp [momsL, ih]
theorem nestL_mem {t : Tr} : ∀ {ts : List Tr}, t ∈ ts → t.nest ≤ nestL ts
  | x :: r, h => by
    show _ ≤ max x.nest (nestL r)
    rcases List.mem_cons.mp h with rfl | h
    · exact Nat.le_max_left _ _
    · exact Nat.le_trans (nestL_mem h) (Nat.le_max_right _ _)
theorem nestL_max : ∀ {ts : List Tr}, ts ≠ [] → ∃ t ∈ ts, t.nest = nestL ts
  | [t], _ => ⟨t, List.mem_cons_self, by show _ = max t.nest 0; omega⟩
  | t :: x :: r, _ => by
    obtain ⟨y, hy, e⟩ := nestL_max (ts := x :: r) (by simp)
    have e2 : nestL (t :: x :: r) = max t.nest (nestL (x :: r)) := by simp [nestL]
    by_cases c : nestL (x :: r) ≤ t.nest
    · exact ⟨t, List.mem_cons_self, by omega⟩
    · exact ⟨y, List.mem_cons_of_mem _ hy, by omega⟩
theorem momsL_take {ts : List Tr} {i : Nat} {t : Tr} (h : ts[i]? = some t) : momsL (ts.take (i + 1)) = momsL (ts.take i) ++ t.moms := by
  rw [take_snoc h, momsL_app]
  simp [momsL]
theorem momsL_take_len (ts : List Tr) (i : Nat) : (momsL (ts.take i)).length ≤ (momsL ts).length := by
  conv => rhs; rw [← List.take_append_drop i ts, momsL_app, List.length_append]
  omega
mutual
/-- a short that may be made -/
def Tr.ok : Tr → Prop
  | .at _ => True
  | .ov ps m s => ps ≠ [] ∧ 2 ≤ m ∧ 1 ≤ s ∧ m * (momsL ps).length ≤ 1440 ∧ (momsL ps).getLastD 0 < s + (momsL ps).headD 0 ∧ (momsL ps).Pairwise (· < ·) ∧ okL_ ps
def okL_ : List Tr → Prop
  | [] => True
  | t :: ts => t.ok ∧ okL_ ts
end
theorem okL_mem {t : Tr} : ∀ {ts : List Tr}, okL_ ts → t ∈ ts → t.ok
  | x :: r, h, hm => by
    unfold okL_ at h
    rcases List.mem_cons.mp hm with rfl | hm
    · exact h.1
    · exact okL_mem h.2 hm
theorem pos_moms (t : Tr) (h : t.ok) : 1 ≤ t.moms.length := by
  match t, h with
  | .at n, _ =>
    unfold Tr.moms
    exact Nat.le_refl _
  | .ov (x :: r) m s, h =>
    unfold Tr.ok at h
    obtain ⟨_, h2, _, _, _, _, h7⟩ := h
    unfold Tr.moms
    rw [overN_len]
    have hx : 1 ≤ x.moms.length := pos_moms x (by unfold okL_ at h7; exact h7.1)
    have : 1 ≤ (momsL (x :: r)).length := by
      unfold momsL
      rw [List.length_append]
      omega
    exact Nat.le_trans (by decide) (Nat.mul_le_mul h2 this)
  | .ov [] m s, h =>
    unfold Tr.ok at h
    exact absurd rfl h.1
theorem len_moms : ∀ {ts : List Tr}, okL_ ts → ts.length ≤ (momsL ts).length
  | [], _ => Nat.le_refl _
  | t :: ts, h => by
    unfold okL_ at h
    have h1 := pos_moms t h.1
    have h2 := len_moms h.2
    unfold momsL
    rw [List.length_cons, List.length_append]
    omega
theorem ov_facts {ps : List Tr} {m s : Nat} (h : (Tr.ov ps m s).ok) : ps ≠ [] ∧ 2 ≤ m ∧ m ≤ 1440 ∧ m * (momsL ps).length ≤ 1440 ∧ (momsL ps).length ≤ 1440 ∧ ps.length ≤ 1440 ∧ okL_ ps := by
  unfold Tr.ok at h
  obtain ⟨h1, h2, h3, h4, _, _, h7⟩ := h
  have h8 := len_moms h7
  have h9 : 0 < ps.length := List.length_pos_iff.mpr h1
  have h10 : m ≤ m * (momsL ps).length := Nat.le_mul_of_pos_right m (by omega)
  have h11 : (momsL ps).length ≤ m * (momsL ps).length := Nat.le_mul_of_pos_left _ (by omega)
  exact ⟨h1, h2, by omega, h4, by omega, by omega, h7⟩
theorem momsL_few : ∀ {ts : List Tr}, okL_ ts → (momsL ts).length ≤ 1440 * ts.length
  | [], _ => by
    unfold momsL
    exact Nat.zero_le _
  | t :: r, h => by
    have h1 : t.moms.length ≤ 1440 := by
      have h2 := h
      unfold okL_ at h2
      cases t with
      | «at» n =>
        unfold Tr.moms
        show 1 ≤ 1440
        decide
      | ov ps m s =>
        have h3 := h2.1
        unfold Tr.ok at h3
        unfold Tr.moms
        rw [overN_len]
        exact h3.2.2.2.1
    have h2 : (momsL r).length ≤ 1440 * r.length := momsL_few (by unfold okL_ at h; exact h.2)
    unfold momsL
    rw [List.length_append, List.length_cons]
    omega
theorem ov_nest {ps : List Tr} {m s d : Nat} (h : (Tr.ov ps m s).nest ≤ d + 1) : nestL ps ≤ d := by
  unfold Tr.nest at h
  omega
theorem headD_app {a b : List Nat} (h : a ≠ []) : (a ++ b).headD 0 = a.headD 0 := by
  cases a with
  | nil => exact absurd rfl h
  | cons x r => rfl
theorem lastD_app {a b : List Nat} (h : b ≠ []) : (a ++ b).getLastD 0 = b.getLastD 0 := by
  rw [List.getLastD_eq_getLast?, List.getLastD_eq_getLast?, List.getLast?_append]
  cases hb : b.getLast? with
  | none => exact absurd (List.getLast?_eq_none_iff.mp hb) h
  | some x => rfl
theorem lastD_map {a : List Nat} (k : Nat) (h : a ≠ []) : (a.map fun n => n + k).getLastD 0 = a.getLastD 0 + k := by
  rw [List.getLastD_eq_getLast?, List.getLastD_eq_getLast?, List.getLast?_map]
  cases hb : a.getLast? with
  | none => exact absurd (List.getLast?_eq_none_iff.mp hb) h
  | some x => rfl
theorem overN_head {ns : List Nat} {s : Nat} (h : ns ≠ []) : ∀ m, 1 ≤ m → (overN ns m s).headD 0 = ns.headD 0
  | 1, _ => by
    rw [overN_succ]
    show ([] ++ ns.map fun n => n + 0 * s).headD 0 = _
    cases ns with
    | nil => exact absurd rfl h
    | cons x r => simp
  | m + 2, _ => by
    have ih := overN_head (s := s) h (m + 1) (by omega)
    have ne : overN ns (m + 1) s ≠ [] := fun z => by
      have := congrArg List.length z
      rw [overN_len] at this
      have p : 0 < ns.length := List.length_pos_iff.mpr h
      have : (m + 1) * ns.length = 0 := this
      have := Nat.mul_pos (show 0 < m + 1 by omega) p
      omega
    rw [overN_succ, headD_app ne, ih]
theorem overN_last {ns : List Nat} {m s : Nat} (h : ns ≠ []) (hm : 1 ≤ m) : (overN ns m s).getLastD 0 = ns.getLastD 0 + (m - 1) * s := by
  obtain ⟨k, rfl⟩ : ∃ k, m = k + 1 := ⟨m - 1, by omega⟩
  rw [overN_succ, lastD_app (by intro z; exact h (List.map_eq_nil_iff.mp z)), lastD_map _ h]
  rfl
theorem moms_ne {t : Tr} (h : t.ok) : t.moms ≠ [] := fun z => by
  have := pos_moms t h
  rw [z] at this
  exact absurd this (by decide)
theorem momsL_ne {ts : List Tr} (h : okL_ ts) (h0 : ts ≠ []) : momsL ts ≠ [] := fun z => by
  have h1 := len_moms h
  rw [z] at h1
  exact h0 (List.length_eq_zero_iff.mp (Nat.le_zero.mp h1))
theorem momsL_head {t : Tr} {ts : List Tr} (h : okL_ (t :: ts)) : (momsL (t :: ts)).headD 0 = t.moms.headD 0 := by
  have e : momsL (t :: ts) = t.moms ++ momsL ts := by simp [momsL]
  rw [e, headD_app (moms_ne (okL_mem h List.mem_cons_self))]
theorem momsL_last {t : Tr} {ts : List Tr} (h : okL_ (ts ++ [t])) : (momsL (ts ++ [t])).getLastD 0 = t.moms.getLastD 0 := by
  have ht : t.ok := okL_mem h (List.mem_append_right _ List.mem_cons_self)
  have e : momsL [t] = t.moms := by simp [momsL]
  rw [momsL_app, e, lastD_app (moms_ne ht)]
theorem last_ref {as : List Addr} (h : as ≠ []) : ∃ b, as[as.length - 1]? = some b ∧ atI (as.map V.ref) (-1) = some (.ref b) := by
  refine ⟨as.getLast h, ?_, ?_⟩
  · have p : 0 < as.length := List.length_pos_iff.mpr h
    rw [List.getLast_eq_getElem, List.getElem?_eq_getElem (by omega)]
  · have e := (List.dropLast_concat_getLast h).symm
    generalize as.getLast h = z at e
    rw [e, List.map_append]
    exact atI_last _ _
/-- rising: each behind the end of the one ahead -/
def risB (ts : List Tr) : Bool := (ts.zip (ts.drop 1)).all fun p => decide (p.1.moms.getLastD 0 < p.2.moms.headD 0)
theorem all_repT (n : Nat) : (List.replicate n true).all id = true := by
  induction n with
  | zero => rfl
  | succ n ih =>
    rw [List.replicate_succ, List.all_cons, ih]
    rfl
theorem le_lastD {ns : List Nat} (h : ns.Pairwise (· < ·)) : ∀ n ∈ ns, n ≤ ns.getLastD 0 := fun n hn => by
  have h0 : ns ≠ [] := fun z => by rw [z] at hn; cases hn
  have e : ns.getLastD 0 = ns.getLast h0 := by
    rw [List.getLastD_eq_getLast?, List.getLast?_eq_some_getLast h0]
    rfl
  rw [e]
  have ec := (List.dropLast_concat_getLast h0).symm
  generalize ns.getLast h0 = z at ec
  rw [ec] at hn h
  rcases List.mem_append.mp hn with hm | hm
  · exact Nat.le_of_lt ((List.pairwise_append.mp h).2.2 n hm z (List.mem_singleton.mpr rfl))
  · rw [List.mem_singleton.mp hm]
    exact Nat.le_refl _
theorem headD_le {ns : List Nat} (h : ns.Pairwise (· < ·)) : ∀ n ∈ ns, ns.headD 0 ≤ n := fun n hn => by
  cases ns with
  | nil => cases hn
  | cons x r =>
    show x ≤ n
    rcases List.mem_cons.mp hn with rfl | hm
    · exact Nat.le_refl _
    · exact Nat.le_of_lt ((List.pairwise_cons.mp h).1 n hm)
theorem mem_overN {ns : List Nat} {m s x : Nat} : x ∈ overN ns m s ↔ ∃ t n, t < m ∧ n ∈ ns ∧ x = n + t * s := by
  unfold overN
  rw [List.mem_flatMap]
  constructor
  · rintro ⟨t, ht, h⟩
    obtain ⟨n, hn, rfl⟩ := List.mem_map.mp h
    exact ⟨t, n, List.mem_range.mp ht, hn, rfl⟩
  · rintro ⟨t, n, ht, hn, rfl⟩
    exact ⟨t, List.mem_range.mpr ht, List.mem_map.mpr ⟨n, hn, rfl⟩⟩
theorem overN_sorted {ns : List Nat} {s : Nat} (h : ns.Pairwise (· < ·)) (hs : ns.getLastD 0 < s + ns.headD 0) : ∀ m, (overN ns m s).Pairwise (· < ·)
  | 0 => .nil
  | m + 1 => by
    rw [overN_succ]
    refine List.pairwise_append.mpr ⟨overN_sorted h hs m, List.pairwise_map.mpr (h.imp fun {a b} z => by omega), fun a ha b hb => ?_⟩
    obtain ⟨t, n, ht, hn, rfl⟩ := mem_overN.mp ha
    obtain ⟨k, hk, rfl⟩ := List.mem_map.mp hb
    have h1 := le_lastD h n hn
    have h2 := headD_le h k hk
    have h3 : t * s + s ≤ m * s := by
      have := Nat.mul_le_mul_right s (show t + 1 ≤ m by omega)
      rw [Nat.add_mul, Nat.one_mul] at this
      exact this
    omega
mutual
theorem sorted_moms : ∀ {t : Tr}, t.ok → t.moms.Pairwise (· < ·)
  | .at n, _ => by
    unfold Tr.moms
    exact List.pairwise_singleton _ _
  | .ov ps m s, h => by
    unfold Tr.ok at h
    obtain ⟨_, _, _, _, h5, h6, _⟩ := h
    unfold Tr.moms
    exact overN_sorted h6 h5 m
end
theorem lastD_mem {ns : List Nat} (h : ns ≠ []) : ns.getLastD 0 ∈ ns := by
  rw [List.getLastD_eq_getLast?, List.getLast?_eq_some_getLast h]
  exact List.getLast_mem h
theorem headD_mem {ns : List Nat} (h : ns ≠ []) : ns.headD 0 ∈ ns := by
  cases ns with
  | nil => exact absurd rfl h
  | cons x r => exact List.mem_cons_self
theorem ris_of : ∀ {ts : List Tr}, okL_ ts → (momsL ts).Pairwise (· < ·) → risB ts = true
  | [], _, _ => rfl
  | [t], _, _ => rfl
  | t :: x :: r, h, hs => by
    have hok : okL_ (x :: r) := by
      unfold okL_ at h
      exact h.2
    have e : momsL (t :: x :: r) = t.moms ++ momsL (x :: r) := by rw [momsL]
    rw [e] at hs
    obtain ⟨h1, h2, h3⟩ := List.pairwise_append.mp hs
    have ih := ris_of hok h2
    have lt := h3 _ (lastD_mem (moms_ne (okL_mem h List.mem_cons_self))) _ (headD_mem (momsL_ne hok (by simp)))
    rw [momsL_head hok] at lt
    show (decide (t.moms.getLastD 0 < x.moms.headD 0) && risB (x :: r)) = true
    rw [decide_eq_true lt, ih]
    rfl
end
section
abbrev OverC (K : PySem.W.Frag) : Addr := He.ga K "Over"
def overF (kp : Addr) (m s : Nat) : List (Str × V) := [("kept", .ref kp), ("many", .int (m : Nat)), ("step", .int (s : Nat))]
mutual
/-- at a this short -/
def ShAt (K : PySem.W.Frag) (H : Hp) : Tr → Addr → Prop
  | .at n, a => AtAt K H a n
  | .ov ps m s, a => ∃ dx kp as, H a = some (.ins (OverC K) dx (overF kp m s)) ∧ H kp = some (.tup (as.map V.ref)) ∧ ShsAt K H ps as
def ShsAt (K : PySem.W.Frag) (H : Hp) : List Tr → List Addr → Prop
  | [], as => as = []
  | t :: ts, as => ∃ a r, as = a :: r ∧ ShAt K H t a ∧ ShsAt K H ts r
end
mutual
theorem ShAt.mono {K : PySem.W.Frag} {H H' : Hp} (e : Ex H H') : ∀ {t : Tr} {a : Addr}, ShAt K H t a → ShAt K H' t a
  | .at n, a, h => by
    unfold ShAt at h ⊢
    exact AtAt.mono h e
  | .ov ps m s, a, h => by
    unfold ShAt at h ⊢
    obtain ⟨dx, kp, as, h1, h2, h3⟩ := h
    exact ⟨dx, kp, as, e _ _ h1, e _ _ h2, ShsAt.mono e h3⟩
theorem ShsAt.mono {K : PySem.W.Frag} {H H' : Hp} (e : Ex H H') : ∀ {ts : List Tr} {as : List Addr}, ShsAt K H ts as → ShsAt K H' ts as
  | [], as, h => by
    unfold ShsAt at h ⊢
    exact h
  | t :: ts, as, h => by
    unfold ShsAt at h ⊢
    obtain ⟨a, r, h1, h2, h3⟩ := h
    exact ⟨a, r, h1, ShAt.mono e h2, ShsAt.mono e h3⟩
end
theorem ShsAt.len {K : PySem.W.Frag} {H : Hp} : ∀ {ts : List Tr} {as : List Addr}, ShsAt K H ts as → as.length = ts.length
  | [], as, h => by
    unfold ShsAt at h
    rw [h]
    rfl
  | t :: ts, as, h => by
    unfold ShsAt at h
    obtain ⟨a, r, rfl, _, h3⟩ := h
    rw [List.length_cons, List.length_cons, ShsAt.len h3]
theorem ShsAt.get {K : PySem.W.Frag} {H : Hp} : ∀ {ts : List Tr} {as : List Addr} {i : Nat} {a : Addr}, ShsAt K H ts as → as[i]? = some a → ∃ t, ts[i]? = some t ∧ ShAt K H t a
  | [], as, i, a, h, hi => by
    unfold ShsAt at h
    rw [h] at hi
    cases hi
  | t :: ts, as, i, a, h, hi => by
    unfold ShsAt at h
    obtain ⟨b, r, rfl, h2, h3⟩ := h
    cases i with
    | zero =>
      cases hi
      exact ⟨t, rfl, h2⟩
    | succ i => exact ShsAt.get (i := i) h3 hi
/-- nothing in it is a list -/
theorem ShAt.ins {K : PySem.W.Frag} {H : Hp} {t : Tr} {a : Addr} (h : ShAt K H t a) : ∃ C dx fs, H a = some (.ins C dx fs) := by
  cases t with
  | «at» n =>
    unfold ShAt at h
    obtain ⟨dx, h⟩ := h
    exact ⟨_, dx, _, h⟩
  | ov ps m s =>
    unfold ShAt at h
    obtain ⟨dx, kp, as, h1, _⟩ := h
    exact ⟨_, dx, _, h1⟩
mutual
theorem ShAt.oth {K : PySem.W.Frag} {H H' : Hp} {d : Addr} (o : Oth d H H') (hd : ∀ ob, H d = some ob → (∃ xs, ob = .lst xs)) : ∀ {t : Tr} {a : Addr}, ShAt K H t a → ShAt K H' t a
  | .at n, a, h => by
    unfold ShAt at h ⊢
    obtain ⟨dx, h⟩ := h
    refine ⟨dx, o _ _ (fun z => ?_) h⟩
    obtain ⟨xs, e⟩ := hd _ (z ▸ h)
    cases e
  | .ov ps m s, a, h => by
    unfold ShAt at h ⊢
    obtain ⟨dx, kp, as, h1, h2, h3⟩ := h
    refine ⟨dx, kp, as, o _ _ (fun z => ?_) h1, o _ _ (fun z => ?_) h2, ShsAt.oth o hd h3⟩
    · obtain ⟨xs, e⟩ := hd _ (z ▸ h1)
      cases e
    · obtain ⟨xs, e⟩ := hd _ (z ▸ h2)
      cases e
theorem ShsAt.oth {K : PySem.W.Frag} {H H' : Hp} {d : Addr} (o : Oth d H H') (hd : ∀ ob, H d = some ob → (∃ xs, ob = .lst xs)) : ∀ {ts : List Tr} {as : List Addr}, ShsAt K H ts as → ShsAt K H' ts as
  | [], as, h => by
    unfold ShsAt at h ⊢
    exact h
  | t :: ts, as, h => by
    unfold ShsAt at h ⊢
    obtain ⟨a, r, h1, h2, h3⟩ := h
    exact ⟨a, r, h1, ShAt.oth o hd h2, ShsAt.oth o hd h3⟩
end
def sp_Over_moments (K : PySem.W.Frag) (d : Nat) : Sp := fun vs H Q _ => ∃ a ps m s, vs = [.ref a] ∧ ShAt K H (.ov ps m s) a ∧ (Tr.ov ps m s).nest ≤ d ∧ (Tr.ov ps m s).ok ∧ ∀ p H', Ex H H' → H p = none → H' p = some (.lst (natV (Tr.ov ps m s).moms)) → Q (.ref p) H'
def sp_Over_means_many (K : PySem.W.Frag) (d : Nat) : Sp := fun vs H Q _ => ∃ a ps m s, vs = [.ref a] ∧ ShAt K H (.ov ps m s) a ∧ (Tr.ov ps m s).nest ≤ d ∧ okL_ ps ∧ ps.length ≤ 20000 ∧ ∀ H', Ex H H' → Q (.int ((m * (momsL ps).length : Nat) : Int)) H'
def sp_Over_nested (K : PySem.W.Frag) (d : Nat) : Sp := fun vs H Q _ => ∃ a ps m s, vs = [.ref a] ∧ ShAt K H (.ov ps m s) a ∧ (Tr.ov ps m s).nest ≤ d ∧ ps ≠ [] ∧ okL_ ps ∧ ps.length ≤ 20000 ∧ ∀ H', Ex H H' → Q (.int (((Tr.ov ps m s).nest : Nat) : Int)) H'
def sp_Over_begins (K : PySem.W.Frag) (d : Nat) : Sp := fun vs H Q _ => ∃ a ps m s, vs = [.ref a] ∧ ShAt K H (.ov ps m s) a ∧ (Tr.ov ps m s).nest ≤ d ∧ (Tr.ov ps m s).ok ∧ Q (.int ((((Tr.ov ps m s).moms.headD 0 : Nat)) : Int)) H
def sp_Over_ends (K : PySem.W.Frag) (d : Nat) : Sp := fun vs H Q _ => ∃ a ps m s, vs = [.ref a] ∧ ShAt K H (.ov ps m s) a ∧ (Tr.ov ps m s).nest ≤ d ∧ (Tr.ov ps m s).ok ∧ Q (.int ((((Tr.ov ps m s).moms.getLastD 0 : Nat)) : Int)) H
theorem ShsAt.snoc {K : PySem.W.Frag} {H : Hp} {t : Tr} {a : Addr} : ∀ {ts : List Tr} {as : List Addr}, ShsAt K H ts as → ShAt K H t a → ShsAt K H (ts ++ [t]) (as ++ [a])
  | [], as, h, ha => by
    unfold ShsAt at h
    rw [h]
    show ShsAt K H [t] [a]
    unfold ShsAt
    exact ⟨a, [], rfl, ha, by unfold ShsAt; rfl⟩
  | x :: ts, as, h, ha => by
    unfold ShsAt at h
    obtain ⟨b, r, rfl, h2, h3⟩ := h
    show ShsAt K H (x :: (ts ++ [t])) (b :: (r ++ [a]))
    unfold ShsAt
    exact ⟨b, r ++ [a], rfl, h2, ShsAt.snoc h3 ha⟩
end
section
theorem fb_Over_ends {P : Program} {w : World} {K : PySem.W.Frag} {mg : Str → Option Value} {base : Heap} (T : Env K mg) {d L : Nat} (hL : 40 ≤ L) (r_Over_ends : Fc P w K mg base L (He.ma K (He.ga K "Over") "ends") [] (sp_Over_ends K d)) : ∃ fd, FunD K "ends" "Over.ends" (defArgs s_Over_ends) (defBody s_Over_ends) (defScope s_Over_ends) [] [] (He.ma K (He.ga K "Over") "ends") fd ∧ Fb P w K mg base (L + 1) (He.ma K (He.ga K "Over") "ends") fd ["self"] (sp_Over_ends K (d + 1)) := by
  obtain ⟨fd, F⟩ := T.f_Over_ends
  refine ⟨fd, F, fb_of F sc_Over_ends (fun vs H Q E h => ?_) (fun cdv A outer s H vs Q E hr h => ?_)⟩
  · obtain ⟨a, ps, m, s, rfl, _⟩ := h
    rfl
  · obtain ⟨a, ps, m, s_, rfl, hO, hn, hok, q⟩ := h
    refine ⟨_, (pss_one (ps_ret (pe_op op_add (pe_orE (c_meth0 (pe_ix ix_tup (pe_fld (pv 0) (by rfl)) (pe_un un_neg pe_int) (fun _ _ => rfl)) T.c_At T.m_At_ends (ok_At_ends T) (hr.mono (by omega)) takes0) (c_meth0 (pe_ix ix_tup (pe_fld (pv 0) (by rfl)) (pe_un un_neg pe_int) (fun _ _ => rfl)) T.c_Over T.m_Over_ends r_Over_ends (hr.mono (by omega)) takes0)) (pe_op op_mul (pe_op op_sub (pe_fld (pv 0) (by rfl)) pe_int) (pe_fld (pv 0) (by rfl)))))), ?_⟩
    have hnL := ov_nest hn
    obtain ⟨o1, o2, _, _, _, _, o7⟩ := ov_facts hok
    have nn := momsL_ne o7 o1
    unfold Tr.moms at q
    obtain ⟨dx, kp, as, ha, hk, hA⟩ := (by unfold ShAt at hO; exact hO : ∃ dx kp as, H a = some (.ins (OverC K) dx (overF kp m s_)) ∧ H kp = some (.tup (as.map V.ref)) ∧ ShsAt K H ps as)
    rw [overN_last nn (by omega)] at q
    have hm := (ov_facts hok).2.2.1
    have hl1 := hA.len
    have as0 : as ≠ [] := fun z => by
      rw [z] at hl1
      exact o1 (List.length_eq_zero_iff.mp hl1.symm)
    obtain ⟨b, gb, aL⟩ := last_ref as0
    obtain ⟨t, ht, hS⟩ := hA.get gb
    have ep : ps = ps.dropLast ++ [t] := by
      have e := (List.dropLast_concat_getLast o1).symm
      have e2 : ps.getLast o1 = t := by
        rw [List.getLast_eq_getElem]
        rw [hl1] at ht
        obtain ⟨_, e⟩ := List.getElem?_eq_some_iff.mp ht
        exact e
      rw [e2] at e
      exact e
    have htm := List.mem_of_getElem? ht
    have eL : (momsL ps).getLastD 0 = t.moms.getLastD 0 := by
      rw [ep] at o7 ⊢
      exact momsL_last o7
    rw [eL] at q
    have ok := okL_mem o7 htm
    have tn := Nat.le_trans (nestL_mem htm) hnL
    have e : ((t.moms.getLastD 0 : Nat) : Int) + (((m : Nat) : Int) - 1) * ((s_ : Nat) : Int) = ((t.moms.getLastD 0 + (m - 1) * s_ : Nat) : Int) := by
      rw [Int.natCast_add, Int.natCast_mul, Int.natCast_sub (by omega)]
      rfl
    rw [← e] at q
    cases t with
    | «at» n =>
      unfold ShAt at hS
      obtain ⟨dy, h2⟩ := id hS
      unfold Tr.moms at q
      exact .inl ⟨_, rfl, a, _, dx, _, _, rfl, ha, T.c_Over, T.a_Over_kept, rfl, _, rfl, kp, _, _, _, rfl, rfl, sq_tup hk, aL, b, dy, _, rfl, h2, rfl, b, n, rfl, hS, _, rfl, a, _, dx, _, _, rfl, ha, T.c_Over, T.a_Over_many, rfl, _, _, rfl, rfl, _, rfl, a, _, dx, _, _, rfl, ha, T.c_Over, T.a_Over_step, rfl, _, _, rfl, rfl, .inl ⟨by omega, by omega⟩, _, _, rfl, rfl, q⟩
    | ov ps' m' s' =>
      obtain ⟨dy, kp', as', h2, _⟩ := (by unfold ShAt at hS; exact hS : ∃ dx kp as, H b = some (.ins (OverC K) dx (overF kp m' s')) ∧ H kp = some (.tup (as.map V.ref)) ∧ ShsAt K H ps' as)
      exact .inr ⟨_, rfl, a, _, dx, _, _, rfl, ha, T.c_Over, T.a_Over_kept, rfl, _, rfl, kp, _, _, _, rfl, rfl, sq_tup hk, aL, b, dy, _, rfl, h2, rfl, b, ps', m', s', rfl, hS, tn, ok, _, rfl, a, _, dx, _, _, rfl, ha, T.c_Over, T.a_Over_many, rfl, _, _, rfl, rfl, _, rfl, a, _, dx, _, _, rfl, ha, T.c_Over, T.a_Over_step, rfl, _, _, rfl, rfl, .inl ⟨by omega, by omega⟩, _, _, rfl, rfl, q⟩
theorem ok_Over_ends {P : Program} {w : World} {K : PySem.W.Frag} {mg : Str → Option Value} {base : Heap} (T : Env K mg) {d L : Nat} (hL : 40 ≤ L) (r_Over_ends : Fc P w K mg base L (He.ma K (He.ga K "Over") "ends") [] (sp_Over_ends K d)) : Fc P w K mg base (L + 1) (He.ma K (He.ga K "Over") "ends") [] (sp_Over_ends K (d + 1)) := by
  obtain ⟨fd, D, F⟩ := fb_Over_ends T hL r_Over_ends
  exact F.all (D.bindsN fun _ _ _ _ _ _ us hl => match us, hl with | [_], _ => rfl)
theorem all_Over_ends {P : Program} {w : World} {K : PySem.W.Frag} {mg : Str → Option Value} {base : Heap} (T : Env K mg) : ∀ d, Fc P w K mg base (40 + 1 * d) (He.ma K (He.ga K "Over") "ends") [] (sp_Over_ends K d)
  | 0 => fc_no fun vs H Q E h => by
    obtain ⟨a, ps, m, s, _, _, h, _⟩ := h
    unfold Tr.nest at h
    omega
  | d + 1 => ok_Over_ends T (Nat.le_add_right 40 _) (all_Over_ends T d)
end
section
def sp_At_begins (K : PySem.W.Frag) : Sp := fun vs H Q _ => ∃ a n, vs = [.ref a] ∧ AtAt K H a n ∧ Q (.int (n : Nat)) H
theorem fb_At_begins {P : Program} {w : World} {K : PySem.W.Frag} {mg : Str → Option Value} {base : Heap} (T : Env K mg) : ∃ fd, FunD K "begins" "At.begins" (defArgs s_At_begins) (defBody s_At_begins) (defScope s_At_begins) [] [] (He.ma K (He.ga K "At") "begins") fd ∧ Fb P w K mg base 1 (He.ma K (He.ga K "At") "begins") fd ["self"] (sp_At_begins K) := by
  obtain ⟨fd, F⟩ := T.f_At_begins
  refine ⟨fd, F, fb_of F sc_At_begins (fun vs H Q E h => ?_) (fun cdv A outer s H vs Q E hr h => ?_)⟩
  · obtain ⟨a, n, rfl, _⟩ := h
    rfl
  · obtain ⟨a, n, rfl, ⟨dx, ha⟩, q⟩ := h
    refine ⟨_, (pss_one (ps_ret (pe_fld (pv 0) (by rfl)))), ?_⟩
    exact ⟨_, rfl, a, _, dx, _, _, rfl, ha, T.c_At, T.a_At_moment, rfl, q⟩
theorem ok_At_begins {P : Program} {w : World} {K : PySem.W.Frag} {mg : Str → Option Value} {base : Heap} (T : Env K mg) : Fc P w K mg base 1 (He.ma K (He.ga K "At") "begins") [] (sp_At_begins K ) := by
  obtain ⟨fd, D, F⟩ := fb_At_begins T
  exact F.all (D.bindsN fun _ _ _ _ _ _ us hl => match us, hl with | [_], _ => rfl)
end
section
theorem fb_Over_begins {P : Program} {w : World} {K : PySem.W.Frag} {mg : Str → Option Value} {base : Heap} (T : Env K mg) {d L : Nat} (hL : 40 ≤ L) (r_Over_begins : Fc P w K mg base L (He.ma K (He.ga K "Over") "begins") [] (sp_Over_begins K d)) : ∃ fd, FunD K "begins" "Over.begins" (defArgs s_Over_begins) (defBody s_Over_begins) (defScope s_Over_begins) [] [] (He.ma K (He.ga K "Over") "begins") fd ∧ Fb P w K mg base (L + 1) (He.ma K (He.ga K "Over") "begins") fd ["self"] (sp_Over_begins K (d + 1)) := by
  obtain ⟨fd, F⟩ := T.f_Over_begins
  refine ⟨fd, F, fb_of F sc_Over_begins (fun vs H Q E h => ?_) (fun cdv A outer s H vs Q E hr h => ?_)⟩
  · obtain ⟨a, ps, m, s, rfl, _⟩ := h
    rfl
  · obtain ⟨a, ps, m, s_, rfl, hO, hn, hok, q⟩ := h
    refine ⟨_, (pss_one (ps_ret (pe_orE (c_meth0 (pe_ix ix_tup (pe_fld (pv 0) (by rfl)) pe_int (fun _ _ => rfl)) T.c_At T.m_At_begins (ok_At_begins T) (hr.mono (by omega)) takes0) (c_meth0 (pe_ix ix_tup (pe_fld (pv 0) (by rfl)) pe_int (fun _ _ => rfl)) T.c_Over T.m_Over_begins r_Over_begins (hr.mono (by omega)) takes0)))), ?_⟩
    have hnL := ov_nest hn
    obtain ⟨o1, o2, _, _, _, _, o7⟩ := ov_facts hok
    have nn := momsL_ne o7 o1
    unfold Tr.moms at q
    obtain ⟨dx, kp, as, ha, hk, hA⟩ := (by unfold ShAt at hO; exact hO : ∃ dx kp as, H a = some (.ins (OverC K) dx (overF kp m s_)) ∧ H kp = some (.tup (as.map V.ref)) ∧ ShsAt K H ps as)
    rw [overN_head nn m (by omega)] at q
    cases ps with
    | nil => exact absurd rfl o1
    | cons t ts =>
      rw [momsL_head o7] at q
      unfold ShsAt at hA
      obtain ⟨b, r, rfl, hS, _⟩ := hA
      have aF : atI ((b :: r).map V.ref) 0 = some (.ref b) := atI_nat (j := 0) rfl
      have ok := okL_mem o7 (List.mem_cons_self (a := t) (l := ts))
      have tn := Nat.le_trans (nestL_mem (List.mem_cons_self (a := t) (l := ts))) hnL
      cases t with
      | «at» n =>
        unfold ShAt at hS
        obtain ⟨dy, h2⟩ := id hS
        exact .inl ⟨_, rfl, a, _, dx, _, _, rfl, ha, T.c_Over, T.a_Over_kept, rfl, kp, _, _, _, rfl, rfl, sq_tup hk, aF, b, dy, _, rfl, h2, rfl, b, n, rfl, hS, by unfold Tr.moms at q; exact q⟩
      | ov ps' m' s' =>
        obtain ⟨dy, kp', as', h2, _⟩ := (by unfold ShAt at hS; exact hS : ∃ dx kp as, H b = some (.ins (OverC K) dx (overF kp m' s')) ∧ H kp = some (.tup (as.map V.ref)) ∧ ShsAt K H ps' as)
        exact .inr ⟨_, rfl, a, _, dx, _, _, rfl, ha, T.c_Over, T.a_Over_kept, rfl, kp, _, _, _, rfl, rfl, sq_tup hk, aF, b, dy, _, rfl, h2, rfl, b, ps', m', s', rfl, hS, tn, ok, q⟩
theorem ok_Over_begins {P : Program} {w : World} {K : PySem.W.Frag} {mg : Str → Option Value} {base : Heap} (T : Env K mg) {d L : Nat} (hL : 40 ≤ L) (r_Over_begins : Fc P w K mg base L (He.ma K (He.ga K "Over") "begins") [] (sp_Over_begins K d)) : Fc P w K mg base (L + 1) (He.ma K (He.ga K "Over") "begins") [] (sp_Over_begins K (d + 1)) := by
  obtain ⟨fd, D, F⟩ := fb_Over_begins T hL r_Over_begins
  exact F.all (D.bindsN fun _ _ _ _ _ _ us hl => match us, hl with | [_], _ => rfl)
theorem all_Over_begins {P : Program} {w : World} {K : PySem.W.Frag} {mg : Str → Option Value} {base : Heap} (T : Env K mg) : ∀ d, Fc P w K mg base (40 + 1 * d) (He.ma K (He.ga K "Over") "begins") [] (sp_Over_begins K d)
  | 0 => fc_no fun vs H Q E h => by
    obtain ⟨a, ps, m, s, _, _, h, _⟩ := h
    unfold Tr.nest at h
    omega
  | d + 1 => ok_Over_begins T (Nat.le_add_right 40 _) (all_Over_begins T d)
end
section
theorem sh_ends {K : PySem.W.Frag} {W : WX} {ta : TE} {σ : L2.St} {H : Hp} {Q : VK} {t : Tr} {a : Addr} {d : Nat} (hS : ShAt K H t a) (hok : t.ok) (hn : t.nest ≤ d) (hta : ∀ R : VK, R (.ref a) H → ta σ H R) (q : Q (.int ((t.moms.getLastD 0 : Nat) : Int)) H) : tOrE (tMt (He.ga K "At") "ends" (sp_At_ends K) W ta tNil) (tMt (He.ga K "Over") "ends" (sp_Over_ends K d) W ta tNil) σ H Q := by
  cases t with
  | «at» n =>
    unfold ShAt at hS
    obtain ⟨dy, h2⟩ := id hS
    unfold Tr.moms at q
    exact .inl (hta _ ⟨a, dy, _, rfl, h2, rfl, a, n, rfl, hS, q⟩)
  | ov ps' m' s' =>
    obtain ⟨dy, kp', as', h2, _⟩ := (by unfold ShAt at hS; exact hS : ∃ dx kp as, H a = some (.ins (OverC K) dx (overF kp m' s')) ∧ H kp = some (.tup (as.map V.ref)) ∧ ShsAt K H ps' as)
    exact .inr (hta _ ⟨a, dy, _, rfl, h2, rfl, a, ps', m', s', rfl, hS, hn, hok, q⟩)
theorem sh_begins {K : PySem.W.Frag} {W : WX} {ta : TE} {σ : L2.St} {H : Hp} {Q : VK} {t : Tr} {a : Addr} {d : Nat} (hS : ShAt K H t a) (hok : t.ok) (hn : t.nest ≤ d) (hta : ∀ R : VK, R (.ref a) H → ta σ H R) (q : Q (.int ((t.moms.headD 0 : Nat) : Int)) H) : tOrE (tMt (He.ga K "At") "begins" (sp_At_begins K) W ta tNil) (tMt (He.ga K "Over") "begins" (sp_Over_begins K d) W ta tNil) σ H Q := by
  cases t with
  | «at» n =>
    unfold ShAt at hS
    obtain ⟨dy, h2⟩ := id hS
    unfold Tr.moms at q
    exact .inl (hta _ ⟨a, dy, _, rfl, h2, rfl, a, n, rfl, hS, q⟩)
  | ov ps' m' s' =>
    obtain ⟨dy, kp', as', h2, _⟩ := (by unfold ShAt at hS; exact hS : ∃ dx kp as, H a = some (.ins (OverC K) dx (overF kp m' s')) ∧ H kp = some (.tup (as.map V.ref)) ∧ ShsAt K H ps' as)
    exact .inr (hta _ ⟨a, dy, _, rfl, h2, rfl, a, ps', m', s', rfl, hS, hn, hok, q⟩)
def sp_all_rising (K : PySem.W.Frag) : Sp := fun vs H Q _ => ∃ (p : Addr) (as : List Addr) (ts : List Tr), vs = [.ref p] ∧ H p = some (.tup (as.map V.ref)) ∧ ShsAt K H ts as ∧ nestL ts ≤ 9 ∧ okL_ ts ∧ ts.length ≤ 20000 ∧ ∀ H', Ex H H' → Q (.bl (risB ts)) H'
theorem fb_all_rising {P : Program} {w : World} {K : PySem.W.Frag} {mg : Str → Option Value} {base : Heap} (T : Env K mg) : ∃ fd, FunD K "all_rising" "all_rising" (defArgs s_all_rising) (defBody s_all_rising) (defScope s_all_rising) [] [] (He.ga K "all_rising") fd ∧ Fb P w K mg base 60 (He.ga K "all_rising") fd ["parts"] (sp_all_rising K) := by
  obtain ⟨fd, F⟩ := T.f_all_rising
  refine ⟨fd, F, fb_of F sc_all_rising (fun vs H Q E h => ?_) (fun cdv A outer s H vs Q E hr h => ?_)⟩
  · obtain ⟨p, as, ts, rfl, _⟩ := h
    rfl
  · obtain ⟨p, as, ts, rfl, hp, hA, hn, hok, hl, q⟩ := h
    refine ⟨_, (pss_one (ps_ret (pe_callB (cr_all rfl) (by rfl) T.n_all (by decide +kernel) (pa_cons (pe_lc (own := [("one", 1), ("other", 2)]) (by rfl) sc_all_rising.nd (RZ.pi_zipA (by rfl) T.n_zip (pa_cons (pv 0) (pa_cons (pe_slice sl_tupA (pv 0) (po_some pe_int) po_none) pa_nil))) (blkOk_by (own := [("one", 1), ("other", 2)]) (N := ["parts", "one", "other"]) (sc := defScope s_all_rising) (by decide +kernel)) (fun _ _ _ _ _ => (pg_tupK K (n := 2) rfl (pgs_cons (pg_name (i := 1) sc_all_rising.nd rfl (Or.inl rfl)) (pgs_cons (pg_name (i := 2) sc_all_rising.nd rfl (Or.inl rfl)) pgs_nil)))) (fun _ _ _ _ _ => pts_nil) (fun _ _ _ _ _ => (pe_cmpR op_lt (pe_orE (c_meth0 (pv 1) T.c_At T.m_At_ends (ok_At_ends T) (hr.mono (by decide)) takes0) (c_meth0 (pv 1) T.c_Over T.m_Over_ends (all_Over_ends T 9) (hr.mono (by decide)) takes0)) (pe_orE (c_meth0 (pv 2) T.c_At T.m_At_begins (ok_At_begins T) (hr.mono (by decide)) takes0) (c_meth0 (pv 2) T.c_Over T.m_Over_begins (all_Over_begins T 9) (hr.mono (by decide)) takes0)) (nomark _)))) pa_nil)))), ?_⟩
    refine ⟨_, rfl, _, rfl, _, rfl, ?_⟩
    dsimp only [tNoPart]
    refine slA_of (sq_tup hp) fun b2 H4 X4 hb2 => ?_
    rw [cut1] at hb2
    have ed : (as.map V.ref).drop 1 = (as.drop 1).map V.ref := by rw [List.map_drop]
    rw [ed] at hb2
    have hA4 := hA.mono X4
    have hl1 := hA.len
    have hz1 : (as.zip ts).map (fun p => V.ref p.1) = as.map V.ref := by
      show (as.zip ts).map (V.ref ∘ Prod.fst) = _
      rw [← List.map_map, List.map_fst_zip (by omega)]
    have hz1d : ((as.zip ts).drop 1).map (fun p => V.ref p.1) = (as.drop 1).map V.ref := by rw [List.map_drop, List.map_drop, hz1]
    have hz2 : (as.zip ts).map Prod.snd = ts := List.map_snd_zip (by omega)
    have zl : (as.zip ts).length ≤ 20000 := by rw [List.length_zip]; omega
    have hp4 : H4 p = some (.tup ((as.zip ts).map fun p => V.ref p.1)) := by rw [hz1]; exact X4 _ _ hp
    rw [← hz1d] at hb2
    refine ⟨p, b2, (as.zip ts).map (fun p => V.ref p.1), ((as.zip ts).drop 1).map (fun p => V.ref p.1), rfl, .inr ⟨sq_tup hp4, hb2, fun D nD => lc_zip (as.zip ts) ((as.zip ts).drop 1) (fun p => V.ref p.1) (fun p => V.ref p.1) (walk_zipT rfl) (by rw [List.length_map, List.length_map]) (fun x y => some (.bl (decide (x.2.moms.getLastD 0 < y.2.moms.headD 0)))) (fun H' => Ex H4 H') (fun H' z e => ex_mut e nD) (.refl _) (by omega) (fun H' e => ⟨sq_tup (e _ _ hp4), ex_sqt e hb2⟩) (fun i x y u H5 acc N hx hy X5 nu hD la k => ?_) fun H5 X5 d5 => ?_⟩⟩
    · have hD2 := fun o => ex_new (o := o) nu _ _ hD
      have Z := X5.trans (ex_new (o := .tup [.ref x.1, .ref y.1]) nu)
      rw [List.getElem?_drop] at hy
      obtain ⟨hx1, hx2⟩ := List.getElem?_zip_eq_some.mp hx
      obtain ⟨hy1, hy2⟩ := List.getElem?_zip_eq_some.mp hy
      have gx : ShAt K H4 x.2 x.1 := by
        obtain ⟨t, ht, h⟩ := hA4.get hx1
        rw [hx2] at ht
        cases ht
        exact h
      have gy : ShAt K H4 y.2 y.1 := by
        obtain ⟨t, ht, h⟩ := hA4.get hy1
        rw [hy2] at ht
        cases ht
        exact h
      have mx := List.mem_of_getElem? hx2
      have my := List.mem_of_getElem? hy2
      refine ⟨u, _, rfl, sq_tup upd_same, rfl, _, _, rfl, _, _, rfl, rfl, rfl, ?_⟩
      refine sh_ends (gx.mono Z) (okL_mem hok mx) (Nat.le_trans (nestL_mem mx) hn) (fun R r => ⟨_, rfl, r⟩) ?_
      refine sh_begins (gy.mono Z) (okL_mem hok my) (Nat.le_trans (nestL_mem my) hn) (fun R r => ⟨_, rfl, r⟩) ?_
      refine ⟨_, _, rfl, rfl, acc, hD2 _, la, ?_⟩
      have ei : decide (((x.2.moms.getLastD 0 : Nat) : Int) < ((y.2.moms.headD 0 : Nat) : Int)) = decide (x.2.moms.getLastD 0 < y.2.moms.headD 0) := decide_eq_decide.mpr ⟨fun z => by omega, fun z => by omega⟩
      show N (upd (upd H5 u (.tup [.ref x.1, .ref y.1])) D (.lst (acc ++ [.bl (decide (((x.2.moms.getLastD 0 : Nat) : Int) < ((y.2.moms.headD 0 : Nat) : Int)))])))
      rw [ei]
      exact k _ Z (hD2 _)
    · have ef : ((as.zip ts).zip ((as.zip ts).drop 1)).filterMap (fun p => some (V.bl (decide (p.1.2.moms.getLastD 0 < p.2.2.moms.headD 0)))) = ((ts.zip (ts.drop 1)).map fun p => decide (p.1.moms.getLastD 0 < p.2.moms.headD 0)).map V.bl := by
        rw [List.filterMap_eq_map', List.map_map]
        conv => rhs; rw [← hz2, ← List.map_drop, List.zip_map, List.map_map]
        rfl
      rw [ef] at d5
      refine ⟨D, _, rfl, sq_lst d5, ?_⟩
      rw [List.all_map]
      exact q _ (X4.trans X5)
theorem ok_all_rising {P : Program} {w : World} {K : PySem.W.Frag} {mg : Str → Option Value} {base : Heap} (T : Env K mg) : Fc P w K mg base 60 (He.ga K "all_rising") [] (sp_all_rising K ) := by
  obtain ⟨fd, D, F⟩ := fb_all_rising T
  exact F.all (D.bindsN fun _ _ _ _ _ _ us hl => match us, hl with | [_], _ => rfl)
end
section
/-- at p a list or a tuple -/
def SqA (H : Hp) (p : Addr) (xs : List V) : Prop := H p = some (.lst xs) ∨ H p = some (.tup xs)
def sp_shorts_in (K : PySem.W.Frag) : Sp := fun vs H Q E => ∃ (p : Addr) (as : List Addr) (ts : List Tr), vs = [.ref p] ∧ SqA H p (as.map V.ref) ∧ ShsAt K H ts as ∧ nestL ts ≤ 9 ∧ okL_ ts ∧ ts.length ≤ 20000 ∧ (risB ts = true → ∀ t H', Ex H H' → H' t = some (.tup (as.map V.ref)) → Q (.ref t) H') ∧ (risB ts = false → ∀ H', Ex H H' → E (.ref (He.ga K "NoPiece")) none H')
theorem fb_shorts_in {P : Program} {w : World} {K : PySem.W.Frag} {mg : Str → Option Value} {base : Heap} (T : Env K mg) : ∃ fd, FunD K "shorts_in" "shorts_in" (defArgs s_shorts_in) (defBody s_shorts_in) (defScope s_shorts_in) [] [] (He.ga K "shorts_in") fd ∧ Fb P w K mg base 61 (He.ga K "shorts_in") fd ["parts"] (sp_shorts_in K) := by
  obtain ⟨fd, F⟩ := T.f_shorts_in
  refine ⟨fd, F, fb_of F sc_shorts_in (fun vs H Q E h => ?_) (fun cdv A outer s H vs Q E hr h => ?_)⟩
  · obtain ⟨p, as, ts, rfl, _⟩ := h
    rfl
  · obtain ⟨p, as, ts, rfl, hp, hA, hn, hok, hl, q, qe⟩ := h
    refine ⟨_, (pss_cons (ps_if (pt_not (pt_val (pe_callB call_isiT (by rfl) T.n_isinstance (by decide +kernel) (pa_cons (pv 0) (pa_cons (pe_tup (pa_cons (pe_bltn (v := .ty "list") (by rfl) T.n_list (by decide +kernel) rfl) (pa_cons (pe_bltn (v := .ty "tuple") (by rfl) T.n_tuple (by decide +kernel) rfl) pa_nil))) pa_nil)))))
      (pss_one (ps_raise rfl (takes_of rfl rfl rfl rfl) (pmk_own PySem.F.excBase_ValueError T.x_NoPiece.x T.g_NoPiece T.x_NoPiece.kp (raises_own T.x_NoPiece.sub T.x_NoPiece.ty) rfl)))
      pss_nil)
      (pss_cons (ps_set (i := 1) sc_shorts_in.nd rfl (Or.inl rfl) (pe_callTy call_tuple_of (by rfl) T.n_tuple (by decide +kernel) (pa_cons (pv 0) pa_nil)))
      (pss_cons (ps_if (PW.pt (pw_or (pt_not (pt_val (pe_callB (cr_all rfl) (by rfl) T.n_all (by decide +kernel) (pa_cons (pe_lc (own := [("one", 2)]) (by rfl) sc_shorts_in.nd (pi_tup (pv 1)) (blkOk_by (own := [("one", 2)]) (N := ["parts", "found", "one"]) (sc := defScope s_shorts_in) (by decide +kernel)) (fun _ _ _ _ _ => (pg_name (i := 2) sc_shorts_in.nd rfl (Or.inl rfl))) (fun _ _ _ _ _ => pts_nil) (fun _ _ _ _ _ => (pe_callB (call_isiK K) (by rfl) T.n_isinstance (by decide +kernel) (pa_cons (pv 2) (pa_cons (pe_glob (v := .ref _) (by rfl) T.g_Short rfl) pa_nil))))) pa_nil)))) (pw_or1 (pt_not (pt_val (c_call (ok_all_rising T) (hr.mono (by decide)) T.g_all_rising T.k_all_rising (takes_of rfl rfl rfl rfl) (pa_cons (pv 1) pa_nil)))))))
      (pss_one (ps_raise rfl (takes_of rfl rfl rfl rfl) (pmk_own PySem.F.excBase_ValueError T.x_NoPiece.x T.g_NoPiece T.x_NoPiece.kp (raises_own T.x_NoPiece.sub T.x_NoPiece.ty) rfl)))
      pss_nil)
      (pss_one (ps_ret (pv 1)))))), ?_⟩
    have hl1 := hA.len
    refine ⟨_, rfl, by show 2 ≤ sizeLine; decide, fun tp ntp => ?_⟩
    have X1 := ex_new (o := .tup [.ty "list", .ty "tuple"]) ntp
    have ty : ∃ t, TyX K (upd H tp (.tup [.ty "list", .ty "tuple"])) (.ref p) t ∧ PySem.W.kitAny K t [.type "list", .type "tuple"] = some true := by
      rcases hp with h | h
      · exact ⟨_, .base (.lst (X1 _ _ h)), kitAny_cons (b := true) (kit_ty (by decide +kernel)) (fun z => nomatch z) (fun _ => rfl)⟩
      · exact ⟨_, .base (.tup (X1 _ _ h)), kitAny_cons (b := false) (kit_ty (by decide +kernel)) (fun _ => kitAny_cons (b := true) (kit_ty (by decide +kernel)) (fun z => nomatch z) (fun _ => rfl)) (by decide)⟩
    obtain ⟨t, ty, kt⟩ := ty
    refine ⟨.ref p, tp, _, t, _, true, rfl, upd_same, .cons (.ty "list") (.cons (.ty "tuple") .nil), ty, kt, true, rfl, iteF ?_⟩
    generalize upd H tp (.tup [.ty "list", .ty "tuple"]) = H1 at X1 ty ⊢
    refine ⟨_, rfl, p, as.map V.ref, rfl, ?_⟩
    have rest : ∀ t2 H2, Ex H1 H2 → H2 t2 = some (.tup (as.map V.ref)) → (tSeq (tIfS (tOr (tNot (tB (tCB (rAll K) (tCons (tLc (iTup K (tVar 1)) (gName 2) tYes (tCB (rIsi K) (tCons (tVar 2) (tCons (tC (V.ref (He.ga K "Short"))) tNil))) (List.map (fun x => x.snd) [(Str.ofString "one", 2)])) tNil)))) (tNot (tB (tFc (sp_all_rising K) (fun cls d x H => E cls d H) (tCons (tVar 1) tNil))))) (fun x σ H => (fun cls d H' => E cls d H') (Value.ref (He.ga K "NoPiece")) none H) tNext) (tRet (tVar 1))) { nx := fun _ H' => Q .non H', rt := Q } [some (.ref p), some (.ref t2), none] H2 := fun t2 H2 X2 h2 => by
      have X02 := X1.trans X2
      have hA2 := hA.mono X02
      refine ⟨_, rfl, t2, rfl, ⟨_, sq_tup h2⟩, fun A nA => lc_on as V.ref L2.walk_tup (fun _ => some (.bl true)) (fun H' => Ex H2 H') (fun H' z e => ex_mut e nA) (.refl _) (by omega) (fun H' e => sq_tup (e _ _ h2)) (fun i x H3 acc N hx X3 hD la k => ?_) fun H3 X3 d3 => ?_⟩
      · obtain ⟨t, ht, hS⟩ := hA2.get hx
        have hS3 := hS.mono X3
        cases t with
        | «at» n =>
          unfold ShAt at hS3
          obtain ⟨dx, h1⟩ := hS3
          exact ⟨rfl, _, rfl, .ref x, .ref (He.ga K "Short"), _, _, true, rfl, .own _, ty_ins T.i_At T.c_At h1, T.kit_At_Short, acc, hD, la, k H3 X3 hD⟩
        | ov ps m s =>
          unfold ShAt at hS3
          obtain ⟨dx, kp, as', h1, _⟩ := hS3
          exact ⟨rfl, _, rfl, .ref x, .ref (He.ga K "Short"), _, _, true, rfl, .own _, ty_ins T.i_Over T.c_Over h1, T.kit_Over_Short, acc, hD, la, k H3 X3 hD⟩
      · have ef : as.filterMap (fun _ => some (V.bl true)) = (List.replicate as.length true).map V.bl := by
          rw [List.map_replicate, ← List.map_const', List.filterMap_eq_map']
        rw [ef] at d3
        refine ⟨A, _, rfl, sq_lst d3, ?_⟩
        rw [all_repT]
        refine ⟨true, rfl, iteF ?_⟩
        refine ⟨_, rfl, t2, as, ts, rfl, X3 _ _ h2, hA2.mono X3, hn, hok, hl, fun H4 X4 => ⟨_, rfl, ?_⟩⟩
        cases hr2 : risB ts with
        | true =>
          refine iteF ?_
          exact ⟨_, rfl, q hr2 t2 H4 (X02.trans (X3.trans X4)) ((X3.trans X4) _ _ h2)⟩
        | false => exact iteT (qe hr2 H4 (X02.trans (X3.trans X4)))
    rcases hp with h | h
    · exact .inl ⟨sq_lst (X1 _ _ h), fun t2 nt2 => rest t2 _ (ex_new nt2) upd_same⟩
    · exact .inr ⟨sq_tup (X1 _ _ h), rest p _ (.refl _) (X1 _ _ h)⟩
theorem ok_shorts_in {P : Program} {w : World} {K : PySem.W.Frag} {mg : Str → Option Value} {base : Heap} (T : Env K mg) : Fc P w K mg base 61 (He.ga K "shorts_in") [] (sp_shorts_in K ) := by
  obtain ⟨fd, D, F⟩ := fb_shorts_in T
  exact F.all (D.bindsN fun _ _ _ _ _ _ us hl => match us, hl with | [_], _ => rfl)
end
section
def sp_At_moments (K : PySem.W.Frag) : Sp := fun vs H Q _ => ∃ a n, vs = [.ref a] ∧ AtAt K H a n ∧ ∀ p, H p = none → Q (.ref p) (upd H p (.lst [.int (n : Nat)]))
theorem fb_At_moments {P : Program} {w : World} {K : PySem.W.Frag} {mg : Str → Option Value} {base : Heap} (T : Env K mg) : ∃ fd, FunD K "moments" "At.moments" (defArgs s_At_moments) (defBody s_At_moments) (defScope s_At_moments) [] [] (He.ma K (He.ga K "At") "moments") fd ∧ Fb P w K mg base 1 (He.ma K (He.ga K "At") "moments") fd ["self"] (sp_At_moments K) := by
  obtain ⟨fd, F⟩ := T.f_At_moments
  refine ⟨fd, F, fb_of F sc_At_moments (fun vs H Q E h => ?_) (fun cdv A outer s H vs Q E hr h => ?_)⟩
  · obtain ⟨a, n, rfl, _⟩ := h
    rfl
  · obtain ⟨a, n, rfl, ⟨dx, ha⟩, q⟩ := h
    refine ⟨_, (pss_one (ps_ret (pe_lst (pa_cons (pe_fld (pv 0) (by rfl)) pa_nil)))), ?_⟩
    exact ⟨_, rfl, a, _, dx, _, _, rfl, ha, T.c_At, T.a_At_moment, rfl, by show 1 ≤ sizeLine; decide, q⟩
theorem ok_At_moments {P : Program} {w : World} {K : PySem.W.Frag} {mg : Str → Option Value} {base : Heap} (T : Env K mg) : Fc P w K mg base 1 (He.ma K (He.ga K "At") "moments") [] (sp_At_moments K ) := by
  obtain ⟨fd, D, F⟩ := fb_At_moments T
  exact F.all (D.bindsN fun _ _ _ _ _ _ us hl => match us, hl with | [_], _ => rfl)
end
section
def sp_row_moments (K : PySem.W.Frag) (d : Nat) : Sp := fun vs H Q _ => ∃ (p : Addr) (as : List Addr) (ts : List Tr), vs = [.ref p] ∧ H p = some (.tup (as.map V.ref)) ∧ ShsAt K H ts as ∧ nestL ts ≤ d ∧ okL_ ts ∧ (momsL ts).length ≤ 1440 ∧ ∀ t H', Ex H H' → H t = none → H' t = some (.lst (natV (momsL ts))) → Q (.ref t) H'
theorem fb_row_moments {P : Program} {w : World} {K : PySem.W.Frag} {mg : Str → Option Value} {base : Heap} (T : Env K mg) {d L : Nat} (hL : 40 ≤ L) (r_Over_moments : Fc P w K mg base L (He.ma K (He.ga K "Over") "moments") [] (sp_Over_moments K d)) : ∃ fd, FunD K "row_moments" "row_moments" (defArgs s_row_moments) (defBody s_row_moments) (defScope s_row_moments) [] [] (He.ga K "row_moments") fd ∧ Fb P w K mg base (L + 1) (He.ga K "row_moments") fd ["parts"] (sp_row_moments K (d)) := by
  obtain ⟨fd, F⟩ := T.f_row_moments
  refine ⟨fd, F, fb_of F sc_row_moments (fun vs H Q E h => ?_) (fun cdv A outer s H vs Q E hr h => ?_)⟩
  · obtain ⟨p, as, ts, rfl, _⟩ := h
    rfl
  · obtain ⟨p, as, ts, rfl, hp, hA, hn, hok, hl, q⟩ := h
    refine ⟨_, (pss_cons (ps_set (i := 1) sc_row_moments.nd rfl (Or.inl rfl) (pe_lst pa_nil))
      (pss_cons (ps_for (passes_of rfl) rfl (pi_tup (pv 0)) (pg_name (i := 2) sc_row_moments.nd rfl (Or.inl rfl))
      (pss_one (ps_expr (pe_bm PySem.F.plainAttrs_list PySem.F.slot_list_extend PySem.F.type_list_extend mt_extend (pv 1) (pa_cons (pe_orE (c_meth0 (pv 2) T.c_At T.m_At_moments (ok_At_moments T) (hr.mono (by omega)) takes0) (c_meth0 (pv 2) T.c_Over T.m_Over_moments r_Over_moments (hr.mono (by omega)) takes0)) pa_nil)))))
      (pss_one (ps_ret (pv 1))))), ?_⟩
    refine ⟨by show 0 ≤ sizeLine; decide, fun f nf => ?_⟩
    have X0 := ex_new (o := .lst []) nf
    have hl1 := hA.len
    have pf : p ≠ f := ne_of_none hp nf
    refine ⟨_, rfl, p, rfl, ⟨_, sq_tup (X0 _ _ hp)⟩, for_on as V.ref L2.walk_tup (fun i σ H' => Oth f H H' ∧ ∃ v2, σ = [some (.ref p), some (.ref f), v2] ∧ H' f = some (.lst (natV (momsL (ts.take i))))) ⟨ex_oth X0, _, rfl, upd_same⟩ (fun i σ H' z => sq_tup (z.1 _ _ pf hp)) ?_ ?_⟩
    · rintro i a σ H2 hx ⟨O2, v2, rfl, hf⟩
      obtain ⟨t, ht, hS⟩ := hA.get hx
      have htm := List.mem_of_getElem? ht
      have X2 : Ex H H2 := fun b o e => O2 b o (ne_of_none e nf) e
      have eT := momsL_take ht
      have bT := momsL_take_len ts (i + 1)
      rw [eT, List.length_append] at bT
      have hS2 := hS.mono X2
      have fin : ∀ (u : Addr) (H3 : Hp), Ex H2 H3 → H3 u = some (.lst (natV t.moms)) → rExtend (.ref f) [.ref u] H3 (fun _ H' => Oth f H H' ∧ ∃ v2', [some (V.ref p), some (V.ref f), some (V.ref a)] = [some (.ref p), some (.ref f), v2'] ∧ H' f = some (.lst (natV (momsL (ts.take (i + 1)))))) := fun u H3 X3 hu => by
        refine ⟨f, u, _, _, rfl, rfl, X3 _ _ hf, hu, sz_le (by rw [natV_len, natV_len]; omega), (O2.trans (ex_oth X3)).upd, _, rfl, ?_⟩
        rw [upd_same, eT]
        unfold natV
        rw [List.map_append]
      refine ⟨_, rfl, .inl ⟨rfl, _, sq_lst hf⟩, ?_⟩
      cases t with
      | «at» n =>
        unfold ShAt at hS2
        obtain ⟨dx, h2⟩ := id hS2
        exact .inl ⟨_, rfl, a, dx, _, rfl, h2, rfl, a, n, rfl, hS2, fun u nu => fin u _ (ex_new nu) (by rw [upd_same]; unfold Tr.moms; rfl)⟩
      | ov ps m s =>
        obtain ⟨dx, kp, as', h2, _⟩ := (by unfold ShAt at hS2; exact hS2 : ∃ dx kp as, H2 a = some (.ins (OverC K) dx (overF kp m s)) ∧ H2 kp = some (.tup (as.map V.ref)) ∧ ShsAt K H2 ps as)
        exact .inr ⟨_, rfl, a, dx, _, rfl, h2, rfl, a, ps, m, s, rfl, hS2, Nat.le_trans (nestL_mem htm) hn, okL_mem hok htm, fun u H3 X3 nu hu => fin u H3 X3 hu⟩
    · rintro σ H2 ⟨O2, v2, rfl, hf⟩
      rw [List.take_of_length_le (by omega)] at hf
      exact ⟨_, rfl, q f H2 (fun b o e => O2 b o (ne_of_none e nf) e) nf hf⟩
theorem ok_row_moments {P : Program} {w : World} {K : PySem.W.Frag} {mg : Str → Option Value} {base : Heap} (T : Env K mg) {d L : Nat} (hL : 40 ≤ L) (r_Over_moments : Fc P w K mg base L (He.ma K (He.ga K "Over") "moments") [] (sp_Over_moments K d)) : Fc P w K mg base (L + 1) (He.ga K "row_moments") [] (sp_row_moments K (d)) := by
  obtain ⟨fd, D, F⟩ := fb_row_moments T hL r_Over_moments
  exact F.all (D.bindsN fun _ _ _ _ _ _ us hl => match us, hl with | [_], _ => rfl)
end
section
def sp_At_means_many (K : PySem.W.Frag) : Sp := fun vs H Q _ => ∃ a n, vs = [.ref a] ∧ AtAt K H a n ∧ Q (.int 1) H
theorem fb_At_means_many {P : Program} {w : World} {K : PySem.W.Frag} {mg : Str → Option Value} {base : Heap} (T : Env K mg) : ∃ fd, FunD K "means_many" "At.means_many" (defArgs s_At_means_many) (defBody s_At_means_many) (defScope s_At_means_many) [] [] (He.ma K (He.ga K "At") "means_many") fd ∧ Fb P w K mg base 1 (He.ma K (He.ga K "At") "means_many") fd ["self"] (sp_At_means_many K) := by
  obtain ⟨fd, F⟩ := T.f_At_means_many
  refine ⟨fd, F, fb_of F sc_At_means_many (fun vs H Q E h => ?_) (fun cdv A outer s H vs Q E hr h => ?_)⟩
  · obtain ⟨a, n, rfl, _⟩ := h
    rfl
  · obtain ⟨a, n, rfl, ⟨dx, ha⟩, q⟩ := h
    refine ⟨_, (pss_one (ps_ret pe_int)), ?_⟩
    exact q
theorem ok_At_means_many {P : Program} {w : World} {K : PySem.W.Frag} {mg : Str → Option Value} {base : Heap} (T : Env K mg) : Fc P w K mg base 1 (He.ma K (He.ga K "At") "means_many") [] (sp_At_means_many K ) := by
  obtain ⟨fd, D, F⟩ := fb_At_means_many T
  exact F.all (D.bindsN fun _ _ _ _ _ _ us hl => match us, hl with | [_], _ => rfl)
end
section
theorem range_opt {α : Type} (ts : List α) (f : α → V) : (List.range ts.length).filterMap (fun i => (ts[i]?).map f) = ts.map f := by
  induction ts with
  | nil => rfl
  | cons t r ih =>
    rw [List.length_cons, List.range_succ_eq_map, List.filterMap_cons, List.filterMap_map]
    show f t :: List.filterMap (fun i => (r[i]?).map f) (List.range r.length) = f t :: r.map f
    rw [ih]
theorem sum_many : ∀ ts : List Tr, (ts.map fun t => ((t.moms.length : Nat) : Int)).sum = (((momsL ts).length : Nat) : Int)
  | [] => rfl
  | t :: r => by
    rw [List.map_cons, List.sum_cons, sum_many r]
    have e : momsL (t :: r) = t.moms ++ momsL r := by simp [momsL]
    rw [e, List.length_append]
    omega
def sp_row_many (K : PySem.W.Frag) (d : Nat) : Sp := fun vs H Q _ => ∃ (p : Addr) (as : List Addr) (ts : List Tr), vs = [.ref p] ∧ H p = some (.tup (as.map V.ref)) ∧ ShsAt K H ts as ∧ nestL ts ≤ d ∧ okL_ ts ∧ ts.length ≤ 20000 ∧ ∀ H', Ex H H' → Q (.int (((momsL ts).length : Nat) : Int)) H'
theorem fb_row_many {P : Program} {w : World} {K : PySem.W.Frag} {mg : Str → Option Value} {base : Heap} (T : Env K mg) {d L : Nat} (hL : 40 ≤ L) (r_Over_means_many : Fc P w K mg base L (He.ma K (He.ga K "Over") "means_many") [] (sp_Over_means_many K d)) : ∃ fd, FunD K "row_many" "row_many" (defArgs s_row_many) (defBody s_row_many) (defScope s_row_many) [] [] (He.ga K "row_many") fd ∧ Fb P w K mg base (L + 1) (He.ga K "row_many") fd ["parts"] (sp_row_many K (d)) := by
  obtain ⟨fd, F⟩ := T.f_row_many
  refine ⟨fd, F, fb_of F sc_row_many (fun vs H Q E h => ?_) (fun cdv A outer s H vs Q E hr h => ?_)⟩
  · obtain ⟨p, as, ts, rfl, _⟩ := h
    rfl
  · obtain ⟨p, as, ts, rfl, hp, hA, hn, hok, hl, q⟩ := h
    refine ⟨_, (pss_one (ps_ret (pe_callB (cr_sum rfl) (by rfl) T.n_sum (by decide +kernel) (pa_cons (pe_lc (own := [("one", 1)]) (by rfl) sc_row_many.nd (pi_tup (pv 0)) (blkOk_by (own := [("one", 1)]) (N := ["parts", "one"]) (sc := defScope s_row_many) (by decide +kernel)) (fun _ _ _ _ _ => (pg_name (i := 1) sc_row_many.nd rfl (Or.inl rfl))) (fun _ _ _ _ _ => pts_nil) (fun _ _ _ _ _ => (pe_orE (c_meth0 (pv 1) T.c_At T.m_At_means_many (ok_At_means_many T) (hr.mono (by omega)) takes0) (c_meth0 (pv 1) T.c_Over T.m_Over_means_many r_Over_means_many (hr.mono (by omega)) takes0)))) pa_nil)))), ?_⟩
    have hl1 := hA.len
    have hl2 := len_moms hok
    refine ⟨_, rfl, p, rfl, ⟨_, sq_tup hp⟩, fun A nA => lc_fm L2.walk_tup (fun i => (ts[i]?).map fun t => .int ((t.moms.length : Nat) : Int)) (fun H' => Ex H H') (fun H' z e => ex_mut e nA) (.refl _) (by rw [List.length_map]; omega) (fun H' e => sq_tup (e _ _ hp)) (fun i x H2 H3 acc N hi e hD la y k => ?_) fun H3 X3 d3 => ?_⟩
    · obtain ⟨rfl, y⟩ := y
      rw [List.getElem?_map] at y
      obtain ⟨a, ha, rfl⟩ := Option.map_eq_some_iff.mp y
      obtain ⟨t, ht, hS⟩ := hA.get ha
      have htm := List.mem_of_getElem? ht
      have hS2 := hS.mono e
      have k2 := fun H4 (X4 : Ex H3 H4) => k H4 (e.trans X4) (X4 _ _ hD)
      rw [ht] at k2
      have ok := okL_mem hok htm
      cases t with
      | «at» n =>
        unfold ShAt at hS2
        obtain ⟨dx, h2⟩ := id hS2
        exact ⟨rfl, .inl ⟨_, rfl, a, dx, _, rfl, h2, rfl, a, n, rfl, hS2, acc, hD, la, k2 H3 (.refl _)⟩⟩
      | ov ps m s =>
        obtain ⟨dx, kp, as', h2, _⟩ := (by unfold ShAt at hS2; exact hS2 : ∃ dx kp as, H3 a = some (.ins (OverC K) dx (overF kp m s)) ∧ H3 kp = some (.tup (as.map V.ref)) ∧ ShsAt K H3 ps as)
        obtain ⟨_, _, _, _, o5', _, o7⟩ := ov_facts ok
        have o5 : ps.length ≤ 20000 := by omega
        refine ⟨rfl, .inr ⟨_, rfl, a, dx, _, rfl, h2, rfl, a, ps, m, s, rfl, hS2, Nat.le_trans (nestL_mem htm) hn, o7, o5, fun H4 X4 => ⟨acc, X4 _ _ hD, la, ?_⟩⟩⟩
        have k3 : N (upd H4 A (.lst (acc ++ [.int (((Tr.ov ps m s).moms.length : Nat) : Int)]))) := k2 H4 X4
        rw [show (Tr.ov ps m s).moms.length = m * (momsL ps).length from by unfold Tr.moms; exact overN_len _ _ _] at k3
        exact k3
    · rw [List.length_map, hl1, range_opt ts (fun t => V.int ((t.moms.length : Nat) : Int))] at d3
      have e1 : ts.map (fun t => V.int ((t.moms.length : Nat) : Int)) = (ts.map fun t => ((t.moms.length : Nat) : Int)).map V.int := by
        rw [List.map_map]
        rfl
      rw [e1] at d3
      refine ⟨A, _, rfl, sq_lst d3, ?_⟩
      rw [sum_many]
      exact q _ X3
theorem ok_row_many {P : Program} {w : World} {K : PySem.W.Frag} {mg : Str → Option Value} {base : Heap} (T : Env K mg) {d L : Nat} (hL : 40 ≤ L) (r_Over_means_many : Fc P w K mg base L (He.ma K (He.ga K "Over") "means_many") [] (sp_Over_means_many K d)) : Fc P w K mg base (L + 1) (He.ga K "row_many") [] (sp_row_many K (d)) := by
  obtain ⟨fd, D, F⟩ := fb_row_many T hL r_Over_means_many
  exact F.all (D.bindsN fun _ _ _ _ _ _ us hl => match us, hl with | [_], _ => rfl)
end
section
def rowT (ws : List (List Nat)) : List Nat := if ws = [] then [45] else TL.joinL [44, 32] ws
mutual
/-- a short as it is written -/
def Tr.txt : Tr → List Nat
  | .at n => Mo.shw n
  | .ov ps m s => [40] ++ rowT (txtL ps) ++ [41, 32, 120] ++ TL.numL m ++ [32, 43] ++ TL.numL s
def txtL : List Tr → List (List Nat)
  | [] => []
  | t :: ts => t.txt :: txtL ts
end
mutual
def Tr.fit : Tr → Prop
  | .at n => n < 10 ^ 255
  | .ov ps m s => m < 10 ^ 255 ∧ s < 10 ^ 255 ∧ fitL ps
def fitL : List Tr → Prop
  | [] => True
  | t :: ts => t.fit ∧ fitL ts
end
theorem txtL_map (ts : List Tr) : txtL ts = ts.map Tr.txt := by
  induction ts with
  | nil => simp [txtL]
  | cons t r ih => simp [txtL, ih]
theorem fitL_mem {t : Tr} : ∀ {ts : List Tr}, fitL ts → t ∈ ts → t.fit
  | x :: r, h, hm => by
    unfold fitL at h
    rcases List.mem_cons.mp hm with rfl | hm
    · exact h.1
    · exact fitL_mem h.2 hm
theorem pcsL_mem {t : Tr} : ∀ {ts : List Tr}, t ∈ ts → t.pcs ≤ pcsL ts
  | x :: r, hm => by
    unfold pcsL
    rcases List.mem_cons.mp hm with rfl | hm
    · omega
    · have := pcsL_mem hm
      omega
theorem pcs_pos (t : Tr) : 1 ≤ t.pcs := by
  cases t <;> unfold Tr.pcs <;> omega
theorem len_pcsL (ts : List Tr) : ts.length ≤ pcsL ts := by
  induction ts with
  | nil => exact Nat.zero_le _
  | cons t r ih =>
    have := pcs_pos t
    unfold pcsL
    rw [List.length_cons]
    omega
mutual
theorem txt_len : ∀ {t : Tr}, t.fit → t.txt.length + 2 ≤ 600 * t.pcs
  | .at n, h => by
    unfold Tr.fit at h
    have := Mo.shw_len (by decide) h
    unfold Tr.txt Tr.pcs
    omega
  | .ov ps m s, h => by
    unfold Tr.fit at h
    obtain ⟨h1, h2, h3⟩ := h
    have l1 := TL.numL_len (by decide) h1
    have l2 := TL.numL_len (by decide) h2
    have l3 := row_len h3
    have l4 : (rowT (txtL ps)).length ≤ 600 * pcsL ps + 1 := by
      unfold rowT
      split
      · show 1 ≤ _
        omega
      · omega
    unfold Tr.txt Tr.pcs
    simp only [List.length_append, List.length_cons, List.length_nil]
    omega
theorem row_len : ∀ {ts : List Tr}, fitL ts → (TL.joinL [44, 32] (txtL ts)).length ≤ 600 * pcsL ts
  | [], _ => by
    unfold txtL
    exact Nat.zero_le _
  | [t], h => by
    unfold fitL at h
    have := txt_len h.1
    have e : txtL [t] = [t.txt] := by simp [txtL]
    rw [e]
    show t.txt.length ≤ _
    have e2 : pcsL [t] = t.pcs := by simp [pcsL]
    omega
  | t :: x :: r, h => by
    unfold fitL at h
    have h1 := txt_len h.1
    have h2 := row_len h.2
    have e : txtL (t :: x :: r) = t.txt :: x.txt :: txtL r := by simp [txtL]
    have e3 : txtL (x :: r) = x.txt :: txtL r := by simp [txtL]
    rw [e3] at h2
    rw [e]
    show (t.txt ++ ([44, 32] ++ TL.joinL [44, 32] (x.txt :: txtL r))).length ≤ _
    have e2 : pcsL (t :: x :: r) = t.pcs + pcsL (x :: r) := by rw [pcsL]
    simp only [List.length_append, List.length_cons, List.length_nil]
    omega
end
theorem rowT_len {ts : List Tr} (h : fitL ts) : (rowT (txtL ts)).length ≤ 600 * pcsL ts + 1 := by
  have := row_len h
  unfold rowT
  split
  · show 1 ≤ _
    omega
  · omega
theorem sum_txt : ∀ {ts : List Tr}, fitL ts → ((txtL ts).map (·.length)).sum + 2 * ts.length ≤ 600 * pcsL ts
  | [], _ => by simp [txtL, pcsL]
  | t :: r, h => by
    unfold fitL at h
    have h1 := txt_len h.1
    have h2 := sum_txt h.2
    unfold txtL pcsL
    simp only [List.map_cons, List.sum_cons, List.length_cons]
    omega
def sp_Over_str (K : PySem.W.Frag) (d : Nat) : Sp := fun vs H Q _ => ∃ a ps m s, vs = [.ref a] ∧ ShAt K H (.ov ps m s) a ∧ (Tr.ov ps m s).nest ≤ d ∧ (Tr.ov ps m s).fit ∧ (Tr.ov ps m s).pcs ≤ 10000 ∧ ∀ H', Ex H H' → Q (.str (SX.S (Tr.ov ps m s).txt)) H'
end
section
def sp_At_str (K : PySem.W.Frag) : Sp := fun vs H Q _ => ∃ a n, vs = [.ref a] ∧ AtAt K H a n ∧ n < 10 ^ 255 ∧ ∀ H', Ex H H' → Q (.str (SX.S (Mo.shw n))) H'
theorem fb_At_str {P : Program} {w : World} {K : PySem.W.Frag} {mg : Str → Option Value} {base : Heap} (T : Env K mg) : ∃ fd, FunD K "__str__" "At.__str__" (defArgs s_At_str) (defBody s_At_str) (defScope s_At_str) [] [] (He.ma K (He.ga K "At") "__str__") fd ∧ Fb P w K mg base 6 (He.ma K (He.ga K "At") "__str__") fd ["self"] (sp_At_str K) := by
  obtain ⟨fd, F⟩ := T.f_At_str
  refine ⟨fd, F, fb_of F sc_At_str (fun vs H Q E h => ?_) (fun cdv A outer s H vs Q E hr h => ?_)⟩
  · obtain ⟨a, n, rfl, _⟩ := h
    rfl
  · obtain ⟨a, n, rfl, ⟨dx, ha⟩, hn, q⟩ := h
    refine ⟨_, (pss_one (ps_ret (pe_joined1 (pe_fmt (c_call (ok_show_moment T) (hr.mono (by decide)) T.g_show_moment T.k_show_moment takes0 (pa_cons (pe_fld (pv 0) (by rfl)) pa_nil)))))), ?_⟩
    have hl := Mo.shw_len (by decide) hn

    refine ⟨_, rfl, _, _, _, _, _, rfl, ha, T.c_At, T.a_At_moment, rfl, ?_⟩
    dsimp only [tNil]
    refine sm_good hn fun H1 X1 => ?_
    refine .inl ⟨_, rfl, sz_le (by rw [SX.S_len]; omega), q H1 X1⟩
theorem ok_At_str {P : Program} {w : World} {K : PySem.W.Frag} {mg : Str → Option Value} {base : Heap} (T : Env K mg) : Fc P w K mg base 6 (He.ma K (He.ga K "At") "__str__") [] (sp_At_str K ) := by
  obtain ⟨fd, D, F⟩ := fb_At_str T
  exact F.all (D.bindsN fun _ _ _ _ _ _ us hl => match us, hl with | [_], _ => rfl)
end
section
def sp_row_text (K : PySem.W.Frag) (d : Nat) : Sp := fun vs H Q _ => ∃ (p : Addr) (as : List Addr) (ts : List Tr), vs = [.ref p] ∧ H p = some (.tup (as.map V.ref)) ∧ ShsAt K H ts as ∧ nestL ts ≤ d ∧ fitL ts ∧ pcsL ts ≤ 10000 ∧ ∀ H', Ex H H' → Q (.str (SX.S (rowT (txtL ts)))) H'
theorem fb_row_text {P : Program} {w : World} {K : PySem.W.Frag} {mg : Str → Option Value} {base : Heap} (T : Env K mg) {d L : Nat} (hL : 40 ≤ L) (r_Over_str : Fc P w K mg base L (He.ma K (He.ga K "Over") "__str__") [] (sp_Over_str K d)) : ∃ fd, FunD K "row_text" "row_text" (defArgs s_row_text) (defBody s_row_text) (defScope s_row_text) [] [] (He.ga K "row_text") fd ∧ Fb P w K mg base (L + 3) (He.ga K "row_text") fd ["parts"] (sp_row_text K (d)) := by
  obtain ⟨fd, F⟩ := T.f_row_text
  refine ⟨fd, F, fb_of F sc_row_text (fun vs H Q E h => ?_) (fun cdv A outer s H vs Q E hr h => ?_)⟩
  · obtain ⟨p, as, ts, rfl, _⟩ := h
    rfl
  · obtain ⟨p, as, ts, rfl, hp, hA, hn, hf, hc, q⟩ := h
    refine ⟨_, (pss_cons (ps_if (pt_cmpR op_eq (pe_callB call_len (by rfl) T.n_len (by decide +kernel) (pa_cons (pv 0) pa_nil)) pe_int (nomark _))
      (pss_one (ps_ret (pe_k T.v_NO_PARTS)))
      pss_nil)
      (pss_one (ps_ret (pe_join pe_str (pe_lc (own := [("one", 1)]) (by rfl) sc_row_text.nd (pi_tup (pv 0)) (blkOk_by (own := [("one", 1)]) (N := ["parts", "one"]) (sc := defScope s_row_text) (by decide +kernel)) (fun _ _ _ _ _ => (pg_name (i := 1) sc_row_text.nd rfl (Or.inl rfl))) (fun _ _ _ _ _ => pts_nil) (fun _ _ _ _ _ => (pe_orE (pe_callTy (call_strO T.m_At_str (ok_At_str T) (hr.mono (by omega))) (by rfl) T.n_str (by decide +kernel) (pa_cons (pv 1) pa_nil)) (pe_callTy (call_strO T.m_Over_str r_Over_str (hr.mono (by omega))) (by rfl) T.n_str (by decide +kernel) (pa_cons (pv 1) pa_nil))))))))), ?_⟩
    have hl1 := hA.len
    have hl2 := len_pcsL ts
    refine ⟨_, rfl, _, _, rfl, (.inr ⟨_, ⟨(sq_tup hp), rfl⟩⟩), rfl, _, rfl, ?_⟩
    by_cases h0 : ts = []
    · refine ifP (by rw [List.length_map, hl1, h0]; rfl) ?_
      rw [h0] at q
      exact q H (.refl _)
    · refine ifN (by rw [List.length_map, hl1]; exact vint_ne (by have := List.length_pos_iff.mpr h0; omega)) ?_
      refine ⟨⟨_, rfl⟩, _, rfl, _, rfl, ⟨_, (sq_tup hp)⟩, fun A nA => lc_fm L2.walk_tup (fun i => (ts[i]?).map fun t => .str (SX.S t.txt)) (fun H' => Ex H H') (fun H' z e => ex_mut e nA) (.refl _) (by rw [List.length_map]; omega) (fun H' e => sq_tup (e _ _ hp)) (fun i x H2 H3 acc N hi e hD la y k => ?_) fun H3 X3 d3 => ?_⟩
      · obtain ⟨rfl, y⟩ := y
        rw [List.getElem?_map] at y
        obtain ⟨b, hb, rfl⟩ := Option.map_eq_some_iff.mp y
        obtain ⟨t, ht, hS⟩ := hA.get hb
        have htm := List.mem_of_getElem? ht
        have hS2 := hS.mono e
        have k2 := fun H4 (X4 : Ex H3 H4) => k H4 (e.trans X4) (X4 _ _ hD)
        rw [ht] at k2
        have ft := fitL_mem hf htm
        have pt := pcsL_mem htm
        have nt := nestL_mem htm
        cases t with
        | «at» n =>
          unfold ShAt at hS2
          obtain ⟨dy, h2⟩ := id hS2
          unfold Tr.fit at ft
          refine ⟨rfl, .inl ⟨_, rfl, _, dy, _, rfl, h2, b, n, rfl, hS2, ft, fun H4 X4 => ⟨trivial, acc, X4 _ _ hD, la, ?_⟩⟩⟩
          unfold Tr.txt at k2
          exact k2 H4 X4
        | ov ps' m' s' =>
          obtain ⟨dy, kp', as', h2, _⟩ := (by unfold ShAt at hS2; exact hS2 : ∃ dx kp as, H3 b = some (.ins (OverC K) dx (overF kp m' s')) ∧ H3 kp = some (.tup (as.map V.ref)) ∧ ShsAt K H3 ps' as)
          exact ⟨rfl, .inr ⟨_, rfl, b, dy, _, rfl, h2, b, ps', m', s', rfl, hS2, by omega, ft, by omega, fun H4 X4 => ⟨trivial, acc, X4 _ _ hD, la, k2 H4 X4⟩⟩⟩
      · rw [List.length_map, hl1, range_opt ts (fun t => V.str (SX.S t.txt))] at d3
        have e1 : ts.map (fun t => V.str (SX.S t.txt)) = ((txtL ts).map SX.S).map V.str := by
          rw [txtL_map, List.map_map, List.map_map]
          rfl
        rw [e1] at d3
        have sl := sum_txt hf
        refine ⟨_, A, _, rfl, rfl, .inl (sq_lst d3), ?_, ?_⟩
        · rw [SX.lens, List.length_map, txtL_map, List.length_map]
          rw [txtL_map] at sl
          have z : (Str.ofString ", ").length = 2 := rfl
          rw [z]
          omega
        · rw [show Str.ofString ", " = SX.S [44, 32] from rfl, SX.join_S]
          have e2 : rowT (txtL ts) = TL.joinL [44, 32] (txtL ts) := if_neg (by rw [txtL_map]; intro z; exact h0 (List.map_eq_nil_iff.mp z))
          rw [e2] at q
          exact q H3 X3
theorem ok_row_text {P : Program} {w : World} {K : PySem.W.Frag} {mg : Str → Option Value} {base : Heap} (T : Env K mg) {d L : Nat} (hL : 40 ≤ L) (r_Over_str : Fc P w K mg base L (He.ma K (He.ga K "Over") "__str__") [] (sp_Over_str K d)) : Fc P w K mg base (L + 3) (He.ga K "row_text") [] (sp_row_text K (d)) := by
  obtain ⟨fd, D, F⟩ := fb_row_text T hL r_Over_str
  exact F.all (D.bindsN fun _ _ _ _ _ _ us hl => match us, hl with | [_], _ => rfl)
end
section
def sp_At_nested (K : PySem.W.Frag) : Sp := fun vs H Q _ => ∃ a n, vs = [.ref a] ∧ AtAt K H a n ∧ Q (.int 0) H
theorem fb_At_nested {P : Program} {w : World} {K : PySem.W.Frag} {mg : Str → Option Value} {base : Heap} (T : Env K mg) : ∃ fd, FunD K "nested" "At.nested" (defArgs s_At_nested) (defBody s_At_nested) (defScope s_At_nested) [] [] (He.ma K (He.ga K "At") "nested") fd ∧ Fb P w K mg base 1 (He.ma K (He.ga K "At") "nested") fd ["self"] (sp_At_nested K) := by
  obtain ⟨fd, F⟩ := T.f_At_nested
  refine ⟨fd, F, fb_of F sc_At_nested (fun vs H Q E h => ?_) (fun cdv A outer s H vs Q E hr h => ?_)⟩
  · obtain ⟨a, n, rfl, _⟩ := h
    rfl
  · obtain ⟨a, n, rfl, ⟨dx, ha⟩, q⟩ := h
    refine ⟨_, (pss_one (ps_ret pe_int)), ?_⟩
    exact q
theorem ok_At_nested {P : Program} {w : World} {K : PySem.W.Frag} {mg : Str → Option Value} {base : Heap} (T : Env K mg) : Fc P w K mg base 1 (He.ma K (He.ga K "At") "nested") [] (sp_At_nested K ) := by
  obtain ⟨fd, D, F⟩ := fb_At_nested T
  exact F.all (D.bindsN fun _ _ _ _ _ _ us hl => match us, hl with | [_], _ => rfl)
end
section
theorem fb_Over_means_many {P : Program} {w : World} {K : PySem.W.Frag} {mg : Str → Option Value} {base : Heap} (T : Env K mg) {d L : Nat} (hL : 40 ≤ L) (r_Over_means_many : Fc P w K mg base L (He.ma K (He.ga K "Over") "means_many") [] (sp_Over_means_many K d)) : ∃ fd, FunD K "means_many" "Over.means_many" (defArgs s_Over_means_many) (defBody s_Over_means_many) (defScope s_Over_means_many) [] [] (He.ma K (He.ga K "Over") "means_many") fd ∧ Fb P w K mg base (L + 2) (He.ma K (He.ga K "Over") "means_many") fd ["self"] (sp_Over_means_many K (d + 1)) := by
  obtain ⟨fd, F⟩ := T.f_Over_means_many
  refine ⟨fd, F, fb_of F sc_Over_means_many (fun vs H Q E h => ?_) (fun cdv A outer s H vs Q E hr h => ?_)⟩
  · obtain ⟨a, ps, m, s, rfl, _⟩ := h
    rfl
  · obtain ⟨a, ps, m, s_, rfl, hO, hn, hok, hl, q⟩ := h
    refine ⟨_, (pss_one (ps_ret (pe_op op_mul (pe_fld (pv 0) (by rfl)) (c_call (ok_row_many T hL r_Over_means_many) (hr.mono (by omega)) T.g_row_many T.k_row_many takes0 (pa_cons (pe_fld (pv 0) (by rfl)) pa_nil))))), ?_⟩
    have hfew := momsL_few hok
    have hnL := ov_nest hn
    obtain ⟨dx, kp, as, ha, hk, hA⟩ := (by unfold ShAt at hO; exact hO : ∃ dx kp as, H a = some (.ins (OverC K) dx (overF kp m s_)) ∧ H kp = some (.tup (as.map V.ref)) ∧ ShsAt K H ps as)
    refine ⟨_, rfl, a, _, dx, _, _, rfl, ha, T.c_Over, T.a_Over_many, rfl, _, rfl, a, _, dx, _, _, rfl, ha, T.c_Over, T.a_Over_kept, rfl, kp, as, ps, rfl, hk, hA, hnL, hok, hl, fun H1 X1 => ⟨_, _, rfl, rfl, .inr ⟨by omega, by omega⟩, ?_⟩⟩
    have e : ((m : Nat) : Int) * (((momsL ps).length : Nat) : Int) = ((m * (momsL ps).length : Nat) : Int) := by simp
    show Q (.int (((m : Nat) : Int) * (((momsL ps).length : Nat) : Int))) H1
    rw [e]
    exact q H1 X1
theorem ok_Over_means_many {P : Program} {w : World} {K : PySem.W.Frag} {mg : Str → Option Value} {base : Heap} (T : Env K mg) {d L : Nat} (hL : 40 ≤ L) (r_Over_means_many : Fc P w K mg base L (He.ma K (He.ga K "Over") "means_many") [] (sp_Over_means_many K d)) : Fc P w K mg base (L + 2) (He.ma K (He.ga K "Over") "means_many") [] (sp_Over_means_many K (d + 1)) := by
  obtain ⟨fd, D, F⟩ := fb_Over_means_many T hL r_Over_means_many
  exact F.all (D.bindsN fun _ _ _ _ _ _ us hl => match us, hl with | [_], _ => rfl)
theorem all_Over_means_many {P : Program} {w : World} {K : PySem.W.Frag} {mg : Str → Option Value} {base : Heap} (T : Env K mg) : ∀ d, Fc P w K mg base (40 + 2 * d) (He.ma K (He.ga K "Over") "means_many") [] (sp_Over_means_many K d)
  | 0 => fc_no fun vs H Q E h => by
    obtain ⟨a, ps, m, s, _, _, h, _⟩ := h
    unfold Tr.nest at h
    omega
  | d + 1 => ok_Over_means_many T (Nat.le_add_right 40 _) (all_Over_means_many T d)
end
section
theorem fb_Over_nested {P : Program} {w : World} {K : PySem.W.Frag} {mg : Str → Option Value} {base : Heap} (T : Env K mg) {d L : Nat} (hL : 40 ≤ L) (r_Over_nested : Fc P w K mg base L (He.ma K (He.ga K "Over") "nested") [] (sp_Over_nested K d)) : ∃ fd, FunD K "nested" "Over.nested" (defArgs s_Over_nested) (defBody s_Over_nested) (defScope s_Over_nested) [] [] (He.ma K (He.ga K "Over") "nested") fd ∧ Fb P w K mg base (L + 1) (He.ma K (He.ga K "Over") "nested") fd ["self"] (sp_Over_nested K (d + 1)) := by
  obtain ⟨fd, F⟩ := T.f_Over_nested
  refine ⟨fd, F, fb_of F sc_Over_nested (fun vs H Q E h => ?_) (fun cdv A outer s H vs Q E hr h => ?_)⟩
  · obtain ⟨a, ps, m, s, rfl, _⟩ := h
    rfl
  · obtain ⟨a, ps, m, s_, rfl, hO, hn, h0, hok, hl, q⟩ := h
    refine ⟨_, (pss_one (ps_ret (pe_op op_add pe_int (pe_callB (cr_max rfl) (by rfl) T.n_max (by decide +kernel) (pa_cons (pe_lc (own := [("one", 1)]) (by rfl) sc_Over_nested.nd (pi_tup (pe_fld (pv 0) (by rfl))) (blkOk_by (own := [("one", 1)]) (N := ["self", "one"]) (sc := defScope s_Over_nested) (by decide +kernel)) (fun _ _ _ _ _ => (pg_name (i := 1) sc_Over_nested.nd rfl (Or.inl rfl))) (fun _ _ _ _ _ => pts_nil) (fun _ _ _ _ _ => (pe_orE (c_meth0 (pv 1) T.c_At T.m_At_nested (ok_At_nested T) (hr.mono (by omega)) takes0) (c_meth0 (pv 1) T.c_Over T.m_Over_nested r_Over_nested (hr.mono (by omega)) takes0)))) pa_nil))))), ?_⟩
    have hnL := ov_nest hn
    obtain ⟨dx, kp, as, ha, hk, hA⟩ := (by unfold ShAt at hO; exact hO : ∃ dx kp as, H a = some (.ins (OverC K) dx (overF kp m s_)) ∧ H kp = some (.tup (as.map V.ref)) ∧ ShsAt K H ps as)
    have hl1 := hA.len
    have hl2 := len_moms hok
    refine ⟨_, rfl, a, _, dx, _, _, rfl, ha, T.c_Over, T.a_Over_kept, rfl, kp, rfl, ⟨_, sq_tup hk⟩, fun A nA => lc_fm L2.walk_tup (fun i => (ps[i]?).map fun t => .int ((t.nest : Nat) : Int)) (fun H' => Ex H H') (fun H' z e => ex_mut e nA) (.refl _) (by rw [List.length_map]; omega) (fun H' e => sq_tup (e _ _ hk)) (fun i x H2 H3 acc N hi e hD la y k => ?_) fun H3 X3 d3 => ?_⟩
    · obtain ⟨rfl, y⟩ := y
      rw [List.getElem?_map] at y
      obtain ⟨b, hb, rfl⟩ := Option.map_eq_some_iff.mp y
      obtain ⟨t, ht, hS⟩ := hA.get hb
      have htm := List.mem_of_getElem? ht
      have hS2 := hS.mono e
      have k2 := fun H4 (X4 : Ex H3 H4) => k H4 (e.trans X4) (X4 _ _ hD)
      rw [ht] at k2
      have ok := okL_mem hok htm
      cases t with
      | «at» n =>
        unfold ShAt at hS2
        obtain ⟨dy, h2⟩ := id hS2
        exact ⟨rfl, .inl ⟨_, rfl, b, dy, _, rfl, h2, rfl, b, n, rfl, hS2, acc, hD, la, k2 H3 (.refl _)⟩⟩
      | ov ps' m' s' =>
        obtain ⟨dy, kp', as', h2, _⟩ := (by unfold ShAt at hS2; exact hS2 : ∃ dx kp as, H3 b = some (.ins (OverC K) dx (overF kp m' s')) ∧ H3 kp = some (.tup (as.map V.ref)) ∧ ShsAt K H3 ps' as)
        obtain ⟨o1, _, _, _, o5', _, o7⟩ := ov_facts ok
        have o5 : ps'.length ≤ 20000 := by omega
        exact ⟨rfl, .inr ⟨_, rfl, b, dy, _, rfl, h2, rfl, b, ps', m', s', rfl, hS2, Nat.le_trans (nestL_mem htm) hnL, o1, o7, o5, fun H4 X4 => ⟨acc, X4 _ _ hD, la, k2 H4 X4⟩⟩⟩
    · rw [List.length_map, hl1, range_opt ps (fun t => V.int ((t.nest : Nat) : Int))] at d3
      have e1 : ps.map (fun t => V.int ((t.nest : Nat) : Int)) = (ps.map fun t => ((t.nest : Nat) : Int)).map V.int := by
        rw [List.map_map]
        rfl
      rw [e1] at d3
      refine ⟨A, _, rfl, sq_lst d3, by rw [List.length_map]; exact List.length_pos_iff.mpr h0, fun mx hm hall => ⟨_, _, rfl, rfl, ?_⟩⟩
      have em : mx = ((nestL ps : Nat) : Int) := by
        obtain ⟨t, ht, e⟩ := List.mem_map.mp hm
        have h1 := nestL_mem ht
        obtain ⟨t2, ht2, e2⟩ := nestL_max h0
        have h2 := hall _ (List.mem_map.mpr ⟨t2, ht2, rfl⟩)
        omega
      have e : (1 : Int) + mx = (((Tr.ov ps m s_).nest : Nat) : Int) := by
        unfold Tr.nest
        omega
      show Q (.int (1 + mx)) H3
      rw [e]
      exact q H3 X3
theorem ok_Over_nested {P : Program} {w : World} {K : PySem.W.Frag} {mg : Str → Option Value} {base : Heap} (T : Env K mg) {d L : Nat} (hL : 40 ≤ L) (r_Over_nested : Fc P w K mg base L (He.ma K (He.ga K "Over") "nested") [] (sp_Over_nested K d)) : Fc P w K mg base (L + 1) (He.ma K (He.ga K "Over") "nested") [] (sp_Over_nested K (d + 1)) := by
  obtain ⟨fd, D, F⟩ := fb_Over_nested T hL r_Over_nested
  exact F.all (D.bindsN fun _ _ _ _ _ _ us hl => match us, hl with | [_], _ => rfl)
theorem all_Over_nested {P : Program} {w : World} {K : PySem.W.Frag} {mg : Str → Option Value} {base : Heap} (T : Env K mg) : ∀ d, Fc P w K mg base (40 + 1 * d) (He.ma K (He.ga K "Over") "nested") [] (sp_Over_nested K d)
  | 0 => fc_no fun vs H Q E h => by
    obtain ⟨a, ps, m, s, _, _, h, _⟩ := h
    unfold Tr.nest at h
    omega
  | d + 1 => ok_Over_nested T (Nat.le_add_right 40 _) (all_Over_nested T d)
end
section
theorem isN_nat_of {n : Int} {x : V} (h0 : 0 ≤ n) (h : isN n x = true) : ∃ m : Nat, x = .int (m : Nat) ∧ n ≤ (m : Int) := by
  unfold isN at h
  obtain ⟨_, h2⟩ := Bool.and_eq_true_iff.mp h
  cases x with
  | int i =>
    have h3 : n ≤ i := of_decide_eq_true h2
    obtain ⟨m, rfl⟩ := Int.eq_ofNat_of_zero_le (Int.le_trans h0 h3)
    exact ⟨m, rfl, h3⟩
  | _ => cases h2
/-- whether an Over may be made -/
def ovB (ts : List Tr) (xm xs : V) : Bool := risB ts && (decide (ts ≠ []) && (isN 2 xm && (isN 1 xs && (match xm, xs with
  | .int m, .int s => decide (((momsL ts).getLastD 0 : Int) < s + ((momsL ts).headD 0 : Int)) && (decide (m * ((momsL ts).length : Int) ≤ 1440) && decide (nestL ts ≤ 7))
  | _, _ => false))))
def sp_Over_init (K : PySem.W.Frag) : Sp := fun vs H Q E => ∃ (a dx p : Addr) (as : List Addr) (ts : List Tr) (xm xs : V) (H0 : Hp), vs = [.ref a, .ref p, xm, xs] ∧ H a = some (.ins (OverC K) dx []) ∧ H0 a = none ∧ Ex H0 H ∧ SqA H0 p (as.map V.ref) ∧ ShsAt K H0 ts as ∧ nestL ts ≤ 8 ∧ okL_ ts ∧ ts.length ≤ 20000 ∧ ts.length ≤ 20000 ∧ Cl K H0 xm ∧ Cl K H0 xs ∧ (∀ m s : Nat, ovB ts xm xs = true → xm = .int (m : Nat) → xs = .int (s : Nat) → ∀ H', Oth a H H' → ShAt K H' (.ov ts m s) a → Q .non H') ∧ (ovB ts xm xs = false → ∀ H', Oth a H H' → E (.ref (He.ga K "NoPiece")) none H')
theorem fb_Over_init {P : Program} {w : World} {K : PySem.W.Frag} {mg : Str → Option Value} {base : Heap} (T : Env K mg) : ∃ fd, FunD K "__init__" "Over.__init__" (defArgs s_Over_init) (defBody s_Over_init) (defScope s_Over_init) [.int (2), .int (60)] [] (He.ma K (He.ga K "Over") "__init__") fd ∧ Fb P w K mg base 64 (He.ma K (He.ga K "Over") "__init__") fd ["self", "parts", "many", "step"] (sp_Over_init K) := by
  obtain ⟨fd, F⟩ := T.f_Over_init
  refine ⟨fd, F, fb_of F sc_Over_init (fun vs H Q E h => ?_) (fun cdv A outer s H vs Q E hr h => ?_)⟩
  · obtain ⟨a, dx, p, as, ts, xm, xs, H0, rfl, _⟩ := h
    rfl
  · obtain ⟨a, dx, p, as, ts, xm, xs, H0, rfl, ha, na0, X0, hp, hA, hn, hok, hlm, hlt, cm, cs, q, qe⟩ := h
    refine ⟨_, (pss_cons (ps_fld (pv 0) (c_call (ok_shorts_in T) (hr.mono (by decide)) T.g_shorts_in T.k_shorts_in (takes_of rfl rfl rfl rfl) (pa_cons (pv 1) pa_nil)) rfl)
      (pss_cons (ps_if (PW.pt (pw_or (pt_cmpR op_eq (pe_callB call_len (by rfl) T.n_len (by decide +kernel) (pa_cons (pe_fld (pv 0) (by rfl)) pa_nil)) pe_int (nomark _)) (pw_or (pt_not (pt_val (c_call (ok_is_number T) (hr.mono (by decide)) T.g_is_number T.k_is_number (takes_of rfl rfl rfl rfl) (pa_cons (pv 2) (pa_cons pe_int pa_nil))))) (pw_or1 (pt_not (pt_val (c_call (ok_is_number T) (hr.mono (by decide)) T.g_is_number T.k_is_number (takes_of rfl rfl rfl rfl) (pa_cons (pv 3) (pa_cons pe_int pa_nil)))))))))
      (pss_one (ps_raise rfl (takes_of rfl rfl rfl rfl) (pmk_own PySem.F.excBase_ValueError T.x_NoPiece.x T.g_NoPiece T.x_NoPiece.kp (raises_own T.x_NoPiece.sub T.x_NoPiece.ty) rfl)))
      pss_nil)
      (pss_cons (ps_if (pt_cmpR op_le (pv 3) (pe_op op_sub (pe_orE (c_meth0 (pe_ix ix_tup (pe_fld (pv 0) (by rfl)) (pe_un un_neg pe_int) (fun _ _ => rfl)) T.c_At T.m_At_ends (ok_At_ends T) (hr.mono (by decide)) (takes_of rfl rfl rfl rfl)) (c_meth0 (pe_ix ix_tup (pe_fld (pv 0) (by rfl)) (pe_un un_neg pe_int) (fun _ _ => rfl)) T.c_Over T.m_Over_ends (all_Over_ends T 9) (hr.mono (by decide)) (takes_of rfl rfl rfl rfl))) (pe_orE (c_meth0 (pe_ix ix_tup (pe_fld (pv 0) (by rfl)) pe_int (fun _ _ => rfl)) T.c_At T.m_At_begins (ok_At_begins T) (hr.mono (by decide)) (takes_of rfl rfl rfl rfl)) (c_meth0 (pe_ix ix_tup (pe_fld (pv 0) (by rfl)) pe_int (fun _ _ => rfl)) T.c_Over T.m_Over_begins (all_Over_begins T 9) (hr.mono (by decide)) (takes_of rfl rfl rfl rfl)))) (nomark _))
      (pss_one (ps_raise rfl (takes_of rfl rfl rfl rfl) (pmk_own PySem.F.excBase_ValueError T.x_NoPiece.x T.g_NoPiece T.x_NoPiece.kp (raises_own T.x_NoPiece.sub T.x_NoPiece.ty) rfl)))
      pss_nil)
      (pss_cons (ps_fld (pv 0) (pv 2) rfl)
      (pss_cons (ps_fld (pv 0) (pv 3) rfl)
      (pss_one (ps_if (PW.pt (pw_or (pt_cmpR op_gt (c_meth0 (pv 0) T.c_Over T.m_Over_means_many (all_Over_means_many T 9) (hr.mono (by decide)) (takes_of rfl rfl rfl rfl)) (pe_k T.v_MOST_MOMENTS) (nomark _)) (pw_or1 (pt_cmpR op_gt (c_meth0 (pv 0) T.c_Over T.m_Over_nested (all_Over_nested T 9) (hr.mono (by decide)) (takes_of rfl rfl rfl rfl)) (pe_k T.v_MOST_NESTED) (nomark _)))))
      (pss_one (ps_raise rfl (takes_of rfl rfl rfl rfl) (pmk_own PySem.F.excBase_ValueError T.x_NoPiece.x T.g_NoPiece T.x_NoPiece.kp (raises_own T.x_NoPiece.sub T.x_NoPiece.ty) rfl)))
      pss_nil))))))), ?_⟩
    have hl1 := hA.len
    have hpH : SqA H p (as.map V.ref) := hp.imp (fun h => X0 _ _ h) (fun h => X0 _ _ h)
    refine ⟨_, rfl, p, as, ts, rfl, hpH, hA.mono X0, by omega, hok, hlt, fun hr2 t H1 X1 ht => ?_, fun hr2 H1 X1 => qe (by unfold ovB; rw [hr2]; rfl) H1 (ex_oth X1)⟩
    refine ⟨_, rfl, a, _, dx, [], rfl, X1 _ _ ha, T.c_Over, T.a_Over_kept, by decide, ?_⟩
    have ta : t ≠ a := fun z => by rw [z, X1 _ _ ha] at ht; cases ht
    have O1 : Oth a H (upd H1 a (.ins (OverC K) dx (putF "kept" (.ref t) []))) := (ex_oth X1).upd
    have h2 : upd H1 a (.ins (OverC K) dx (putF "kept" (.ref t) [])) a = some (.ins (OverC K) dx [("kept", .ref t)]) := upd_same
    have ht2 : upd H1 a (.ins (OverC K) dx (putF "kept" (.ref t) [])) t = some (.tup (as.map V.ref)) := by rw [upd_ne ta]; exact ht
    generalize upd H1 a (.ins (OverC K) dx (putF "kept" (.ref t) [])) = H2 at O1 h2 ht2 ⊢
    have X02 : Ex H0 H2 := Oth.ex X0 na0 O1
    have hA2 : ShsAt K H2 ts as := hA.mono X02
    refine ⟨_, rfl, a, _, dx, _, _, rfl, h2, T.c_Over, T.a_Over_kept, rfl, _, as.length, rfl, .inr ⟨_, sq_tup ht2, (List.length_map _).symm⟩, rfl, _, rfl, ?_⟩
    by_cases h0 : ts = []
    · rw [decide_eq_true (show V.int ((as.length : Nat) : Int) = V.int 0 by rw [hl1, h0]; rfl)]
      refine iteT ?_
      refine qe ?_ H2 O1
      unfold ovB
      rw [hr2, decide_eq_false (fun z => z h0)]
      rfl
    have pos : 0 < ts.length := List.length_pos_iff.mpr h0
    rw [decide_eq_false (show ¬ V.int ((as.length : Nat) : Int) = V.int 0 from fun z => by injection z with z; omega)]
    refine iteF ?_
    refine ⟨_, rfl, xm, 2, rfl, cm.mono X02, _, rfl, ?_⟩
    cases hm2 : isN 2 xm with
    | false =>
      refine iteT ?_
      refine qe ?_ H2 O1
      unfold ovB
      rw [hr2, decide_eq_true h0, hm2]
      rfl
    | true =>
    refine iteF ?_
    refine ⟨_, rfl, xs, 1, rfl, cs.mono X02, _, rfl, ?_⟩
    cases hs2 : isN 1 xs with
    | false =>
      refine iteT ?_
      refine qe ?_ H2 O1
      unfold ovB
      rw [hr2, decide_eq_true h0, hm2, hs2]
      rfl
    | true =>
    refine iteF ?_
    obtain ⟨m, rfl, hm⟩ := isN_nat_of (by decide) hm2
    obtain ⟨s_, rfl, hs1⟩ := isN_nat_of (by decide) hs2
    have eB : ovB ts (.int (m : Nat)) (.int (s_ : Nat)) = (decide (((momsL ts).getLastD 0 : Int) < ((s_ : Nat) : Int) + ((momsL ts).headD 0 : Int)) && (decide (((m : Nat) : Int) * ((momsL ts).length : Int) ≤ 1440) && decide (nestL ts ≤ 7))) := by
      unfold ovB
      rw [hr2, decide_eq_true h0, hm2, hs2]
      rfl
    have nn := momsL_ne hok h0
    obtain ⟨zf, rf, tf, rt, eas, ets, hSf⟩ : ∃ z r t u, as = z :: r ∧ ts = t :: u ∧ ShAt K H2 t z := by
      cases ts with
      | nil => exact absurd rfl h0
      | cons t u =>
        unfold ShsAt at hA2
        obtain ⟨z, r, e, h1, _⟩ := hA2
        exact ⟨z, r, t, u, e, rfl, h1⟩
    have as0 : as ≠ [] := fun z => by rw [z] at eas; cases eas
    obtain ⟨zl, gl, aL⟩ := last_ref as0
    obtain ⟨tl, htl, hSl⟩ := hA2.get gl
    have ep : ts = ts.dropLast ++ [tl] := by
      have e := (List.dropLast_concat_getLast h0).symm
      have e2 : ts.getLast h0 = tl := by
        rw [List.getLast_eq_getElem]
        rw [hl1] at htl
        obtain ⟨_, e⟩ := List.getElem?_eq_some_iff.mp htl
        exact e
      rw [e2] at e
      exact e
    have eL : (momsL ts).getLastD 0 = tl.moms.getLastD 0 := by
      have o7 := hok
      rw [ep] at o7 ⊢
      exact momsL_last o7
    have eF : (momsL ts).headD 0 = tf.moms.headD 0 := by
      have o7 := hok
      rw [ets] at o7 ⊢
      exact momsL_head o7
    have mf : tf ∈ ts := by rw [ets]; exact List.mem_cons_self
    have ml := List.mem_of_getElem? htl
    have aF : atI (as.map V.ref) 0 = some (.ref zf) := by rw [eas]; exact atI_nat (j := 0) rfl
    refine ⟨_, rfl, ?_⟩
    refine sh_ends hSl (okL_mem hok ml) (Nat.le_trans (nestL_mem ml) (by omega)) (fun R r => ⟨_, rfl, a, _, dx, _, _, rfl, h2, T.c_Over, T.a_Over_kept, rfl, _, rfl, t, _, _, _, rfl, rfl, sq_tup ht2, aL, r⟩) ?_
    refine sh_begins hSf (okL_mem hok mf) (Nat.le_trans (nestL_mem mf) (by omega)) (fun R r => ⟨_, rfl, a, _, dx, _, _, rfl, h2, T.c_Over, T.a_Over_kept, rfl, t, _, _, _, rfl, rfl, sq_tup ht2, aF, r⟩) ?_
    refine ⟨_, _, rfl, rfl, _, _, rfl, rfl, _, rfl, ?_⟩
    rw [← eL, ← eF]
    by_cases c1 : ((momsL ts).getLastD 0 : Int) < ((s_ : Nat) : Int) + ((momsL ts).headD 0 : Int)
    · rw [decide_eq_false (show ¬ ((s_ : Nat) : Int) ≤ (((momsL ts).getLastD 0 : Nat) : Int) - (((momsL ts).headD 0 : Nat) : Int) by omega)]
      refine iteF ?_
      refine ⟨_, rfl, _, rfl, a, _, dx, _, rfl, h2, T.c_Over, T.a_Over_many, Nat.le_of_ble_eq_true rfl, ?_⟩
      refine ⟨_, rfl, _, rfl, a, _, dx, _, rfl, upd_same, T.c_Over, T.a_Over_step, Nat.le_of_ble_eq_true rfl, ?_⟩
      rw [upd_upd]
      rw [show putF "step" (V.int (s_ : Nat)) (putF "many" (V.int (m : Nat)) [("kept", V.ref t)]) = overF t m s_ from rfl]
      have O3 : Oth a H (upd H2 a (.ins (OverC K) dx (overF t m s_))) := O1.upd
      have X03 : Ex H0 (upd H2 a (.ins (OverC K) dx (overF t m s_))) := Oth.ex X0 na0 O3
      have h3 : upd H2 a (.ins (OverC K) dx (overF t m s_)) a = some (.ins (OverC K) dx (overF t m s_)) := upd_same
      have hO : ShAt K (upd H2 a (.ins (OverC K) dx (overF t m s_))) (.ov ts m s_) a := by
        unfold ShAt
        exact ⟨dx, t, as, h3, by rw [upd_ne ta]; exact ht2, hA.mono X03⟩
      generalize upd H2 a (.ins (OverC K) dx (overF t m s_)) = H3 at O3 X03 hO h3 ⊢
      have hn9 : (Tr.ov ts m s_).nest ≤ 9 := by
        unfold Tr.nest
        omega
      refine ⟨_, rfl, a, dx, _, rfl, h3, rfl, a, ts, m, s_, rfl, hO, hn9, hok, hlm, fun H4 X4 => ⟨_, _, rfl, rfl, _, rfl, ?_⟩⟩
      have em : ((m * (momsL ts).length : Nat) : Int) = ((m : Nat) : Int) * ((momsL ts).length : Int) := by simp
      by_cases c2 : ((m : Nat) : Int) * ((momsL ts).length : Int) ≤ 1440
      · rw [decide_eq_false (show ¬ (1440 : Int) < ((m * (momsL ts).length : Nat) : Int) by omega)]
        refine iteF ?_
        refine ⟨_, rfl, a, dx, _, rfl, X4 _ _ h3, rfl, a, ts, m, s_, rfl, hO.mono X4, hn9, h0, hok, hlm, fun H5 X5 => ⟨_, _, rfl, rfl, _, rfl, ?_⟩⟩
        have O5 := O3.trans (ex_oth (X4.trans X5))
        by_cases c3 : nestL ts ≤ 7
        · rw [decide_eq_false (show ¬ (8 : Int) < (((Tr.ov ts m s_).nest : Nat) : Int) by unfold Tr.nest; omega)]
          refine iteF ?_
          exact q m s_ (by rw [eB, decide_eq_true c1, decide_eq_true c2, decide_eq_true c3]; rfl) rfl rfl H5 O5 (hO.mono (X4.trans X5))
        · rw [decide_eq_true (show (8 : Int) < (((Tr.ov ts m s_).nest : Nat) : Int) by unfold Tr.nest; omega)]
          refine iteT ?_
          exact qe (by rw [eB, decide_eq_false c3, Bool.and_false, Bool.and_false]) H5 O5
      · rw [decide_eq_true (show (1440 : Int) < ((m * (momsL ts).length : Nat) : Int) by omega)]
        exact iteT (qe (by rw [eB, decide_eq_false c2, Bool.false_and, Bool.and_false]) H4 (O3.trans (ex_oth X4)))
    · rw [decide_eq_true (show ((s_ : Nat) : Int) ≤ (((momsL ts).getLastD 0 : Nat) : Int) - (((momsL ts).headD 0 : Nat) : Int) by omega)]
      refine iteT ?_
      exact qe (by rw [eB, decide_eq_false c1]; rfl) H2 O1
theorem ovB_of {ts : List Tr} {m s : Nat} (h : (Tr.ov ts m s).ok) (hn : (Tr.ov ts m s).nest ≤ 8) : ovB ts (.int (m : Nat)) (.int (s : Nat)) = true := by
  unfold Tr.ok at h
  obtain ⟨h1, h2, h3, h4, h5, h6, h7⟩ := h
  unfold Tr.nest at hn
  have e4 : ((m : Nat) : Int) * ((momsL ts).length : Int) ≤ 1440 := by
    have : ((m * (momsL ts).length : Nat) : Int) ≤ 1440 := by omega
    rw [Int.natCast_mul] at this
    exact this
  unfold ovB
  rw [ris_of h7 h6, decide_eq_true h1, show isN 2 (.int (m : Nat)) = true from isN_nat (m := 2) h2, show isN 1 (.int (s : Nat)) = true from isN_nat (m := 1) h3]
  show (decide _ && (decide _ && decide _)) = true
  rw [decide_eq_true (by omega), decide_eq_true e4, decide_eq_true (by omega)]
  rfl
theorem over_newT {K : PySem.W.Frag} {H : Hp} {x dx p : Addr} {as : List Addr} {ts : List Tr} {m s : Nat} {Q : VK} {E : XK} (nx : H x = none) (nd : H dx = none) (ne : dx ≠ x) (hp : SqA H p (as.map V.ref)) (hA : ShsAt K H ts as) (hok : (Tr.ov ts m s).ok) (hn : (Tr.ov ts m s).nest ≤ 8) (q : ∀ H', Ex H H' → ShAt K H' (.ov ts m s) x → Q .non H') :
    sp_Over_init K [.ref x, .ref p, .int (m : Nat), .int (s : Nat)] (upd (upd H dx (.own x)) x (.ins (OverC K) dx [])) Q E := by
  have X1 := ex_made (o1 := .own x) (o2 := .ins (OverC K) dx []) nx nd ne
  have hb := ovB_of hok hn
  obtain ⟨o1, m2, hm, hml, hl2, hpl, hokL⟩ := ov_facts hok
  unfold Tr.nest at hn
  refine ⟨x, dx, p, as, ts, _, _, H, rfl, upd_same, nx, X1, hp, hA, by omega, hokL, by omega, by omega, cl_int _, cl_int _, fun m' s' _ em es H' k d => ?_, fun z => by rw [hb] at z; cases z⟩
  have e1 : m = m' := by injection em with em; omega
  have e2 : s = s' := by injection es with es; omega
  subst e1 e2
  exact q H' (fun b o e => k b o (ne_of_none e nx) (X1 _ _ e)) d
theorem ok_Over_init {P : Program} {w : World} {K : PySem.W.Frag} {mg : Str → Option Value} {base : Heap} (T : Env K mg) : Fc P w K mg base 64 (He.ma K (He.ga K "Over") "__init__") [] (fun vs H Q E => vs.length = 4 + ([] : List Str).length ∧ sp_Over_init K  (pick [.inl 0, .inl 1, .inl 2, .inl 3] vs [.int (2), .int (60)]) H Q E) := by
  obtain ⟨fd, D, F⟩ := fb_Over_init T
  exact Fb.shape D F 4 [] (fun us its => pick [.inl 0, .inl 1, .inl 2, .inl 3] us its) (by decide) (fun r1 r2 => pick_vals _ r1 r2) (fun T kV doc pm an cdv ct us ws its h1 h2 h3 => match us, ws, its, h1, h2, h3 with | [_, _, _, _], [], [_, _], _, _, _ => ⟨_, rfl, rfl⟩)
end
section
theorem fb_Over_moments {P : Program} {w : World} {K : PySem.W.Frag} {mg : Str → Option Value} {base : Heap} (T : Env K mg) {d L : Nat} (hL : 40 ≤ L) (r_Over_moments : Fc P w K mg base L (He.ma K (He.ga K "Over") "moments") [] (sp_Over_moments K d)) : ∃ fd, FunD K "moments" "Over.moments" (defArgs s_Over_moments) (defBody s_Over_moments) (defScope s_Over_moments) [] [] (He.ma K (He.ga K "Over") "moments") fd ∧ Fb P w K mg base (L + 2) (He.ma K (He.ga K "Over") "moments") fd ["self"] (sp_Over_moments K (d + 1)) := by
  obtain ⟨fd, F⟩ := T.f_Over_moments
  refine ⟨fd, F, fb_of F sc_Over_moments (fun vs H Q E h => ?_) (fun cdv A outer s H vs Q E hr h => ?_)⟩
  · obtain ⟨a, ps, m, s, rfl, _⟩ := h
    rfl
  · obtain ⟨a, ps, m, s_, rfl, hO, hn, hok, q⟩ := h
    refine ⟨_, (pss_cons (ps_set (i := 1) sc_Over_moments.nd rfl (Or.inl rfl) (c_call (ok_row_moments T hL r_Over_moments) (hr.mono (by omega)) T.g_row_moments T.k_row_moments takes0 (pa_cons (pe_fld (pv 0) (by rfl)) pa_nil)))
      (pss_cons (ps_set (i := 2) sc_Over_moments.nd rfl (Or.inl rfl) (pe_lst pa_nil))
      (pss_cons (ps_for (passes_of rfl) rfl (pi_range1 (by rfl) T.n_range (pa_cons (pe_fld (pv 0) (by rfl)) pa_nil)) (pg_name (i := 3) sc_Over_moments.nd rfl (Or.inr rfl))
      (pss_one (ps_expr (pe_bm PySem.F.plainAttrs_list PySem.F.slot_list_extend PySem.F.type_list_extend mt_extend (pv 2) (pa_cons (pe_lc (own := [("moment", 4)]) (by rfl) sc_Over_moments.nd (pi_list (pv 1)) (blkOk_by (own := [("moment", 4)]) (N := ["self", "own", "found", "time", "moment"]) (sc := defScope s_Over_moments) (by decide +kernel)) (fun _ _ _ _ _ => (pg_name (i := 4) sc_Over_moments.nd rfl (Or.inl rfl))) (fun _ _ _ _ _ => pts_nil) (fun _ _ _ _ _ => (pe_op op_add (pv 4) (pe_op op_mul (pv 3) (pe_fldK K (pv 0) (by rfl)))))) pa_nil)))))
      (pss_one (ps_ret (pv 2)))))), ?_⟩
    obtain ⟨_, m2, hm, hml, hl, hpl, hokL⟩ := ov_facts hok
    have hnL := ov_nest hn
    unfold Tr.moms at q
    unfold ShAt at hO
    obtain ⟨dx, kp, as, ha, hk, hA⟩ := hO
    generalize hns : momsL ps = ns at *
    refine ⟨_, rfl, a, _, dx, _, _, rfl, ha, T.c_Over, T.a_Over_kept, rfl, kp, as, ps, rfl, hk, hA, hnL, hokL, by rw [hns]; exact hl, fun w H1 X1 nw hw => ?_⟩
    rw [hns] at hw
    refine ⟨by show 0 ≤ sizeLine; decide, fun f nf => ?_⟩
    have nf0 := ex_fresh X1 nf
    have X2 := X1.trans (ex_new (o := .lst []) nf)
    have wf : w ≠ f := ne_of_none hw nf
    have af : a ≠ f := ne_of_none ha nf0
    have ha2 := X2 _ _ ha
    have hw2 := ex_new (o := .lst []) nf _ _ hw
    have hf2 : upd H1 f (.lst []) f = some (.lst []) := upd_same
    generalize upd H1 f (.lst []) = H2 at X2 ha2 hw2 hf2 ⊢
    refine ⟨_, rfl, a, _, dx, _, _, rfl, ha2, T.c_Over, T.a_Over_many, rfl, _, rfl, by omega, by omega, for_range (fun i σ H' => Oth f H2 H' ∧ ∃ v3 v4, σ = [some (.ref a), some (.ref w), some (.ref f), v3, v4] ∧ H' f = some (.lst (natV (overN ns i s_)))) ⟨Oth.refl _ _, _, _, rfl, hf2⟩ ?_ ?_⟩
    · rintro i σ H3 hi ⟨O3, v3, v4, rfl, hf3⟩
      have hi2 : i < m := by omega
      have hw3 := O3 _ _ wf hw2
      have ha3 := O3 _ _ af ha2
      have ll : (overN ns i s_).length = i * ns.length := overN_len ns i s_
      have l2 : i * ns.length ≤ m * ns.length := Nat.mul_le_mul_right _ (by omega)
      refine ⟨_, rfl, .inl ⟨rfl, _, sq_lst hf3⟩, _, rfl, w, rfl, ⟨_, sq_lst hw3⟩, fun A nA => lc_on ns (fun n : Nat => V.int n) L2.walk_list (fun n => some (.int ((n + i * s_ : Nat) : Int))) (fun H' => Ex H3 H') (fun H' z e => ex_mut e nA) (.refl _) (by omega) (fun H' e => sq_lst (e _ _ hw3)) (fun j n H4 acc N hn X4 hD la k => ?_) fun H4 X4 d4 => ?_⟩
      · refine ⟨rfl, _, rfl, _, rfl, _, rfl, a, _, dx, _, _, rfl, X4 _ _ ha3, T.c_Over, T.a_Over_step, rfl, _, _, rfl, rfl, .inl ⟨by omega, by omega⟩, _, _, rfl, rfl, acc, hD, la, ?_⟩
        have e : ((n : Nat) : Int) + (0 + ((i : Nat) : Int)) * ((s_ : Nat) : Int) = ((n + i * s_ : Nat) : Int) := by simp
        show N (upd H4 A (.lst (acc ++ [.int (((n : Nat) : Int) + (0 + ((i : Nat) : Int)) * ((s_ : Nat) : Int))])))
        rw [e]
        exact k H4 X4 hD
      · have ed : ns.filterMap (fun n => some (V.int ((n + i * s_ : Nat) : Int))) = natV (ns.map fun n => n + i * s_) := by
          unfold natV
          rw [List.filterMap_eq_map', List.map_map]
          rfl
        rw [ed] at d4
        refine ⟨f, A, _, _, rfl, rfl, X4 _ _ hf3, d4, sz_le (by rw [natV_len, natV_len, List.length_map, ll]; omega), (O3.trans (ex_oth X4)).upd, _, _, rfl, ?_⟩
        rw [upd_same, overN_succ]
        unfold natV
        rw [List.map_append]
    · rintro σ H3 ⟨O3, v3, v4, rfl, hf3⟩
      rw [show ((m : Nat) : Int).toNat = m by omega] at hf3
      exact ⟨_, rfl, q f H3 (Oth.ex X2 nf0 O3) nf0 hf3⟩
theorem ok_Over_moments {P : Program} {w : World} {K : PySem.W.Frag} {mg : Str → Option Value} {base : Heap} (T : Env K mg) {d L : Nat} (hL : 40 ≤ L) (r_Over_moments : Fc P w K mg base L (He.ma K (He.ga K "Over") "moments") [] (sp_Over_moments K d)) : Fc P w K mg base (L + 2) (He.ma K (He.ga K "Over") "moments") [] (sp_Over_moments K (d + 1)) := by
  obtain ⟨fd, D, F⟩ := fb_Over_moments T hL r_Over_moments
  exact F.all (D.bindsN fun _ _ _ _ _ _ us hl => match us, hl with | [_], _ => rfl)
theorem all_Over_moments {P : Program} {w : World} {K : PySem.W.Frag} {mg : Str → Option Value} {base : Heap} (T : Env K mg) : ∀ d, Fc P w K mg base (40 + 2 * d) (He.ma K (He.ga K "Over") "moments") [] (sp_Over_moments K d)
  | 0 => fc_no fun vs H Q E h => by
    obtain ⟨a, ps, m, s, _, _, h, _⟩ := h
    unfold Tr.nest at h
    omega
  | d + 1 => ok_Over_moments T (Nat.le_add_right 40 _) (all_Over_moments T d)
end
section
theorem fb_Over_str {P : Program} {w : World} {K : PySem.W.Frag} {mg : Str → Option Value} {base : Heap} (T : Env K mg) {d L : Nat} (hL : 40 ≤ L) (r_Over_str : Fc P w K mg base L (He.ma K (He.ga K "Over") "__str__") [] (sp_Over_str K d)) : ∃ fd, FunD K "__str__" "Over.__str__" (defArgs s_Over_str) (defBody s_Over_str) (defScope s_Over_str) [] [] (He.ma K (He.ga K "Over") "__str__") fd ∧ Fb P w K mg base (L + 4) (He.ma K (He.ga K "Over") "__str__") fd ["self"] (sp_Over_str K (d + 1)) := by
  obtain ⟨fd, F⟩ := T.f_Over_str
  refine ⟨fd, F, fb_of F sc_Over_str (fun vs H Q E h => ?_) (fun cdv A outer s H vs Q E hr h => ?_)⟩
  · obtain ⟨a, ps, m, s, rfl, _⟩ := h
    rfl
  · obtain ⟨a, ps, m, s_, rfl, hO, hn, hf, hc, q⟩ := h
    refine ⟨_, (pss_one (ps_ret (pe_joined (PJ.cons pe_str (PJ.cons (pe_fmt (c_call (ok_row_text T hL r_Over_str) (hr.mono (by omega)) T.g_row_text T.k_row_text takes0 (pa_cons (pe_fld (pv 0) (by rfl)) pa_nil))) (PJ.cons pe_str (PJ.cons (pe_fmt (pe_fld (pv 0) (by rfl))) (PJ.cons pe_str (PJ.cons (pe_fmt (pe_fld (pv 0) (by rfl))) PJ.nil))))))))), ?_⟩
    have hnL := ov_nest hn
    have htl := txt_len hf
    unfold Tr.pcs at hc htl
    unfold Tr.fit at hf
    unfold Tr.txt at q htl
    obtain ⟨f1, f2, f3⟩ := hf
    have rl := rowT_len f3
    unfold ShAt at hO
    obtain ⟨dx, kp, as, ha, hk, hA⟩ := hO
    have b1 := log_small f1
    have b2 := log_small f2
    have hpl : pcsL ps ≤ 10000 := by omega
    refine ⟨_, rfl, (by decide), _, rfl, _, _, _, _, _, rfl, ha, T.c_Over, T.a_Over_kept, rfl, _, _, _, rfl, hk, hA, hnL, f3, hpl, ?_⟩
    intro H1 X1
    have ha1 := X1 _ _ ha
    rw [show Str.empty ++ Str.ofString "(" = SX.S [40] from rfl]
    refine .inl ⟨_, rfl, sz_big (by rw [SX.S_len]; omega), _, rfl, ?_⟩
    rw [SX.S_cat]
    refine ⟨sz_big (by rw [SX.S_len, List.length_append]; show 1 + _ ≤ _; omega), _, rfl, ?_⟩
    rw [show Str.ofString ") x" = SX.S [41, 32, 120] from rfl, SX.S_cat]
    refine ⟨sz_big (by rw [SX.S_len]; simp only [List.length_append, List.length_cons, List.length_nil]; omega), ?_⟩
    refine ⟨_, rfl, _, _, _, _, _, rfl, ha1, T.c_Over, T.a_Over_many, rfl, .inr ⟨_, rfl, b1, _, rfl, ?_⟩⟩
    rw [SX.num_S, SX.S_cat]
    have l1 := TL.numL_len (by decide) f1
    have l2 := TL.numL_len (by decide) f2
    refine ⟨sz_big (by rw [SX.S_len]; simp only [List.length_append, List.length_cons, List.length_nil]; omega), _, rfl, ?_⟩
    rw [show Str.ofString " +" = SX.S [32, 43] from rfl, SX.S_cat]
    refine ⟨sz_big (by rw [SX.S_len]; simp only [List.length_append, List.length_cons, List.length_nil]; omega), ?_⟩
    refine ⟨_, rfl, _, _, _, _, _, rfl, ha1, T.c_Over, T.a_Over_step, rfl, .inr ⟨_, rfl, b2, _, rfl, ?_⟩⟩
    rw [SX.num_S, SX.S_cat]
    refine ⟨sz_big (by rw [SX.S_len]; simp only [List.length_append, List.length_cons, List.length_nil]; omega), ?_⟩
    exact q H1 X1
theorem ok_Over_str {P : Program} {w : World} {K : PySem.W.Frag} {mg : Str → Option Value} {base : Heap} (T : Env K mg) {d L : Nat} (hL : 40 ≤ L) (r_Over_str : Fc P w K mg base L (He.ma K (He.ga K "Over") "__str__") [] (sp_Over_str K d)) : Fc P w K mg base (L + 4) (He.ma K (He.ga K "Over") "__str__") [] (sp_Over_str K (d + 1)) := by
  obtain ⟨fd, D, F⟩ := fb_Over_str T hL r_Over_str
  exact F.all (D.bindsN fun _ _ _ _ _ _ us hl => match us, hl with | [_], _ => rfl)
theorem all_Over_str {P : Program} {w : World} {K : PySem.W.Frag} {mg : Str → Option Value} {base : Heap} (T : Env K mg) : ∀ d, Fc P w K mg base (40 + 4 * d) (He.ma K (He.ga K "Over") "__str__") [] (sp_Over_str K d)
  | 0 => fc_no fun vs H Q E h => by
    obtain ⟨a, ps, m, s, _, _, h, _⟩ := h
    unfold Tr.nest at h
    omega
  | d + 1 => ok_Over_str T (Nat.le_add_right 40 _) (all_Over_str T d)
end
section
abbrev SpreadC (K : PySem.W.Frag) : Addr := He.ga K "Spread"
def sprF (kp hd : Addr) : List (Str × V) := [("kept", .ref kp), ("held", .ref hd)]
/-- at a a spread of these shorts -/
def SprAt (K : PySem.W.Frag) (H : Hp) (a : Addr) (ts : List Tr) : Prop := ∃ dx kp hd as, H a = some (.ins (SpreadC K) dx (sprF kp hd)) ∧ H kp = some (.tup (as.map V.ref)) ∧ H hd = some (.lst (natV (momsL ts))) ∧ ShsAt K H ts as
theorem SprAt.mono {K : PySem.W.Frag} {H H' : Hp} {a : Addr} {ts : List Tr} (h : SprAt K H a ts) (e : Ex H H') : SprAt K H' a ts := let ⟨dx, kp, hd, as, h1, h2, h3, h4⟩ := h; ⟨dx, kp, hd, as, e _ _ h1, e _ _ h2, e _ _ h3, h4.mono e⟩
theorem sprF_inj {a b c d : Addr} (h : sprF a b = sprF c d) : a = c ∧ b = d := by
  unfold sprF at h
  simpa using h
theorem ins_inj {C dx dy : Addr} {fs gs : List (Str × V)} (h : some (HO.ins C dx fs) = some (HO.ins C dy gs)) : dx = dy ∧ fs = gs := by
  cases h
  exact ⟨rfl, rfl⟩
/-- the list that a spread holds stands at a place that N tells -/
def HeldN (K : PySem.W.Frag) (N : Addr → Prop) (H : Hp) (a : Addr) : Prop := ∀ dx kp hd, H a = some (.ins (SpreadC K) dx (sprF kp hd)) → N hd
theorem HeldN.ex {K : PySem.W.Frag} {N : Addr → Prop} {H H' : Hp} {a : Addr} {ts : List Tr} (h : HeldN K N H a) (s : SprAt K H a ts) (e : ∀ o, H a = some o → H' a = some o) : HeldN K N H' a := fun dx kp hd z => by
  obtain ⟨dx2, kp2, hd2, as2, h2, _⟩ := s
  obtain ⟨_, e5⟩ := ins_inj ((e _ h2).symm.trans z)
  obtain ⟨e6, e7⟩ := sprF_inj e5
  rw [← e7]
  exact h _ _ _ h2
def sprB (ts : List Tr) : Bool := risB ts && decide ((momsL ts).length ≤ 1440)
def sp_Spread_init (K : PySem.W.Frag) : Sp := fun vs H Q E => ∃ (a dx p : Addr) (as : List Addr) (ts : List Tr) (H0 : Hp), vs = [.ref a, .ref p] ∧ H a = some (.ins (SpreadC K) dx []) ∧ H0 a = none ∧ Ex H0 H ∧ SqA H0 p (as.map V.ref) ∧ ShsAt K H0 ts as ∧ nestL ts ≤ 8 ∧ okL_ ts ∧ ts.length ≤ 20000 ∧ ts.length ≤ 20000 ∧ (sprB ts = true → ∀ H', Oth a H H' → SprAt K H' a ts → HeldN K (fun b => H0 b = none) H' a → Q .non H') ∧ (sprB ts = false → ∀ H', Oth a H H' → E (.ref (He.ga K "NoPiece")) none H')
theorem fb_Spread_init {P : Program} {w : World} {K : PySem.W.Frag} {mg : Str → Option Value} {base : Heap} (T : Env K mg) : ∃ fd, FunD K "__init__" "Spread.__init__" (defArgs s_Spread_init) (defBody s_Spread_init) (defScope s_Spread_init) [] [] (He.ma K (He.ga K "Spread") "__init__") fd ∧ Fb P w K mg base 64 (He.ma K (He.ga K "Spread") "__init__") fd ["self", "parts"] (sp_Spread_init K) := by
  obtain ⟨fd, F⟩ := T.f_Spread_init
  refine ⟨fd, F, fb_of F sc_Spread_init (fun vs H Q E h => ?_) (fun cdv A outer s H vs Q E hr h => ?_)⟩
  · obtain ⟨a, dx, p, as, ts, H0, rfl, _⟩ := h
    rfl
  · obtain ⟨a, dx, p, as, ts, H0, rfl, ha, na0, X0, hp, hA, hn, hok, hlm, hlt, q, qe⟩ := h
    refine ⟨_, (pss_cons (ps_fld (pv 0) (c_call (ok_shorts_in T) (hr.mono (by decide)) T.g_shorts_in T.k_shorts_in (takes_of rfl rfl rfl rfl) (pa_cons (pv 1) pa_nil)) rfl)
      (pss_cons (ps_if (pt_cmpR op_gt (c_call (ok_row_many T (Nat.le_add_right 40 _) (all_Over_means_many T 9)) (hr.mono (by decide)) T.g_row_many T.k_row_many (takes_of rfl rfl rfl rfl) (pa_cons (pe_fld (pv 0) (by rfl)) pa_nil)) (pe_k T.v_MOST_MOMENTS) (nomark _))
      (pss_one (ps_raise rfl (takes_of rfl rfl rfl rfl) (pmk_own PySem.F.excBase_ValueError T.x_NoPiece.x T.g_NoPiece T.x_NoPiece.kp (raises_own T.x_NoPiece.sub T.x_NoPiece.ty) rfl)))
      pss_nil)
      (pss_one (ps_fld (pv 0) (c_call (ok_row_moments T (Nat.le_add_right 40 _) (all_Over_moments T 9)) (hr.mono (by decide)) T.g_row_moments T.k_row_moments (takes_of rfl rfl rfl rfl) (pa_cons (pe_fld (pv 0) (by rfl)) pa_nil)) rfl)))), ?_⟩
    have hpH : SqA H p (as.map V.ref) := hp.imp (fun h => X0 _ _ h) (fun h => X0 _ _ h)
    refine ⟨_, rfl, p, as, ts, rfl, hpH, hA.mono X0, by omega, hok, hlt, fun hr2 t H1 X1 ht => ?_, fun hr2 H1 X1 => qe (by unfold sprB; rw [hr2]; rfl) H1 (ex_oth X1)⟩
    refine ⟨_, rfl, a, _, dx, [], rfl, X1 _ _ ha, T.c_Spread, T.a_Spread_kept, by decide, ?_⟩
    have ta : t ≠ a := fun z => by rw [z, X1 _ _ ha] at ht; cases ht
    have O1 : Oth a H (upd H1 a (.ins (SpreadC K) dx (putF "kept" (.ref t) []))) := (ex_oth X1).upd
    have h2 : upd H1 a (.ins (SpreadC K) dx (putF "kept" (.ref t) [])) a = some (.ins (SpreadC K) dx [("kept", .ref t)]) := upd_same
    have ht2 : upd H1 a (.ins (SpreadC K) dx (putF "kept" (.ref t) [])) t = some (.tup (as.map V.ref)) := by rw [upd_ne ta]; exact ht
    generalize upd H1 a (.ins (SpreadC K) dx (putF "kept" (.ref t) [])) = H2 at O1 h2 ht2 ⊢
    have X02 : Ex H0 H2 := Oth.ex X0 na0 O1
    have hA2 : ShsAt K H2 ts as := hA.mono X02
    refine ⟨_, rfl, a, _, dx, _, _, rfl, h2, T.c_Spread, T.a_Spread_kept, rfl, t, as, ts, rfl, ht2, hA2, by omega, hok, hlm, fun H3 X3 => ⟨_, _, rfl, rfl, _, rfl, ?_⟩⟩
    by_cases c : (momsL ts).length ≤ 1440
    · rw [decide_eq_false (show ¬ (1440 : Int) < (((momsL ts).length : Nat) : Int) by omega)]
      refine iteF ?_
      refine ⟨_, rfl, a, _, dx, _, _, rfl, X3 _ _ h2, T.c_Spread, T.a_Spread_kept, rfl, t, as, ts, rfl, X3 _ _ ht2, hA2.mono X3, by omega, hok, c, fun hd H4 X4 nhd hhd => ?_⟩
      have X34 := X3.trans X4
      have hda : hd ≠ a := fun z => by rw [z, X34 _ _ h2] at hhd; cases hhd
      refine ⟨_, rfl, a, _, dx, _, rfl, X34 _ _ h2, T.c_Spread, T.a_Spread_held, Nat.le_of_ble_eq_true rfl, ?_⟩
      have O4 : Oth a H (upd H4 a (.ins (SpreadC K) dx (sprF t hd))) := (O1.trans (ex_oth X34)).upd
      refine q (by unfold sprB; rw [hr2, decide_eq_true c]; rfl) _ O4 ⟨dx, t, hd, as, upd_same, by rw [upd_ne ta]; exact X34 _ _ ht2, by rw [upd_ne hda]; exact hhd, hA.mono (Oth.ex X0 na0 O4)⟩ fun dx' kp' hd' e => ?_
      rw [upd_same] at e
      rw [← (sprF_inj (ins_inj e).2).2]
      exact ex_fresh (X02.trans X3) nhd
    · rw [decide_eq_true (show (1440 : Int) < (((momsL ts).length : Nat) : Int) by omega)]
      exact iteT (qe (by unfold sprB; rw [decide_eq_false c, Bool.and_false]) H3 (O1.trans (ex_oth X3)))
theorem spread_new {K : PySem.W.Frag} {H : Hp} {x dx p : Addr} {as : List Addr} {ts : List Tr} {Q : VK} {E : XK} (nx : H x = none) (nd : H dx = none) (ne : dx ≠ x) (hp : SqA H p (as.map V.ref)) (hA : ShsAt K H ts as) (hn : nestL ts ≤ 8) (hok : okL_ ts) (hb : sprB ts = true) (q : ∀ H', Ex H H' → SprAt K H' x ts → Q .non H') :
    sp_Spread_init K [.ref x, .ref p] (upd (upd H dx (.own x)) x (.ins (SpreadC K) dx [])) Q E := by
  have X1 := ex_made (o1 := .own x) (o2 := .ins (SpreadC K) dx []) nx nd ne
  have hl : (momsL ts).length ≤ 1440 := of_decide_eq_true (Bool.and_eq_true_iff.mp hb).2
  have h2 := len_moms hok
  refine ⟨x, dx, p, as, ts, H, rfl, upd_same, nx, X1, hp, hA, hn, hok, by omega, by omega, fun _ H' k d _ => ?_, fun z => by rw [hb] at z; cases z⟩
  exact q H' (fun b o e => k b o (ne_of_none e nx) (X1 _ _ e)) d
theorem spread_newH {K : PySem.W.Frag} {H : Hp} {x dx p : Addr} {as : List Addr} {ts : List Tr} {Q : VK} {E : XK} (nx : H x = none) (nd : H dx = none) (ne : dx ≠ x) (hp : SqA H p (as.map V.ref)) (hA : ShsAt K H ts as) (hn : nestL ts ≤ 8) (hok : okL_ ts) (hb : sprB ts = true) (q : ∀ H', Ex H H' → SprAt K H' x ts → HeldN K (fun b => H b = none) H' x → Q .non H') :
    sp_Spread_init K [.ref x, .ref p] (upd (upd H dx (.own x)) x (.ins (SpreadC K) dx [])) Q E := by
  have X1 := ex_made (o1 := .own x) (o2 := .ins (SpreadC K) dx []) nx nd ne
  have hl : (momsL ts).length ≤ 1440 := of_decide_eq_true (Bool.and_eq_true_iff.mp hb).2
  have h2 := len_moms hok
  refine ⟨x, dx, p, as, ts, H, rfl, upd_same, nx, X1, hp, hA, hn, hok, by omega, by omega, fun _ H' k d e => ?_, fun z => by rw [hb] at z; cases z⟩
  exact q H' (fun b o e => k b o (ne_of_none e nx) (X1 _ _ e)) d e
theorem ok_Spread_init {P : Program} {w : World} {K : PySem.W.Frag} {mg : Str → Option Value} {base : Heap} (T : Env K mg) : Fc P w K mg base 64 (He.ma K (He.ga K "Spread") "__init__") [] (sp_Spread_init K ) := by
  obtain ⟨fd, D, F⟩ := fb_Spread_init T
  exact F.all (D.bindsN fun _ _ _ _ _ _ us hl => match us, hl with | [_, _], _ => rfl)
end
section
def sp_Spread_moments (K : PySem.W.Frag) : Sp := fun vs H Q _ => ∃ a ts, vs = [.ref a] ∧ SprAt K H a ts ∧ ∀ p, H p = none → Q (.ref p) (upd H p (.lst (natV (momsL ts))))
theorem fb_Spread_moments {P : Program} {w : World} {K : PySem.W.Frag} {mg : Str → Option Value} {base : Heap} (T : Env K mg) : ∃ fd, FunD K "moments" "Spread.moments" (defArgs s_Spread_moments) (defBody s_Spread_moments) (defScope s_Spread_moments) [] [] (He.ma K (He.ga K "Spread") "moments") fd ∧ Fb P w K mg base 1 (He.ma K (He.ga K "Spread") "moments") fd ["self"] (sp_Spread_moments K) := by
  obtain ⟨fd, F⟩ := T.f_Spread_moments
  refine ⟨fd, F, fb_of F sc_Spread_moments (fun vs H Q E h => ?_) (fun cdv A outer s H vs Q E hr h => ?_)⟩
  · obtain ⟨a, ts, rfl, _⟩ := h
    rfl
  · obtain ⟨a, ts, rfl, hO, q⟩ := h
    refine ⟨_, (pss_one (ps_ret (pe_callTy call_list_of (by rfl) T.n_list (by decide +kernel) (pa_cons (pe_fld (pv 0) (by rfl)) pa_nil)))), ?_⟩
    obtain ⟨dx, kp, hd, as, ha, hk, hh, hA⟩ := id hO
    exact ⟨_, rfl, a, _, dx, _, _, rfl, ha, T.c_Spread, T.a_Spread_held, rfl, hd, _, rfl, .inl (sq_lst hh), q⟩
theorem ok_Spread_moments {P : Program} {w : World} {K : PySem.W.Frag} {mg : Str → Option Value} {base : Heap} (T : Env K mg) : Fc P w K mg base 1 (He.ma K (He.ga K "Spread") "moments") [] (sp_Spread_moments K ) := by
  obtain ⟨fd, D, F⟩ := fb_Spread_moments T
  exact F.all (D.bindsN fun _ _ _ _ _ _ us hl => match us, hl with | [_], _ => rfl)
end
section
def sp_Spread_str (K : PySem.W.Frag) : Sp := fun vs H Q _ => ∃ a ts, vs = [.ref a] ∧ SprAt K H a ts ∧ nestL ts ≤ 9 ∧ fitL ts ∧ pcsL ts ≤ 10000 ∧ ∀ H', Ex H H' → Q (.str (SX.S (rowT (txtL ts)))) H'
theorem fb_Spread_str {P : Program} {w : World} {K : PySem.W.Frag} {mg : Str → Option Value} {base : Heap} (T : Env K mg) : ∃ fd, FunD K "__str__" "Spread.__str__" (defArgs s_Spread_str) (defBody s_Spread_str) (defScope s_Spread_str) [] [] (He.ma K (He.ga K "Spread") "__str__") fd ∧ Fb P w K mg base 80 (He.ma K (He.ga K "Spread") "__str__") fd ["self"] (sp_Spread_str K) := by
  obtain ⟨fd, F⟩ := T.f_Spread_str
  refine ⟨fd, F, fb_of F sc_Spread_str (fun vs H Q E h => ?_) (fun cdv A outer s H vs Q E hr h => ?_)⟩
  · obtain ⟨a, ts, rfl, _⟩ := h
    rfl
  · obtain ⟨a, ts, rfl, hO, hn, hf, hc, q⟩ := h
    refine ⟨_, (pss_one (ps_ret (pe_joined1 (pe_fmt (c_call (ok_row_text T (Nat.le_add_right 40 _) (all_Over_str T 9)) (hr.mono (by decide)) T.g_row_text T.k_row_text takes0 (pa_cons (pe_fld (pv 0) (by rfl)) pa_nil)))))), ?_⟩
    have rl := rowT_len hf
    obtain ⟨dx, kp, hd, as, ha, hk, hA, hh⟩ := hO
    refine ⟨_, rfl, _, _, _, _, _, rfl, ha, T.c_Spread, T.a_Spread_kept, rfl, _, _, _, rfl, hk, hh, hn, hf, hc, ?_⟩
    intro H1 X1
    exact .inl ⟨_, rfl, sz_big (by rw [SX.S_len]; omega), q H1 X1⟩
theorem ok_Spread_str {P : Program} {w : World} {K : PySem.W.Frag} {mg : Str → Option Value} {base : Heap} (T : Env K mg) : Fc P w K mg base 80 (He.ma K (He.ga K "Spread") "__str__") [] (sp_Spread_str K ) := by
  obtain ⟨fd, D, F⟩ := fb_Spread_str T
  exact F.all (D.bindsN fun _ _ _ _ _ _ us hl => match us, hl with | [_], _ => rfl)
end
section
def sp_want (K : PySem.W.Frag) : Sp := fun vs H Q E => ∃ (b : Bool) (z : Str), vs = [.bl b, .str z] ∧ (b = true → Q .non H) ∧ (b = false → E (.ref (He.ga K "NoCard")) none H)
theorem fb_want {P : Program} {w : World} {K : PySem.W.Frag} {mg : Str → Option Value} {base : Heap} (T : Env K mg) : ∃ fd, FunD K "want" "want" (defArgs s_want) (defBody s_want) (defScope s_want) [] [] (He.ga K "want") fd ∧ Fb P w K mg base 1 (He.ga K "want") fd ["truth", "words"] (sp_want K) := by
  obtain ⟨fd, F⟩ := T.f_want
  refine ⟨fd, F, fb_of F sc_want (fun vs H Q E h => ?_) (fun cdv A outer s H vs Q E hr h => ?_)⟩
  · obtain ⟨b, z, rfl, _⟩ := h
    rfl
  · obtain ⟨b, z, rfl, q, qe⟩ := h
    refine ⟨_, (pss_one (ps_if (pt_not (pt_val (pv 0)))
      (pss_one (ps_raise rfl (takes_of rfl rfl rfl rfl) (pmk_ret rfl (pe_exc1 PySem.F.excBase_ValueError T.x_NoCard.x T.g_NoCard T.x_NoCard.kp rfl (pv 1)))))
      pss_nil)), ?_⟩
    refine ⟨_, rfl, b, rfl, ?_⟩
    cases b with
    | true => exact iteF (q rfl)
    | false =>
      refine iteT ⟨_, rfl, fun a na => ⟨a, _, rfl, upd_same, fr0_none na, raises_own T.x_NoCard.sub T.x_NoCard.ty, ?_⟩⟩
      rw [delH_new na]
      exact qe rfl
theorem ok_want {P : Program} {w : World} {K : PySem.W.Frag} {mg : Str → Option Value} {base : Heap} (T : Env K mg) : Fc P w K mg base 1 (He.ga K "want") [] (sp_want K ) := by
  obtain ⟨fd, D, F⟩ := fb_want T
  exact F.all (D.bindsN fun _ _ _ _ _ _ us hl => match us, hl with | [_, _], _ => rfl)
end
section
inductive CardD where
  | once (ts : List Tr) (ws : List Str)
  | every (D : DaysD) (ts : List Tr) (ws : List Str)
  | join (cs : List CardD)
  | less (c d : CardD)
  | swap (c : CardD) (D : DaysD) (d : CardD)
  | later (c : CardD) (m : Nat)
  | noted (c : CardD) (z : Str)
  | as_ (z : Str)
def CardD.inner : CardD → List CardD
  | .join cs => cs
  | .less c d => [c, d]
  | .swap c _ d => [c, d]
  | .later c _ => [c]
  | .noted c _ => [c]
  | _ => []
mutual
/-- how many cards it has in it -/
def CardD.wt : CardD → Nat
  | .join cs => 1 + wtL cs
  | .less c d => 1 + (c.wt + d.wt)
  | .swap c _ d => 1 + (c.wt + d.wt)
  | .later c _ => 1 + c.wt
  | .noted c _ => 1 + c.wt
  | .once _ _ => 1
  | .every _ _ _ => 1
  | .as_ _ => 1
def wtL : List CardD → Nat
  | [] => 0
  | c :: cs => c.wt + wtL cs
end
theorem CardD.wt_eq (c : CardD) : c.wt = 1 + wtL c.inner := by
  cases c <;> simp [CardD.wt, CardD.inner, wtL]
theorem CardD.wt_pos (c : CardD) : 1 ≤ c.wt := by
  rw [c.wt_eq]
  omega
theorem wtL_mem {c : CardD} : ∀ {cs : List CardD}, c ∈ cs → c.wt ≤ wtL cs
  | x :: r, h => by
    show _ ≤ x.wt + wtL r
    rcases List.mem_cons.mp h with rfl | h
    · omega
    · have := wtL_mem h
      omega
theorem wtL_len : ∀ cs : List CardD, cs.length ≤ wtL cs
  | [] => Nat.le_refl _
  | c :: cs => by
    show cs.length + 1 ≤ c.wt + wtL cs
    have := wtL_len cs
    have := c.wt_pos
    omega
theorem wtL_take : ∀ (i : Nat) (cs : List CardD), wtL (cs.take i) ≤ wtL cs
  | 0, cs => Nat.zero_le _
  | i + 1, [] => Nat.le_refl _
  | i + 1, x :: r => by
    show x.wt + wtL (r.take i) ≤ x.wt + wtL r
    have := wtL_take i r
    omega
theorem inner_wt {c d : CardD} (h : d ∈ c.inner) : d.wt < c.wt := by
  have := wtL_mem h
  rw [c.wt_eq]
  omega
mutual
/-- the name of the first As -/
def CardD.fst : CardD → Option Str
  | .as_ z => some z
  | .join cs => fstL cs
  | .less c d => (match c.fst with | some z => some z | none => d.fst)
  | .swap c _ d => (match c.fst with | some z => some z | none => d.fst)
  | .later c _ => c.fst
  | .noted c _ => c.fst
  | .once _ _ => none
  | .every _ _ _ => none
def fstL : List CardD → Option Str
  | [] => none
  | c :: cs => (match c.fst with | some z => some z | none => fstL cs)
end
def CardD.isAs : CardD → Bool
  | .as_ _ => true
  | _ => false
/-- the moments of a spread as a dict's keys -/
def ownK (ms : List Nat) : List (Key × V) := ms.map fun (n : Nat) => (Sum.inl (n : Int), V.bl true)
theorem ownK_get (n : Nat) : ∀ ms : List Nat, valV (ownK ms) (Sum.inl (n : Int)) = if n ∈ ms then some (V.bl true) else none
  | [] => rfl
  | m :: ms => by
    show valV ((Sum.inl ((m : Nat) : Int), V.bl true) :: ownK ms) _ = _
    by_cases h : m = n
    · subst h
      rw [valV_pos rfl, if_pos List.mem_cons_self]
    · rw [valV_neg (fun z => h (by injection z with z; omega)), ownK_get n ms]
      by_cases c : n ∈ ms
      · rw [if_pos c, if_pos (List.mem_cons_of_mem _ c)]
      · rw [if_neg c, if_neg fun z => (List.mem_cons.mp z).elim (fun e => h e.symm) c]
theorem ownK_merge : ∀ (ms xs : List Nat), (xs ++ ms).Nodup → mergeK (ownK xs) (ownK ms) = ownK (xs ++ ms)
  | [], xs, _ => by
    rw [List.append_nil]
    rfl
  | m :: ms, xs, h => by
    show mergeK (putK (ownK xs) (Sum.inl ((m : Nat) : Int)) (V.bl true)) (ownK ms) = _
    have hm : m ∉ xs := fun z => (List.nodup_append.mp h).2.2 m z m List.mem_cons_self rfl
    rw [putK_new _ (by rw [ownK_get, if_neg hm])]
    have e : ownK xs ++ [(Sum.inl ((m : Nat) : Int), V.bl true)] = ownK (xs ++ [m]) := by
      unfold ownK
      rw [List.map_append]
      rfl
    rw [e, ownK_merge ms (xs ++ [m]) (by rw [List.append_assoc]; exact h), List.append_assoc]
    rfl
end
section
abbrev GoingC (K : PySem.W.Frag) : Addr := He.ga K "Going"
def goF (n : Nat) (kp : Addr) : List (Str × V) := [("moment", .int (n : Nat)), ("notes", .ref kp)]
/-- at a a Going of a moment and notes -/
def GoAt (K : PySem.W.Frag) (H : Hp) (a : Addr) (n : Nat) (ws : List Str) : Prop := ∃ dx kp, H a = some (.ins (GoingC K) dx (goF n kp)) ∧ H kp = some (.tup (ws.map V.str)) ∧ Nms ws ∧ ws.length ≤ 1000
theorem GoAt.mono {K : PySem.W.Frag} {H H' : Hp} {a : Addr} {n : Nat} {ws : List Str} (h : GoAt K H a n ws) (e : Ex H H') : GoAt K H' a n ws := let ⟨dx, kp, h1, h2, h3⟩ := h; ⟨dx, kp, e _ _ h1, e _ _ h2, h3⟩
end
section
abbrev CardC (K : PySem.W.Frag) : Addr := He.ga K "Card"
def cdF (h : Addr) (w : Nat) (fs : List (Str × V)) : List (Str × V) := ("held", .ref h) :: ("weight", .int (w : Nat)) :: fs
mutual
/-- at a this card -/
def CardAt (K : PySem.W.Frag) (H : Hp) : CardD → Addr → Prop
  | .once ts ws, a => ∃ dx h s nt ow, H a = some (.ins (He.ga K "Once") dx (cdF h 1 [("spread", .ref s), ("notes", .ref nt), ("own", .ref ow)])) ∧ H h = some (.lst []) ∧ SprAt K H s ts ∧ H nt = some (.tup (ws.map V.str)) ∧ H ow = some (.dK (ownK (momsL ts)))
  | .every D ts ws, a => ∃ dx h r s nt ow, H a = some (.ins (He.ga K "Every") dx (cdF h 1 [("days", .ref r), ("spread", .ref s), ("notes", .ref nt), ("own", .ref ow)])) ∧ H h = some (.lst []) ∧ DaysAt K H r D ∧ SprAt K H s ts ∧ H nt = some (.tup (ws.map V.str)) ∧ H ow = some (.dK (ownK (momsL ts)))
  | .join cs, a => ∃ dx h as, H a = some (.ins (He.ga K "Join") dx (cdF h (1 + wtL cs) [])) ∧ H h = some (.lst (as.map V.ref)) ∧ CardsAt K H cs as
  | .less c d, a => ∃ dx h b e, H a = some (.ins (He.ga K "Less") dx (cdF h (1 + (c.wt + d.wt)) [])) ∧ H h = some (.lst [.ref b, .ref e]) ∧ CardAt K H c b ∧ CardAt K H d e
  | .swap c D d, a => ∃ dx h b e r, H a = some (.ins (He.ga K "Swap") dx (cdF h (1 + (c.wt + d.wt)) [("days", .ref r)])) ∧ H h = some (.lst [.ref b, .ref e]) ∧ CardAt K H c b ∧ CardAt K H d e ∧ DaysAt K H r D
  | .later c m, a => ∃ dx h b, H a = some (.ins (He.ga K "Later") dx (cdF h (1 + c.wt) [("minutes", .int (m : Nat))])) ∧ H h = some (.lst [.ref b]) ∧ CardAt K H c b
  | .noted c z, a => ∃ dx h b, H a = some (.ins (He.ga K "Noted") dx (cdF h (1 + c.wt) [("note", .str z)])) ∧ H h = some (.lst [.ref b]) ∧ CardAt K H c b
  | .as_ z, a => ∃ dx h, H a = some (.ins (He.ga K "As") dx (cdF h 1 [("name", .str z)])) ∧ H h = some (.lst [])
def CardsAt (K : PySem.W.Frag) (H : Hp) : List CardD → List Addr → Prop
  | [], as => as = []
  | c :: cs, as => ∃ a r, as = a :: r ∧ CardAt K H c a ∧ CardsAt K H cs r
end
mutual
theorem CardAt.mono {K : PySem.W.Frag} {H H' : Hp} (e : Ex H H') : ∀ {c : CardD} {a : Addr}, CardAt K H c a → CardAt K H' c a
  | .once ts ws, a, h => by
    unfold CardAt at h ⊢
    obtain ⟨dx, hd, s, nt, ow, h1, h2, h3, h4, h5⟩ := h
    exact ⟨dx, hd, s, nt, ow, e _ _ h1, e _ _ h2, h3.mono e, e _ _ h4, e _ _ h5⟩
  | .every D ts ws, a, h => by
    unfold CardAt at h ⊢
    obtain ⟨dx, hd, r, s, nt, ow, h1, h2, h0, h3, h4, h5⟩ := h
    exact ⟨dx, hd, r, s, nt, ow, e _ _ h1, e _ _ h2, h0.mono e, h3.mono e, e _ _ h4, e _ _ h5⟩
  | .join cs, a, h => by
    unfold CardAt at h ⊢
    obtain ⟨dx, hd, as, h1, h2, h3⟩ := h
    exact ⟨dx, hd, as, e _ _ h1, e _ _ h2, CardsAt.mono e h3⟩
  | .less c d, a, h => by
    unfold CardAt at h ⊢
    obtain ⟨dx, hd, b, x, h1, h2, h3, h4⟩ := h
    exact ⟨dx, hd, b, x, e _ _ h1, e _ _ h2, CardAt.mono e h3, CardAt.mono e h4⟩
  | .swap c D d, a, h => by
    unfold CardAt at h ⊢
    obtain ⟨dx, hd, b, x, r, h1, h2, h3, h4, h5⟩ := h
    exact ⟨dx, hd, b, x, r, e _ _ h1, e _ _ h2, CardAt.mono e h3, CardAt.mono e h4, h5.mono e⟩
  | .later c m, a, h => by
    unfold CardAt at h ⊢
    obtain ⟨dx, hd, b, h1, h2, h3⟩ := h
    exact ⟨dx, hd, b, e _ _ h1, e _ _ h2, CardAt.mono e h3⟩
  | .noted c z, a, h => by
    unfold CardAt at h ⊢
    obtain ⟨dx, hd, b, h1, h2, h3⟩ := h
    exact ⟨dx, hd, b, e _ _ h1, e _ _ h2, CardAt.mono e h3⟩
  | .as_ z, a, h => by
    unfold CardAt at h ⊢
    obtain ⟨dx, hd, h1, h2⟩ := h
    exact ⟨dx, hd, e _ _ h1, e _ _ h2⟩
theorem CardsAt.mono {K : PySem.W.Frag} {H H' : Hp} (e : Ex H H') : ∀ {cs : List CardD} {as : List Addr}, CardsAt K H cs as → CardsAt K H' cs as
  | [], as, h => by
    unfold CardsAt at h ⊢
    exact h
  | c :: cs, as, h => by
    unfold CardsAt at h ⊢
    obtain ⟨a, r, h1, h2, h3⟩ := h
    exact ⟨a, r, h1, CardAt.mono e h2, CardsAt.mono e h3⟩
end
theorem CardsAt.one {K : PySem.W.Frag} {H : Hp} {c : CardD} {a : Addr} (h : CardAt K H c a) : CardsAt K H [c] [a] := by
  unfold CardsAt
  exact ⟨a, [], rfl, h, by unfold CardsAt; rfl⟩
theorem CardsAt.cons {K : PySem.W.Frag} {H : Hp} {c : CardD} {a : Addr} {cs : List CardD} {as : List Addr} (h : CardAt K H c a) (t : CardsAt K H cs as) : CardsAt K H (c :: cs) (a :: as) := by
  unfold CardsAt
  exact ⟨a, as, rfl, h, t⟩
theorem CardsAt.len {K : PySem.W.Frag} {H : Hp} : ∀ {cs : List CardD} {as : List Addr}, CardsAt K H cs as → as.length = cs.length
  | [], as, h => by
    unfold CardsAt at h
    rw [h]
    rfl
  | c :: cs, as, h => by
    unfold CardsAt at h
    obtain ⟨a, r, rfl, _, h3⟩ := h
    rw [List.length_cons, List.length_cons, h3.len]
theorem CardsAt.get {K : PySem.W.Frag} {H : Hp} : ∀ {cs : List CardD} {as : List Addr} {i : Nat} {a : Addr}, CardsAt K H cs as → as[i]? = some a → ∃ c, cs[i]? = some c ∧ CardAt K H c a
  | [], as, i, a, h, e => by
    unfold CardsAt at h
    rw [h] at e
    cases e
  | c :: cs, as, i, a, h, e => by
    unfold CardsAt at h
    obtain ⟨b, r, rfl, h2, h3⟩ := h
    cases i with
    | zero =>
      cases e
      exact ⟨c, rfl, h2⟩
    | succ i => exact h3.get e
/-- what the head says of a card's class -/
structure CdC (K : PySem.W.Frag) (C : Addr) (b : Bool) : Prop where
  cls : Cls K C
  ins : InsC K C
  held : NoAttr K C "held"
  weight : NoAttr K C "weight"
  inner : Meth K C "inner" (He.ma K (CardC K) "inner")
  isCard : PySem.W.kitOne K (.ref C) (.ref (CardC K)) = some true
def cdCls (K : PySem.W.Frag) : CardD → Addr
  | .once _ _ => He.ga K "Once"
  | .every _ _ _ => He.ga K "Every"
  | .join _ => He.ga K "Join"
  | .less _ _ => He.ga K "Less"
  | .swap _ _ _ => He.ga K "Swap"
  | .later _ _ => He.ga K "Later"
  | .noted _ _ => He.ga K "Noted"
  | .as_ _ => He.ga K "As"
theorem card_gen {K : PySem.W.Frag} {mg : Str → Option Value} (T : Env K mg) {H : Hp} {a : Addr} : ∀ {c : CardD}, CardAt K H c a → ∃ dx hd as fs, H a = some (.ins (cdCls K c) dx (cdF hd c.wt fs)) ∧ H hd = some (.lst (as.map V.ref)) ∧ CardsAt K H c.inner as ∧ CdC K (cdCls K c) c.isAs ∧
    (cdF hd c.wt fs).lookup (Str.ofString "inner") = none ∧ (cdF hd c.wt fs).lookup (Str.ofString "notes_at") = none ∧ (cdF hd c.wt fs).lookup (Str.ofString "moments_within") = none ∧ (cdF hd c.wt fs).lookup (Str.ofString "size") = none
  | .once ts ws, h => by
    unfold CardAt at h
    obtain ⟨dx, hd, s, nt, ow, h1, h2, h3, h4, h5⟩ := h
    exact ⟨dx, hd, [], _, h1, h2, by unfold CardsAt; rfl, ⟨T.c_Once, T.i_Once, T.a_Once_held, T.a_Once_weight, T.e_Once_inner ▸ T.m_Once_inner, T.kit_Once_Card⟩, rfl, rfl, rfl, rfl⟩
  | .every D ts ws, h => by
    unfold CardAt at h
    obtain ⟨dx, hd, r, s, nt, ow, h1, h2, h0, h3, h4, h5⟩ := h
    exact ⟨dx, hd, [], _, h1, h2, by unfold CardsAt; rfl, ⟨T.c_Every, T.i_Every, T.a_Every_held, T.a_Every_weight, T.e_Every_inner ▸ T.m_Every_inner, T.kit_Every_Card⟩, rfl, rfl, rfl, rfl⟩
  | .join cs, h => by
    unfold CardAt at h
    obtain ⟨dx, hd, as, h1, h2, h3⟩ := h
    exact ⟨dx, hd, as, _, h1, h2, h3, ⟨T.c_Join, T.i_Join, T.a_Join_held, T.a_Join_weight, T.e_Join_inner ▸ T.m_Join_inner, T.kit_Join_Card⟩, rfl, rfl, rfl, rfl⟩
  | .less c d, h => by
    unfold CardAt at h
    obtain ⟨dx, hd, b, e, h1, h2, h3, h4⟩ := h
    exact ⟨dx, hd, [b, e], _, h1, h2, by unfold CardsAt; exact ⟨b, [e], rfl, h3, by unfold CardsAt; exact ⟨e, [], rfl, h4, by unfold CardsAt; rfl⟩⟩, ⟨T.c_Less, T.i_Less, T.a_Less_held, T.a_Less_weight, T.e_Less_inner ▸ T.m_Less_inner, T.kit_Less_Card⟩, rfl, rfl, rfl, rfl⟩
  | .swap c D d, h => by
    unfold CardAt at h
    obtain ⟨dx, hd, b, e, r, h1, h2, h3, h4, h5⟩ := h
    exact ⟨dx, hd, [b, e], _, h1, h2, by unfold CardsAt; exact ⟨b, [e], rfl, h3, by unfold CardsAt; exact ⟨e, [], rfl, h4, by unfold CardsAt; rfl⟩⟩, ⟨T.c_Swap, T.i_Swap, T.a_Swap_held, T.a_Swap_weight, T.e_Swap_inner ▸ T.m_Swap_inner, T.kit_Swap_Card⟩, rfl, rfl, rfl, rfl⟩
  | .later c m, h => by
    unfold CardAt at h
    obtain ⟨dx, hd, b, h1, h2, h3⟩ := h
    exact ⟨dx, hd, [b], _, h1, h2, by unfold CardsAt; exact ⟨b, [], rfl, h3, by unfold CardsAt; rfl⟩, ⟨T.c_Later, T.i_Later, T.a_Later_held, T.a_Later_weight, T.e_Later_inner ▸ T.m_Later_inner, T.kit_Later_Card⟩, rfl, rfl, rfl, rfl⟩
  | .noted c z, h => by
    unfold CardAt at h
    obtain ⟨dx, hd, b, h1, h2, h3⟩ := h
    exact ⟨dx, hd, [b], _, h1, h2, by unfold CardsAt; exact ⟨b, [], rfl, h3, by unfold CardsAt; rfl⟩, ⟨T.c_Noted, T.i_Noted, T.a_Noted_held, T.a_Noted_weight, T.e_Noted_inner ▸ T.m_Noted_inner, T.kit_Noted_Card⟩, rfl, rfl, rfl, rfl⟩
  | .as_ z, h => by
    unfold CardAt at h
    obtain ⟨dx, hd, h1, h2⟩ := h
    exact ⟨dx, hd, [], _, h1, h2, by unfold CardsAt; rfl, ⟨T.c_As, T.i_As, T.a_As_held, T.a_As_weight, T.e_As_inner ▸ T.m_As_inner, T.kit_As_Card⟩, rfl, rfl, rfl, rfl⟩
/-- the list that a card holds stands at a place that N tells, its spread is x -/
def CdN (N : Addr → Prop) (x : V) (H : Hp) (a : Addr) : Prop := ∀ C dx hd w fs, H a = some (.ins C dx (cdF hd w fs)) → N hd ∧ fs.lookup (Str.ofString "spread") = some x
theorem cdN_of {N : Addr → Prop} {x : V} {H : Hp} {a C dx hd : Addr} {w : Nat} {fs : List (Str × V)} (h : H a = some (.ins C dx (cdF hd w fs))) (n : N hd) (l : fs.lookup (Str.ofString "spread") = some x) : CdN N x H a := fun C' dx' hd' w' fs' e => by
  rw [h] at e
  unfold cdF at e
  simp only [Option.some.injEq, HO.ins.injEq, List.cons.injEq, Prod.mk.injEq, V.ref.injEq, true_and] at e
  obtain ⟨_, _, e1, _, e2⟩ := e
  rw [← e1, ← e2]
  exact ⟨n, l⟩
mutual
/-- what is known of a card's parts -/
def CardD.ok : CardD → Prop
  | .once ts ws => Nms ws ∧ ws.Nodup ∧ ws.length ≤ 16 ∧ (momsL ts).length ≤ 1440
  | .every D ts ws => D.ok ∧ Nms ws ∧ ws.Nodup ∧ ws.length ≤ 16 ∧ (momsL ts).length ≤ 1440
  | .join cs => okCs cs ∧ wtL cs < 60 ∧ cs ≠ []
  | .less c d => c.ok ∧ d.ok
  | .swap c D d => c.ok ∧ D.ok ∧ d.ok
  | .later c m => c.ok ∧ m ≤ 10080
  | .noted c z => c.ok ∧ nmN z.cps.toList = true ∧ c.wt < 60
  | .as_ z => nmN z.cps.toList = true
def okCs : List CardD → Prop
  | [] => True
  | c :: cs => c.ok ∧ okCs cs
end
theorem okCs_mem : ∀ {cs : List CardD} {c : CardD}, okCs cs → c ∈ cs → c.ok
  | x :: r, c, h, m => by
    unfold okCs at h
    rcases List.mem_cons.mp m with rfl | m
    · exact h.1
    · exact okCs_mem h.2 m
/-- the notes of a going, or None -/
def NtAt (H : Hp) (x : V) : Option (List Str) → Prop
  | none => x = .non
  | some ws => ∃ p, x = .ref p ∧ H p = some (.tup (ws.map V.str))
theorem NtAt.mono {H H' : Hp} {x : V} {r : Option (List Str)} (h : NtAt H x r) (e : Ex H H') : NtAt H' x r := by
  cases r with
  | none => exact h
  | some ws =>
    obtain ⟨p, h1, h2⟩ := h
    exact ⟨p, h1, e _ _ h2⟩
end
section
/-- a thing of which is told whether it is a card -/
def CdIs (K : PySem.W.Frag) (H : Hp) (x : V) (b : Bool) : Prop := ∃ t, TyX K H x t ∧ PySem.W.kitOne K t (.ref (CardC K)) = some b
theorem CdIs.mono {K : PySem.W.Frag} {H H' : Hp} {x : V} {b : Bool} (h : CdIs K H x b) (e : Ex H H') : CdIs K H' x b := let ⟨t, ty, k⟩ := h; ⟨t, tyX_mono e ty, k⟩
theorem wtL_sum : ∀ cs : List CardD, (cs.map fun c => ((c.wt : Nat) : Int)).sum = ((wtL cs : Nat) : Int)
  | [] => rfl
  | c :: cs => by
    rw [List.map_cons, List.sum_cons, wtL_sum cs]
    show _ = ((c.wt + wtL cs : Nat) : Int)
    omega
/-- what Card's __init__ makes of the instance at a -/
def sp_Card_init (K : PySem.W.Frag) : Sp := fun vs H Q E => ∃ (a C dx p : Addr) (xs : List V) (H0 : Hp) (bf : Nat → Bool), vs = [.ref a, .ref p] ∧ H a = some (.ins C dx []) ∧ H0 a = none ∧ Ex H0 H ∧ Cls K C ∧ NoAttr K C "held" ∧ NoAttr K C "weight" ∧ SqA H p xs ∧ xs.length ≤ 1000 ∧ (∀ i v, xs[i]? = some v → CdIs K H0 v (bf i)) ∧
  ((List.range xs.length).all bf = false → ∀ H', Ex H H' → E (.ref (He.ga K "NoCard")) none H') ∧
  ((List.range xs.length).all bf = true → ∃ (as : List Addr) (cs : List CardD), xs = as.map V.ref ∧ CardsAt K H0 cs as ∧
    (wtL cs < 60 → ∀ hd H', Oth a H H' → H0 hd = none → H' hd = some (.lst xs) → H' a = some (.ins C dx (cdF hd (1 + wtL cs) [])) → Q .non H') ∧
    (60 ≤ wtL cs → ∀ H', Oth a H H' → E (.ref (He.ga K "NoCard")) none H'))
theorem fb_Card_init {P : Program} {w : World} {K : PySem.W.Frag} {mg : Str → Option Value} {base : Heap} (T : Env K mg) : ∃ fd, FunD K "__init__" "Card.__init__" (defArgs s_Card_init) (defBody s_Card_init) (defScope s_Card_init) [] [] (He.ma K (He.ga K "Card") "__init__") fd ∧ Fb P w K mg base 2 (He.ma K (He.ga K "Card") "__init__") fd ["self", "held"] (sp_Card_init K) := by
  obtain ⟨fd, F⟩ := T.f_Card_init
  refine ⟨fd, F, fb_of F sc_Card_init (fun vs H Q E h => ?_) (fun cdv A outer s H vs Q E hr h => ?_)⟩
  · obtain ⟨a, C, dx, p, xs, H0, bf, rfl, _⟩ := h
    rfl
  · obtain ⟨a, C, dx, p, xs, H0, bf, rfl, ha, na0, X0, hC, aH, aW, hp, lx, hv, qb, qg⟩ := h
    refine ⟨_, (pss_cons (ps_expr (c_call (ok_want T) (hr.mono (by decide)) T.g_want T.k_want (takes_of rfl rfl rfl rfl) (pa_cons (pe_callB (cr_all rfl) (by rfl) T.n_all (by decide +kernel) (pa_cons (pe_lc (own := [("one", 2)]) (by rfl) sc_Card_init.nd (pi_seqB (pv 1) K) (blkOk_by (own := [("one", 2)]) (N := ["self", "held", "one"]) (sc := defScope s_Card_init) (by decide +kernel)) (fun _ _ _ _ _ => (pg_name (i := 2) sc_Card_init.nd rfl (Or.inl rfl))) (fun _ _ _ _ _ => pts_nil) (fun _ _ _ _ _ => (pe_callB (call_isiK K) (by rfl) T.n_isinstance (by decide +kernel) (pa_cons (pv 2) (pa_cons (pe_glob (v := .ref _) (by rfl) T.g_Card rfl) pa_nil))))) pa_nil)) (pa_cons pe_str pa_nil))))
      (pss_cons (ps_fld (pv 0) (pe_callTy call_list_of (by rfl) T.n_list (by decide +kernel) (pa_cons (pv 1) pa_nil)) rfl)
      (pss_cons (ps_fld (pv 0) (pe_op op_add pe_int (pe_callB (cr_sum rfl) (by rfl) T.n_sum (by decide +kernel) (pa_cons (pe_lc (own := [("one", 2)]) (by rfl) sc_Card_init.nd (pi_seqB (pv 1) K) (blkOk_by (own := [("one", 2)]) (N := ["self", "held", "one"]) (sc := defScope s_Card_init) (by decide +kernel)) (fun _ _ _ _ _ => (pg_name (i := 2) sc_Card_init.nd rfl (Or.inl rfl))) (fun _ _ _ _ _ => pts_nil) (fun _ _ _ _ _ => (pe_fldK K (pv 2) (by rfl)))) pa_nil))) rfl)
      (pss_one (ps_expr (c_call (ok_want T) (hr.mono (by decide)) T.g_want T.k_want (takes_of rfl rfl rfl rfl) (pa_cons (pe_cmpR op_le (pe_fld (pv 0) (by rfl)) (pe_k T.v_MOST_CARDS) (nomark _)) (pa_cons pe_str pa_nil)))))))), ?_⟩
    have sq : ∀ {H' : Hp}, Ex H H' → SqS K H' p xs := fun {H'} e => hp.elim (fun h => .inl (sq_lst (e _ _ h))) (fun h => .inr (sq_tup (e _ _ h)))
    refine ⟨_, rfl, p, xs, rfl, sq (.refl _), fun J G wk hG A nA => lc_fm wk (fun i => some (V.bl (bf i))) (fun H' => Ex H H') (fun H' l e => ex_mut e nA) (.refl _) (by omega) (fun H' e => hG H' (stays_ex e)) (fun i x H1 H2 acc N hi e hD la y k => ?_) (fun H1 e hD => ?_)⟩
    · obtain ⟨rfl, y⟩ := y
      obtain ⟨t, ty, kt⟩ := (hv i x y).mono (X0.trans e)
      exact ⟨rfl, _, rfl, x, _, t, _, bf i, rfl, .own _, ty, kt, acc, hD, la, k _ e hD⟩
    have eD : (List.range xs.length).filterMap (fun i => some (V.bl (bf i))) = ((List.range xs.length).map bf).map V.bl := by
      rw [List.map_map, ← List.filterMap_eq_map']
      rfl
    rw [eD] at hD
    refine ⟨A, _, rfl, sq_lst hD, ?_⟩
    rw [show ((List.range xs.length).map bf).all id = (List.range xs.length).all bf by rw [List.all_map]; rfl]
    refine ⟨_, _, rfl, fun hb => ?_, fun hb => qb hb H1 e⟩
    obtain ⟨as, cs, exs, hA, q, qe⟩ := qg hb
    refine ⟨_, rfl, p, xs, rfl, sq e, fun hd nd => ?_⟩
    refine ⟨_, rfl, a, C, dx, [], rfl, (ex_new nd _ _ (e _ _ ha)), hC, aH, by decide, ?_⟩
    have fh0 : H0 hd = none := ex_fresh (X0.trans e) nd
    have ha1 := e _ _ ha
    have dh : hd ≠ a := (ne_of_none ha1 nd).symm
    have O1 : Oth a H (upd (upd H1 hd (.lst xs)) a (.ins C dx (putF "held" (.ref hd) []))) := (ex_oth (e.trans (ex_new nd))).upd
    have h2 : upd (upd H1 hd (.lst xs)) a (.ins C dx (putF "held" (.ref hd) [])) a = some (.ins C dx [("held", .ref hd)]) := upd_same
    have hh2 : upd (upd H1 hd (.lst xs)) a (.ins C dx (putF "held" (.ref hd) [])) hd = some (.lst xs) := by rw [upd_ne dh]; exact upd_same
    generalize upd (upd H1 hd (.lst xs)) a (.ins C dx (putF "held" (.ref hd) [])) = H2 at O1 h2 hh2 ⊢
    have X02 : Ex H0 H2 := Oth.ex X0 na0 O1
    have pa : p ≠ a := fun z => by
      rcases hp with h | h
      · rw [z, ha] at h
        cases h
      · rw [z, ha] at h
        cases h
    have sq2 : ∀ {H' : Hp}, Ex H2 H' → SqS K H' p xs := fun {H'} e => hp.elim (fun h => .inl (sq_lst (e _ _ (O1 _ _ pa h)))) (fun h => .inr (sq_tup (e _ _ (O1 _ _ pa h))))
    have hA2 := hA.mono X02
    have lc := hA.len
    have ll : xs.length = cs.length := by rw [exs, List.length_map, lc]
    refine ⟨_, rfl, p, xs, rfl, sq2 (.refl _), fun J G wk hG A2 nA2 => lc_fm wk (fun i => (cs[i]?).bind fun c => some (V.int ((c.wt : Nat) : Int))) (fun H' => Ex H2 H') (fun H' l e => ex_mut e nA2) (.refl _) (by omega) (fun H' e => hG H' (stays_ex e)) (fun i x H1 H2 acc N hi e hD la y k => ?_) (fun H3 e3 hD3 => ?_)⟩
    · obtain ⟨rfl, y⟩ := y
      rw [exs, List.getElem?_map] at y
      obtain ⟨b, eb, rfl⟩ := Option.map_eq_some_iff.mp y
      obtain ⟨c, ec, hc⟩ := hA2.get eb
      obtain ⟨dy, hy, ys, fs, g1, _, _, g4, _⟩ := card_gen T (hc.mono e)
      rw [ec] at k
      exact ⟨rfl, _, rfl, b, _, dy, _, _, rfl, g1, g4.cls, g4.weight, rfl, acc, hD, la, k _ e hD⟩
    rw [ll, range_fm, List.filterMap_eq_map'] at hD3
    have eM : cs.map (fun c => V.int ((c.wt : Nat) : Int)) = (cs.map fun c => ((c.wt : Nat) : Int)).map V.int := by
      rw [List.map_map]
      rfl
    rw [eM] at hD3
    refine ⟨A2, _, rfl, sq_lst hD3, ?_⟩
    rw [wtL_sum]
    refine ⟨_, _, rfl, rfl, ?_⟩
    have ha3 := e3 _ _ h2
    refine ⟨_, rfl, a, C, dx, _, rfl, ha3, hC, aW, by show 1 < 1000; decide, ?_⟩
    have O4 : Oth a H (upd H3 a (.ins C dx (putF "weight" ((fun i j : Int => V.int (i + j)) 1 ((wtL cs : Nat) : Int)) [("held", .ref hd)]))) := (O1.trans (ex_oth e3)).upd
    have h4 : upd H3 a (.ins C dx (putF "weight" ((fun i j : Int => V.int (i + j)) 1 ((wtL cs : Nat) : Int)) [("held", .ref hd)])) a = some (.ins C dx (cdF hd (1 + wtL cs) [])) := upd_same.trans (by
      show some (HO.ins C dx [("held", V.ref hd), ("weight", V.int (1 + ((wtL cs : Nat) : Int)))]) = _
      rw [show (1 : Int) + ((wtL cs : Nat) : Int) = ((1 + wtL cs : Nat) : Int) by omega]
      rfl)
    have hh4 : upd H3 a (.ins C dx (putF "weight" ((fun i j : Int => V.int (i + j)) 1 ((wtL cs : Nat) : Int)) [("held", .ref hd)])) hd = some (.lst xs) := by rw [upd_ne dh]; exact e3 _ _ hh2
    generalize upd H3 a (.ins C dx (putF "weight" ((fun i j : Int => V.int (i + j)) 1 ((wtL cs : Nat) : Int)) [("held", .ref hd)])) = H4 at O4 h4 hh4 ⊢
    refine ⟨_, rfl, a, C, dx, _, _, rfl, h4, hC, aW, rfl, _, _, rfl, rfl, _, _, rfl, fun hb => ?_, fun hb => ?_⟩
    · have h60 := of_decide_eq_true hb
      exact q (by omega) hd H4 O4 fh0 hh4 h4
    · have h60 := of_decide_eq_false hb
      exact qe (by omega) H4 O4
theorem ok_Card_init {P : Program} {w : World} {K : PySem.W.Frag} {mg : Str → Option Value} {base : Heap} (T : Env K mg) : Fc P w K mg base 2 (He.ma K (He.ga K "Card") "__init__") [] (sp_Card_init K ) := by
  obtain ⟨fd, D, F⟩ := fb_Card_init T
  exact F.all (D.bindsN fun _ _ _ _ _ _ us hl => match us, hl with | [_, _], _ => rfl)
end
section
def sp_Card_inner (K : PySem.W.Frag) : Sp := fun vs H Q _ => ∃ (a C dx hd : Addr) (fs : List (Str × V)) (w : Nat) (xs : List V), vs = [.ref a] ∧ H a = some (.ins C dx (cdF hd w fs)) ∧ Cls K C ∧ NoAttr K C "held" ∧ H hd = some (.lst xs) ∧ ∀ p, H p = none → Q (.ref p) (upd H p (.lst xs))
theorem fb_Card_inner {P : Program} {w : World} {K : PySem.W.Frag} {mg : Str → Option Value} {base : Heap} (T : Env K mg) : ∃ fd, FunD K "inner" "Card.inner" (defArgs s_Card_inner) (defBody s_Card_inner) (defScope s_Card_inner) [] [] (He.ma K (He.ga K "Card") "inner") fd ∧ Fb P w K mg base 1 (He.ma K (He.ga K "Card") "inner") fd ["self"] (sp_Card_inner K) := by
  obtain ⟨fd, F⟩ := T.f_Card_inner
  refine ⟨fd, F, fb_of F sc_Card_inner (fun vs H Q E h => ?_) (fun cdv A outer s H vs Q E hr h => ?_)⟩
  · obtain ⟨a, C, dx, hd, fs, w, xs, rfl, _⟩ := h
    rfl
  · obtain ⟨a, C, dx, hd, fs, w, xs, rfl, ha, c, na, hh, q⟩ := h
    refine ⟨_, (pss_one (ps_ret (pe_callTy call_list_of (by rfl) T.n_list (by decide +kernel) (pa_cons (pe_fld (pv 0) (by rfl)) pa_nil)))), ?_⟩
    refine ⟨_, rfl, a, C, dx, _, _, rfl, ha, c, na, rfl, hd, xs, rfl, .inl (sq_lst hh), q⟩
theorem ok_Card_inner {P : Program} {w : World} {K : PySem.W.Frag} {mg : Str → Option Value} {base : Heap} (T : Env K mg) : Fc P w K mg base 1 (He.ma K (He.ga K "Card") "inner") [] (sp_Card_inner K ) := by
  obtain ⟨fd, D, F⟩ := fb_Card_inner T
  exact F.all (D.bindsN fun _ _ _ _ _ _ us hl => match us, hl with | [_], _ => rfl)
end
section
/-- tuples of moments and True -/
def Prs (G : Hp) (ps : List Addr) (ms : List Nat) : Prop := Paired (fun (p : Addr) (n : Nat) => G p = some (.tup [.int (n : Nat), .bl true])) ps ms
theorem prs_imp {G G' : Hp} (k : ∀ b o, (∀ ys, o ≠ .lst ys) → G b = some o → G' b = some o) {ps : List Addr} {ms : List Nat} (h : Prs G ps ms) : Prs G' ps ms := by
  unfold Prs at h ⊢
  induction h with
  | nil => exact .nil
  | cons h1 _ ih => exact .cons (k _ _ nofun h1) ih
theorem prs_len {G : Hp} {ps : List Addr} {ms : List Nat} (h : Prs G ps ms) : ps.length = ms.length := Paired.length h
theorem prs_own {K : PySem.W.Frag} {G : Hp} {ps : List Addr} {ms : List Nat} (h : Prs G ps ms) : Paired (fun (p : Addr) (kv : Key × V) => SqT K G p [kV kv.1, kv.2]) ps (ownK ms) := by
  unfold Prs at h
  induction h with
  | nil => exact .nil
  | cons h1 _ ih => exact .cons (sq_tup h1) ih
theorem lc_own {J : It} {Gd Qd : Hp → Prop} {G0 : Hp} {D : Addr} {ns : List Nat} {g : TG} {tt : TT} {te : TE} {vs : List Nat} {σ : L2.St} (nD : G0 D = none) (w : L2.Walk J (natV ns).length Gd (L2.YAt (natV ns))) (hG : ∀ H, Ex G0 H → Gd H) (hn : ns.length ≤ 2000)
    (hs : ∀ (n : Nat) (H : Hp) (acc : List V) (N : Hp → Prop), Ex G0 H → H D = some (.lst acc) → acc.length < sizeLine → (∀ x H4, Ex H H4 → H4 D = some (.lst acc) → H4 x = some (.tup [.int (n : Nat), .bl true]) → N (upd H4 D (.lst (acc ++ [.ref x])))) → L3.Turn g tt te vs σ D (.int (n : Nat)) H N)
    (hd : ∀ ps H, Ex G0 H → H D = some (.lst (ps.map V.ref)) → Prs H ps ns → Qd H) :
    ∃ W : Nat → Nat → Hp → Prop, (∃ m, W 0 m (upd G0 D (.lst []))) ∧ ∀ i m H, W i m H →
      (J.stop i H ∧ Qd H) ∨ (J.go i H ∧ ∃ Nx : Hp → Prop, (∀ H', Nx H' → ∃ m', m' < m ∧ W (i + 1) m' H') ∧ ∀ x H', J.yld i H x H' → L3.Turn g tt te vs σ D x H' Nx) := by
  refine lc_any w (fun i acc G => Ex G0 G ∧ (G D = none ∨ ∃ xs, G D = some (.lst xs)) ∧ ∃ ps, acc = ps.map V.ref ∧ Prs G ps (ns.take i)) (fun i acc G z e => ?_) ⟨.refl _, .inl nD, [], rfl, .nil⟩ (by rw [natV_len]; omega) (fun i acc G e => ?_) (fun i acc G e => hG _ e.1) (fun i x G G' acc N hi e hA la y k _ => ?_) (fun acc G e hA => ?_)
  · obtain ⟨e1, e2, ps, e3, e4⟩ := e
    refine ⟨ex_mut e1 nD, .inr ⟨z, upd_same⟩, ps, e3, prs_imp (fun b o ho hb => ?_) e4⟩
    rw [upd_ne (fun zb => by
      rw [zb] at hb
      rcases e2 with h2 | ⟨xs, h2⟩
      · rw [h2] at hb
        cases hb
      · rw [h2] at hb
        cases hb
        exact ho _ rfl)]
    exact hb
  · obtain ⟨_, _, ps, rfl, h1⟩ := e
    rw [List.length_map, prs_len h1, List.length_take]
    omega
  · obtain ⟨rfl, y⟩ := y
    obtain ⟨XG, _, ps, rfl, h1⟩ := e
    rw [natV_len] at hi
    have gi : ns[i]? = some ns[i] := List.getElem?_eq_getElem hi
    obtain rfl : x = .int ((ns[i] : Nat) : Int) := by
      unfold natV at y
      rw [List.getElem?_map, gi] at y
      exact (Option.some.inj y).symm
    refine hs _ _ _ _ XG hA la fun x H4 X4 hD4 hx => k _ H4 hD4 ⟨XG.trans X4, .inr ⟨_, hD4⟩, ps ++ [x], by rw [List.map_append]; rfl, ?_⟩
    rw [take_snoc gi]
    exact Paired.snoc (prs_imp (fun b o _ hb => X4 _ _ hb) h1) hx
  · obtain ⟨XG, _, ps, rfl, h1⟩ := e
    rw [natV_len, List.take_length] at h1
    exact hd ps G XG hA h1
end
section
/-- a Spread, or not -/
def SpIs (K : PySem.W.Frag) (H : Hp) (x : V) : Option (List Tr) → Prop
  | some ts => ∃ s, x = .ref s ∧ SprAt K H s ts ∧ (momsL ts).Nodup ∧ (momsL ts).length ≤ 1440
  | none => ∃ t, TyX K H x t ∧ PySem.W.kitOne K t (.ref (SpreadC K)) = some false
theorem SpIs.mono {K : PySem.W.Frag} {H H' : Hp} {x : V} {r : Option (List Tr)} (h : SpIs K H x r) (e : Ex H H') : SpIs K H' x r := by
  cases r with
  | none =>
    obtain ⟨t, ty, k⟩ := h
    exact ⟨t, tyX_mono e ty, k⟩
  | some ts =>
    obtain ⟨s, h1, h2, h3⟩ := h
    exact ⟨s, h1, h2.mono e, h3⟩
def sp_Once_init (K : PySem.W.Frag) : Sp := fun vs H Q E => ∃ (a dx : Addr) (x y : V) (H0 : Hp) (rs : Option (List Tr)) (rn : Option (List Str)), vs = [.ref a, x, y] ∧ H a = some (.ins (He.ga K "Once") dx []) ∧ H0 a = none ∧ Ex H0 H ∧ SpIs K H0 x rs ∧ (∀ ts, rs = some ts → NtX K H0 y rn) ∧
  (∀ ts ws, rs = some ts → rn = some ws → ∀ H', Oth a H H' → CardAt K H' (.once ts ws) a → CdN (fun b => H0 b = none) x H' a → Q .non H') ∧ (rs = none → ∀ H', Ex H H' → E (.ref (He.ga K "NoCard")) none H') ∧ (∀ ts, rs = some ts → rn = none → ∀ H', Oth a H H' → E (.ref (He.ga K "NoCard")) none H')
theorem fb_Once_init {P : Program} {w : World} {K : PySem.W.Frag} {mg : Str → Option Value} {base : Heap} (T : Env K mg) : ∃ fd, FunD K "__init__" "Once.__init__" (defArgs s_Once_init) (defBody s_Once_init) (defScope s_Once_init) [.non] [] (He.ma K (He.ga K "Once") "__init__") fd ∧ Fb P w K mg base 3 (He.ma K (He.ga K "Once") "__init__") fd ["self", "spread", "notes"] (sp_Once_init K) := by
  obtain ⟨fd, F⟩ := T.f_Once_init
  refine ⟨fd, F, fb_of F sc_Once_init (fun vs H Q E h => ?_) (fun cdv A outer s H vs Q E hr h => ?_)⟩
  · obtain ⟨a, dx, x, y, H0, rs, rn, rfl, _⟩ := h
    rfl
  · obtain ⟨a, dx, x, y, H0, rs, rn, rfl, ha, na0, X0, hS, hN, q, qe, qn⟩ := h
    refine ⟨_, (pss_cons (ps_expr (c_call (ok_want T) (hr.mono (by decide)) T.g_want T.k_want (takes_of rfl rfl rfl rfl) (pa_cons (pe_callB call_isi (by rfl) T.n_isinstance (by decide +kernel) (pa_cons (pv 1) (pa_cons (pe_glob (v := .ref _) (by rfl) T.g_Spread rfl) pa_nil))) (pa_cons pe_str pa_nil))))
      (pss_cons (ps_expr (c_clsm T.cm_Card (ok_Card_init T) (hr.mono (by decide)) T.g_Card (takes_of rfl rfl rfl rfl) (pa_cons (pv 0) (pa_cons (pe_lst pa_nil) pa_nil))))
      (pss_cons (ps_fld (pv 0) (pv 1) rfl)
      (pss_cons (ps_fld (pv 0) (c_call (ok_notes_of T) (hr.mono (by decide)) T.g_notes_of T.k_notes_of (takes_of rfl rfl rfl rfl) (pa_cons (pv 2) pa_nil)) rfl)
      (pss_one (ps_fld (pv 0) (pe_callTy (call_dictP rfl) (by rfl) T.n_dict (by decide +kernel) (pa_cons (pe_lc (own := [("moment", 3)]) (by rfl) sc_Once_init.nd (pi_list (c_meth0 (pv 1) T.c_Spread T.m_Spread_moments (ok_Spread_moments T) (hr.mono (by decide)) (takes_of rfl rfl rfl rfl))) (blkOk_by (own := [("moment", 3)]) (N := ["self", "spread", "notes", "moment"]) (sc := defScope s_Once_init) (by decide +kernel)) (fun _ _ _ _ _ => (pg_name (i := 3) sc_Once_init.nd rfl (Or.inl rfl))) (fun _ _ _ _ _ => pts_nil) (fun _ _ _ _ _ => (pe_tup (pa_cons (pv 3) (pa_cons pe_bl pa_nil))))) pa_nil)) rfl)))))), ?_⟩
    have hS1 := hS.mono X0
    obtain ⟨t, b, ty, kt, hb⟩ : ∃ t b, TyX K H x t ∧ PySem.W.kitOne K t (.ref (SpreadC K)) = some b ∧ (b = true → rs.isSome = true) ∧ (b = false → rs = none) := by
      cases rs with
      | none =>
        obtain ⟨t, ty, k⟩ := hS1
        exact ⟨t, false, ty, k, nofun, fun _ => rfl⟩
      | some ts =>
        obtain ⟨s, rfl, ⟨dx2, kp2, hd2, as2, h2, _⟩, _⟩ := hS1
        exact ⟨_, true, ty_ins T.i_Spread T.c_Spread h2, T.kit_Spread_Spread, fun _ => rfl, nofun⟩
    refine ⟨_, rfl, x, _, t, _, b, rfl, .own _, ty, kt, b, _, rfl, fun eb => ?_, fun eb => qe (hb.2 eb) H (.refl _)⟩
    obtain ⟨ts, rfl⟩ := Option.isSome_iff_exists.mp (hb.1 eb)
    obtain ⟨s, rfl, hs, hnd, hms⟩ := hS1
    clear hb kt ty
    refine ⟨_, rfl, by show 0 ≤ sizeLine; decide, fun p np => ?_⟩
    have Xp := ex_new (o := HO.lst []) np
    have hp : upd H p (.lst []) p = some (.lst []) := upd_same
    have ha1 := Xp _ _ ha
    generalize upd H p (.lst []) = H1 at Xp hp ha1 ⊢
    refine ⟨a, _, dx, p, [], H0, fun _ => true, rfl, ha1, na0, X0.trans Xp, T.c_Once, T.a_Once_held, T.a_Once_weight, .inl hp, by decide, nofun, nofun, fun _ => ⟨[], [], rfl, by unfold CardsAt; rfl, fun _ hd H2 O2 nh hh h2 => ?_, nofun⟩⟩
    refine ⟨_, rfl, _, rfl, a, _, dx, _, rfl, h2, T.c_Once, T.a_Once_spread, by show 2 < 1000; decide, ?_⟩
    have e3 : putF "spread" (.ref s) (cdF hd (1 + wtL []) []) = cdF hd 1 [("spread", .ref s)] := rfl
    rw [e3]
    have O3 : Oth a H (upd H2 a (.ins (He.ga K "Once") dx (cdF hd 1 [("spread", .ref s)]))) := ((ex_oth Xp).trans O2).upd
    have h3 : upd H2 a (.ins (He.ga K "Once") dx (cdF hd 1 [("spread", .ref s)])) a = some (.ins (He.ga K "Once") dx (cdF hd 1 [("spread", .ref s)])) := upd_same
    have dh : hd ≠ a := fun z => by rw [z, h2] at hh; cases hh
    have hh3 : upd H2 a (.ins (He.ga K "Once") dx (cdF hd 1 [("spread", .ref s)])) hd = some (.lst []) := by rw [upd_ne dh]; exact hh
    generalize upd H2 a (.ins (He.ga K "Once") dx (cdF hd 1 [("spread", .ref s)])) = H3 at O3 h3 hh3 ⊢
    have X03 : Ex H0 H3 := Oth.ex X0 na0 O3
    refine ⟨_, rfl, y, rn, rfl, (hN ts rfl).mono X03, fun ws e nt H4 X4 nnt hnt => ?_, fun e H4 X4 => qn ts rfl e H4 (O3.trans (ex_oth X4))⟩
    subst e
    have h4 := X4 _ _ h3
    have ta : nt ≠ a := fun z => by rw [z, h4] at hnt; cases hnt
    refine ⟨_, rfl, a, _, dx, _, rfl, h4, T.c_Once, T.a_Once_notes, by show 3 < 1000; decide, ?_⟩
    have e5 : putF "notes" (.ref nt) (cdF hd 1 [("spread", .ref s)]) = cdF hd 1 [("spread", .ref s), ("notes", .ref nt)] := rfl
    rw [e5]
    have O5 : Oth a H (upd H4 a (.ins (He.ga K "Once") dx (cdF hd 1 [("spread", .ref s), ("notes", .ref nt)]))) := (O3.trans (ex_oth X4)).upd
    have h5 : upd H4 a (.ins (He.ga K "Once") dx (cdF hd 1 [("spread", .ref s), ("notes", .ref nt)])) a = some (.ins (He.ga K "Once") dx (cdF hd 1 [("spread", .ref s), ("notes", .ref nt)])) := upd_same
    have hh5 : upd H4 a (.ins (He.ga K "Once") dx (cdF hd 1 [("spread", .ref s), ("notes", .ref nt)])) hd = some (.lst []) := by rw [upd_ne dh]; exact X4 _ _ hh3
    have hn5 : upd H4 a (.ins (He.ga K "Once") dx (cdF hd 1 [("spread", .ref s), ("notes", .ref nt)])) nt = some (.tup (ws.map V.str)) := by rw [upd_ne ta]; exact hnt
    generalize upd H4 a (.ins (He.ga K "Once") dx (cdF hd 1 [("spread", .ref s), ("notes", .ref nt)])) = H5 at O5 h5 hh5 hn5 ⊢
    have X05 : Ex H0 H5 := Oth.ex X0 na0 O5
    obtain ⟨s', es, hs0, _, _⟩ := hS
    cases es
    have hs5 := hs0.mono X05
    obtain ⟨dx2, kp2, hd2, as2, g2, _⟩ := id hs5
    refine ⟨_, rfl, s, dx2, _, rfl, g2, rfl, s, ts, rfl, hs5, fun ml nml => ?_⟩
    have Xm := ex_new (o := HO.lst (natV (momsL ts))) nml
    have hm : upd H5 ml (HO.lst (natV (momsL ts))) ml = some (HO.lst (natV (momsL ts))) := upd_same
    generalize upd H5 ml (HO.lst (natV (momsL ts))) = H6 at Xm hm ⊢
    refine ⟨ml, rfl, ⟨_, sq_lst hm⟩, fun D nD => lc_own nD L2.walk_list (fun G e => sq_lst (e _ _ hm)) (by omega) (fun n G acc N XG hD la k => ?_) (fun ps H7 X7 hD7 hP => ?_)⟩
    · refine ⟨rfl, _, rfl, by show 2 ≤ sizeLine; decide, fun x nx => ?_⟩
      have Xx := ex_new (o := HO.tup [V.int (n : Nat), V.bl true]) nx
      exact ⟨acc, Xx _ _ hD, la, k x _ Xx (Xx _ _ hD) upd_same⟩
    refine ⟨D, ps, ownK (momsL ts), rfl, sq_lst hD7, prs_own hP, fun ow now => ?_⟩
    rw [show mergeK [] (ownK (momsL ts)) = ownK (momsL ts) from ownK_merge (momsL ts) [] hnd]
    have Xo := ex_new (o := HO.dK (ownK (momsL ts))) now
    have ho : upd H7 ow (HO.dK (ownK (momsL ts))) ow = some (HO.dK (ownK (momsL ts))) := upd_same
    generalize upd H7 ow (HO.dK (ownK (momsL ts))) = H8 at Xo ho ⊢
    have X58 := (Xm.trans X7).trans Xo
    have h8 := X58 _ _ h5
    have oa : ow ≠ a := fun z => by rw [z, h8] at ho; cases ho
    refine ⟨_, rfl, a, _, dx, _, rfl, h8, T.c_Once, T.a_Once_own, by show 4 < 1000; decide, ?_⟩
    have O9 : Oth a H (upd H8 a (.ins (He.ga K "Once") dx (putF "own" (.ref ow) (cdF hd 1 [("spread", .ref s), ("notes", .ref nt)])))) := (O5.trans (ex_oth X58)).upd
    refine q ts ws rfl rfl _ O9 ?_ (cdN_of (w := 1) upd_same nh rfl)
    have X09 := Oth.ex X0 na0 O9
    unfold CardAt
    exact ⟨dx, hd, s, nt, ow, upd_same, by rw [upd_ne dh]; exact X58 _ _ hh5, hs0.mono X09, by rw [upd_ne ta]; exact X58 _ _ hn5, by rw [upd_ne oa]; exact ho⟩
theorem once_new {K : PySem.W.Frag} {H : Hp} {x dx s : Addr} {y : V} {ts : List Tr} {ws : List Str} {Q : VK} {E : XK} (nx : H x = none) (nd : H dx = none) (ne : dx ≠ x) (hs : SprAt K H s ts) (hm : (momsL ts).Pairwise (· < ·)) (hl : (momsL ts).length ≤ 1440) (hN : NtX K H y (some ws)) (q : ∀ H', Ex H H' → CardAt K H' (.once ts ws) x → CdN (fun b => H b = none) (.ref s) H' x → Q .non H') :
    sp_Once_init K [.ref x, .ref s, y] (upd (upd H dx (.own x)) x (.ins (He.ga K "Once") dx [])) Q E := by
  have X1 := ex_made (o1 := .own x) (o2 := .ins (He.ga K "Once") dx []) nx nd ne
  exact ⟨x, dx, _, y, H, some ts, some ws, rfl, upd_same, nx, X1, ⟨s, rfl, hs, hm.imp fun {a b} z => Nat.ne_of_lt z, hl⟩, fun _ _ => hN, fun ts' ws' e1 e2 H' O hA hN => by cases e1; cases e2; exact q H' (Oth.ex X1 nx O) hA hN, nofun, fun _ _ => nofun⟩
theorem ok_Once_init {P : Program} {w : World} {K : PySem.W.Frag} {mg : Str → Option Value} {base : Heap} (T : Env K mg) : Fc P w K mg base 3 (He.ma K (He.ga K "Once") "__init__") [] (fun vs H Q E => vs.length = 3 + ([] : List Str).length ∧ sp_Once_init K  (pick [.inl 0, .inl 1, .inl 2] vs [.non]) H Q E) := by
  obtain ⟨fd, D, F⟩ := fb_Once_init T
  exact Fb.shape D F 3 [] (fun us its => pick [.inl 0, .inl 1, .inl 2] us its) (by decide) (fun r1 r2 => pick_vals _ r1 r2) (fun T kV doc pm an cdv ct us ws its h1 h2 h3 => match us, ws, its, h1, h2, h3 with | [_, _, _], [], [_], _, _, _ => ⟨_, rfl, rfl⟩)
end
section
/-- Days, or not -/
def DyIs (K : PySem.W.Frag) (H : Hp) (x : V) : Option DaysD → Prop
  | some D => ∃ r, x = .ref r ∧ DaysAt K H r D ∧ D.ok
  | none => ∃ t, TyX K H x t ∧ PySem.W.kitOne K t (.ref (DaysC K)) = some false
theorem DyIs.mono {K : PySem.W.Frag} {H H' : Hp} {x : V} {r : Option DaysD} (h : DyIs K H x r) (e : Ex H H') : DyIs K H' x r := by
  cases r with
  | none =>
    obtain ⟨t, ty, k⟩ := h
    exact ⟨t, tyX_mono e ty, k⟩
  | some D =>
    obtain ⟨s, h1, h2, h3⟩ := h
    exact ⟨s, h1, h2.mono e, h3⟩
def sp_Every_init (K : PySem.W.Frag) : Sp := fun vs H Q E => ∃ (a dx : Addr) (x1 x2 y : V) (H0 : Hp) (rd : Option DaysD) (rs : Option (List Tr)) (rn : Option (List Str)), vs = [.ref a, x1, x2, y] ∧ H a = some (.ins (He.ga K "Every") dx []) ∧ H0 a = none ∧ Ex H0 H ∧ DyIs K H0 x1 rd ∧ (rd.isSome = true → SpIs K H0 x2 rs) ∧ (rd.isSome = true → rs.isSome = true → NtX K H0 y rn) ∧
  (∀ D ts ws, rd = some D → rs = some ts → rn = some ws → (∀ n ∈ momsL ts, n < 1440) → ∀ H', Oth a H H' → CardAt K H' (.every D ts ws) a → CdN (fun b => H0 b = none) x2 H' a → Q .non H') ∧
  ((rd = none ∨ rs = none ∨ rn = none ∨ ∀ ts, rs = some ts → ∃ n ∈ momsL ts, ¬ n < 1440) → ∀ H', Oth a H H' → E (.ref (He.ga K "NoCard")) none H')
theorem fb_Every_init {P : Program} {w : World} {K : PySem.W.Frag} {mg : Str → Option Value} {base : Heap} (T : Env K mg) : ∃ fd, FunD K "__init__" "Every.__init__" (defArgs s_Every_init) (defBody s_Every_init) (defScope s_Every_init) [.non] [] (He.ma K (He.ga K "Every") "__init__") fd ∧ Fb P w K mg base 3 (He.ma K (He.ga K "Every") "__init__") fd ["self", "days", "spread", "notes"] (sp_Every_init K) := by
  obtain ⟨fd, F⟩ := T.f_Every_init
  refine ⟨fd, F, fb_of F sc_Every_init (fun vs H Q E h => ?_) (fun cdv A outer s H vs Q E hr h => ?_)⟩
  · obtain ⟨a, dx, x1, x2, y, H0, rd, rs, rn, rfl, _⟩ := h
    rfl
  · obtain ⟨a, dx, x1, x2, y, H0, rd, rs, rn, rfl, ha, na0, X0, hD, hS, hN, q, qe⟩ := h
    refine ⟨_, (pss_cons (ps_expr (c_call (ok_want T) (hr.mono (by decide)) T.g_want T.k_want (takes_of rfl rfl rfl rfl) (pa_cons (pe_and (pe_callB call_isi (by rfl) T.n_isinstance (by decide +kernel) (pa_cons (pv 1) (pa_cons (pe_glob (v := .ref _) (by rfl) T.g_Days rfl) pa_nil))) (pe_one (pe_callB call_isi (by rfl) T.n_isinstance (by decide +kernel) (pa_cons (pv 2) (pa_cons (pe_glob (v := .ref _) (by rfl) T.g_Spread rfl) pa_nil))))) (pa_cons pe_str pa_nil))))
      (pss_cons (ps_expr (c_clsm T.cm_Card (ok_Card_init T) (hr.mono (by decide)) T.g_Card (takes_of rfl rfl rfl rfl) (pa_cons (pv 0) (pa_cons (pe_lst pa_nil) pa_nil))))
      (pss_cons (ps_fld (pv 0) (pv 1) rfl)
      (pss_cons (ps_fld (pv 0) (pv 2) rfl)
      (pss_cons (ps_fld (pv 0) (c_call (ok_notes_of T) (hr.mono (by decide)) T.g_notes_of T.k_notes_of (takes_of rfl rfl rfl rfl) (pa_cons (pv 3) pa_nil)) rfl)
      (pss_cons (ps_fld (pv 0) (pe_callTy (call_dictP rfl) (by rfl) T.n_dict (by decide +kernel) (pa_cons (pe_lc (own := [("moment", 4)]) (by rfl) sc_Every_init.nd (pi_list (c_meth0 (pv 2) T.c_Spread T.m_Spread_moments (ok_Spread_moments T) (hr.mono (by decide)) (takes_of rfl rfl rfl rfl))) (blkOk_by (own := [("moment", 4)]) (N := ["self", "days", "spread", "notes", "moment", "minute"]) (sc := defScope s_Every_init) (by decide +kernel)) (fun _ _ _ _ _ => (pg_name (i := 4) sc_Every_init.nd rfl (Or.inl rfl))) (fun _ _ _ _ _ => pts_nil) (fun _ _ _ _ _ => (pe_tup (pa_cons (pv 4) (pa_cons pe_bl pa_nil))))) pa_nil)) rfl)
      (pss_one (ps_expr (c_call (ok_want T) (hr.mono (by decide)) T.g_want T.k_want (takes_of rfl rfl rfl rfl) (pa_cons (pe_callB (cr_all rfl) (by rfl) T.n_all (by decide +kernel) (pa_cons (pe_lc (own := [("minute", 5)]) (by rfl) sc_Every_init.nd (pi_list (pe_callTy (call_listD rfl) (by rfl) T.n_list (by decide +kernel) (pa_cons (pe_fld (pv 0) (by rfl)) pa_nil))) (blkOk_by (own := [("minute", 5)]) (N := ["self", "days", "spread", "notes", "moment", "minute"]) (sc := defScope s_Every_init) (by decide +kernel)) (fun _ _ _ _ _ => (pg_name (i := 5) sc_Every_init.nd rfl (Or.inl rfl))) (fun _ _ _ _ _ => pts_nil) (fun _ _ _ _ _ => (pe_cmpR op_lt (pv 5) (pe_k T.v_DAY) (nomark _)))) pa_nil)) (pa_cons pe_str pa_nil))))))))))), ?_⟩
    obtain ⟨t1, b1, ty1, kt1, hb1, hf1⟩ : ∃ t b, TyX K H x1 t ∧ PySem.W.kitOne K t (.ref (DaysC K)) = some b ∧ (b = true → rd.isSome = true) ∧ (b = false → rd = none) := by
      have hD1 := hD.mono X0
      cases rd with
      | none =>
        obtain ⟨t, ty, k⟩ := hD1
        exact ⟨t, false, ty, k, nofun, fun _ => rfl⟩
      | some D =>
        obtain ⟨s, rfl, ⟨dx2, r2, po2, pa2, h2, _⟩, _⟩ := hD1
        exact ⟨_, true, ty_ins T.i_Days T.c_Days h2, T.kit_Days_Days, fun _ => rfl, nofun⟩
    refine ⟨_, rfl, x1, _, t1, _, b1, rfl, .own _, ty1, kt1, ?_⟩
    refine ⟨b1, rfl, ?_⟩
    cases b1 with
    | false => exact iteF ⟨_, _, rfl, nofun, fun _ => qe (.inl (hf1 rfl)) H (Oth.refl _ _)⟩
    | true =>
    refine iteT ?_
    have sD := hb1 rfl
    clear hb1 hf1 kt1 ty1
    replace hS := hS sD
    have hS1 := hS.mono X0
    obtain ⟨t2, b2, ty2, kt2, hb2, hf2⟩ : ∃ t b, TyX K H x2 t ∧ PySem.W.kitOne K t (.ref (SpreadC K)) = some b ∧ (b = true → rs.isSome = true) ∧ (b = false → rs = none) := by
      cases rs with
      | none =>
        obtain ⟨t, ty, k⟩ := hS1
        exact ⟨t, false, ty, k, nofun, fun _ => rfl⟩
      | some ts =>
        obtain ⟨s, rfl, ⟨dx2, kp2, hd2, as2, h2, _⟩, _⟩ := hS1
        exact ⟨_, true, ty_ins T.i_Spread T.c_Spread h2, T.kit_Spread_Spread, fun _ => rfl, nofun⟩
    refine ⟨_, rfl, x2, _, t2, _, b2, rfl, .own _, ty2, kt2, b2, _, rfl, fun eb => ?_, fun eb => qe (.inr (.inl (hf2 eb))) H (Oth.refl _ _)⟩
    have sS := hb2 eb
    replace hN := hN sD sS
    clear hb2 hf2 kt2 ty2 hS1
    obtain ⟨D, rfl⟩ := Option.isSome_iff_exists.mp sD
    obtain ⟨ts, rfl⟩ := Option.isSome_iff_exists.mp sS
    obtain ⟨r, rfl, hr0, hDk⟩ := hD
    obtain ⟨s, rfl, hs0, hnd, hms⟩ := hS
    refine ⟨_, rfl, by show 0 ≤ sizeLine; decide, fun p np => ?_⟩
    have Xp := ex_new (o := HO.lst []) np
    have hp : upd H p (.lst []) p = some (.lst []) := upd_same
    have ha1 := Xp _ _ ha
    generalize upd H p (.lst []) = H1 at Xp hp ha1 ⊢
    refine ⟨a, _, dx, p, [], H0, fun _ => true, rfl, ha1, na0, X0.trans Xp, T.c_Every, T.a_Every_held, T.a_Every_weight, .inl hp, by decide, nofun, nofun, fun _ => ⟨[], [], rfl, by unfold CardsAt; rfl, fun _ hd H2 O2 nh hh h2 => ?_, nofun⟩⟩
    have dh : hd ≠ a := fun z => by rw [z, h2] at hh; cases hh
    refine ⟨_, rfl, _, rfl, a, _, dx, _, rfl, h2, T.c_Every, T.a_Every_days, by show 2 < 1000; decide, ?_⟩
    rw [show putF "days" (.ref r) (cdF hd (1 + wtL []) []) = cdF hd 1 [("days", .ref r)] from rfl]
    have O3 : Oth a H (upd H2 a (.ins (He.ga K "Every") dx (cdF hd 1 [("days", .ref r)]))) := ((ex_oth Xp).trans O2).upd
    have h3 : upd H2 a (.ins (He.ga K "Every") dx (cdF hd 1 [("days", .ref r)])) a = some (.ins (He.ga K "Every") dx (cdF hd 1 [("days", .ref r)])) := upd_same
    have hh3 : upd H2 a (.ins (He.ga K "Every") dx (cdF hd 1 [("days", .ref r)])) hd = some (.lst []) := by rw [upd_ne dh]; exact hh
    generalize upd H2 a (.ins (He.ga K "Every") dx (cdF hd 1 [("days", .ref r)])) = H3 at O3 h3 hh3 ⊢
    refine ⟨_, rfl, _, rfl, a, _, dx, _, rfl, h3, T.c_Every, T.a_Every_spread, by show 3 < 1000; decide, ?_⟩
    rw [show putF "spread" (.ref s) (cdF hd 1 [("days", .ref r)]) = cdF hd 1 [("days", .ref r), ("spread", .ref s)] from rfl]
    have O4 : Oth a H (upd H3 a (.ins (He.ga K "Every") dx (cdF hd 1 [("days", .ref r), ("spread", .ref s)]))) := O3.upd
    have h4 : upd H3 a (.ins (He.ga K "Every") dx (cdF hd 1 [("days", .ref r), ("spread", .ref s)])) a = some (.ins (He.ga K "Every") dx (cdF hd 1 [("days", .ref r), ("spread", .ref s)])) := upd_same
    have hh4 : upd H3 a (.ins (He.ga K "Every") dx (cdF hd 1 [("days", .ref r), ("spread", .ref s)])) hd = some (.lst []) := by rw [upd_ne dh]; exact hh3
    generalize upd H3 a (.ins (He.ga K "Every") dx (cdF hd 1 [("days", .ref r), ("spread", .ref s)])) = H4 at O4 h4 hh4 ⊢
    have X04 : Ex H0 H4 := Oth.ex X0 na0 O4
    refine ⟨_, rfl, y, rn, rfl, hN.mono X04, fun ws e nt H5 X5 nnt hnt => ?_, fun e H5 X5 => qe (.inr (.inr (.inl e))) H5 (O4.trans (ex_oth X5))⟩
    subst e
    have h5 := X5 _ _ h4
    have ta : nt ≠ a := fun z => by rw [z, h5] at hnt; cases hnt
    refine ⟨_, rfl, a, _, dx, _, rfl, h5, T.c_Every, T.a_Every_notes, by show 4 < 1000; decide, ?_⟩
    rw [show putF "notes" (.ref nt) (cdF hd 1 [("days", .ref r), ("spread", .ref s)]) = cdF hd 1 [("days", .ref r), ("spread", .ref s), ("notes", .ref nt)] from rfl]
    have O6 : Oth a H (upd H5 a (.ins (He.ga K "Every") dx (cdF hd 1 [("days", .ref r), ("spread", .ref s), ("notes", .ref nt)]))) := (O4.trans (ex_oth X5)).upd
    have h6 : upd H5 a (.ins (He.ga K "Every") dx (cdF hd 1 [("days", .ref r), ("spread", .ref s), ("notes", .ref nt)])) a = some (.ins (He.ga K "Every") dx (cdF hd 1 [("days", .ref r), ("spread", .ref s), ("notes", .ref nt)])) := upd_same
    have hh6 : upd H5 a (.ins (He.ga K "Every") dx (cdF hd 1 [("days", .ref r), ("spread", .ref s), ("notes", .ref nt)])) hd = some (.lst []) := by rw [upd_ne dh]; exact X5 _ _ hh4
    have hn6 : upd H5 a (.ins (He.ga K "Every") dx (cdF hd 1 [("days", .ref r), ("spread", .ref s), ("notes", .ref nt)])) nt = some (.tup (ws.map V.str)) := by rw [upd_ne ta]; exact hnt
    generalize upd H5 a (.ins (He.ga K "Every") dx (cdF hd 1 [("days", .ref r), ("spread", .ref s), ("notes", .ref nt)])) = H6 at O6 h6 hh6 hn6 ⊢
    have X06 : Ex H0 H6 := Oth.ex X0 na0 O6
    have hs6 := hs0.mono X06
    obtain ⟨dx2, kp2, hd2, as2, g2, _⟩ := id hs6
    refine ⟨_, rfl, s, dx2, _, rfl, g2, rfl, s, ts, rfl, hs6, fun ml nml => ?_⟩
    have Xm := ex_new (o := HO.lst (natV (momsL ts))) nml
    have hm : upd H6 ml (HO.lst (natV (momsL ts))) ml = some (HO.lst (natV (momsL ts))) := upd_same
    generalize upd H6 ml (HO.lst (natV (momsL ts))) = H7 at Xm hm ⊢
    refine ⟨ml, rfl, ⟨_, sq_lst hm⟩, fun D1 nD => lc_own nD L2.walk_list (fun G e => sq_lst (e _ _ hm)) (by omega) (fun n G acc N XG hD la k => ?_) (fun ps H8 X8 hD8 hP => ?_)⟩
    · refine ⟨rfl, _, rfl, by show 2 ≤ sizeLine; decide, fun x nx => ?_⟩
      have Xx := ex_new (o := HO.tup [V.int (n : Nat), V.bl true]) nx
      exact ⟨acc, Xx _ _ hD, la, k x _ Xx (Xx _ _ hD) upd_same⟩
    refine ⟨D1, ps, ownK (momsL ts), rfl, sq_lst hD8, prs_own hP, fun ow now => ?_⟩
    rw [show mergeK [] (ownK (momsL ts)) = ownK (momsL ts) from ownK_merge (momsL ts) [] hnd]
    have Xo := ex_new (o := HO.dK (ownK (momsL ts))) now
    have ho : upd H8 ow (HO.dK (ownK (momsL ts))) ow = some (HO.dK (ownK (momsL ts))) := upd_same
    generalize upd H8 ow (HO.dK (ownK (momsL ts))) = H9 at Xo ho ⊢
    have X69 := (Xm.trans X8).trans Xo
    have h9 := X69 _ _ h6
    have oa : ow ≠ a := fun z => by rw [z, h9] at ho; cases ho
    refine ⟨_, rfl, a, _, dx, _, rfl, h9, T.c_Every, T.a_Every_own, by show 5 < 1000; decide, ?_⟩
    rw [show putF "own" (.ref ow) (cdF hd 1 [("days", .ref r), ("spread", .ref s), ("notes", .ref nt)]) = cdF hd 1 [("days", .ref r), ("spread", .ref s), ("notes", .ref nt), ("own", .ref ow)] from rfl]
    have O10 : Oth a H (upd H9 a (.ins (He.ga K "Every") dx (cdF hd 1 [("days", .ref r), ("spread", .ref s), ("notes", .ref nt), ("own", .ref ow)]))) := (O6.trans (ex_oth X69)).upd
    have hA : CardAt K (upd H9 a (.ins (He.ga K "Every") dx (cdF hd 1 [("days", .ref r), ("spread", .ref s), ("notes", .ref nt), ("own", .ref ow)]))) (.every D ts ws) a := by
      have X09 := Oth.ex X0 na0 O10
      unfold CardAt
      exact ⟨dx, hd, r, s, nt, ow, upd_same, by rw [upd_ne dh]; exact X69 _ _ hh6, hr0.mono X09, hs0.mono X09, by rw [upd_ne ta]; exact X69 _ _ hn6, by rw [upd_ne oa]; exact ho⟩
    have h10 : upd H9 a (.ins (He.ga K "Every") dx (cdF hd 1 [("days", .ref r), ("spread", .ref s), ("notes", .ref nt), ("own", .ref ow)])) a = some (.ins (He.ga K "Every") dx (cdF hd 1 [("days", .ref r), ("spread", .ref s), ("notes", .ref nt), ("own", .ref ow)])) := upd_same
    have ho10 : upd H9 a (.ins (He.ga K "Every") dx (cdF hd 1 [("days", .ref r), ("spread", .ref s), ("notes", .ref nt), ("own", .ref ow)])) ow = some (.dK (ownK (momsL ts))) := by rw [upd_ne oa]; exact ho
    generalize upd H9 a (.ins (He.ga K "Every") dx (cdF hd 1 [("days", .ref r), ("spread", .ref s), ("notes", .ref nt), ("own", .ref ow)])) = H10 at hA O10 h10 ho10 ⊢
    refine ⟨_, rfl, a, _, dx, _, _, rfl, h10, T.c_Every, T.a_Every_own, rfl, ow, _, rfl, .inl ho10, fun kl nk => ?_⟩
    have ek : (ownK (momsL ts)).map (fun kv => kV kv.1) = natV (momsL ts) := by
      unfold ownK natV
      rw [List.map_map]
      rfl
    rw [ek]
    have Xk := ex_new (o := HO.lst (natV (momsL ts))) nk
    have hk : upd H10 kl (HO.lst (natV (momsL ts))) kl = some (HO.lst (natV (momsL ts))) := upd_same
    generalize upd H10 kl (HO.lst (natV (momsL ts))) = H11 at Xk hk ⊢
    refine ⟨kl, rfl, ⟨_, sq_lst hk⟩, fun A2 nA2 => lc_on (momsL ts) (fun n : Nat => V.int n) L2.walk_list (fun n => some (.bl (decide (n < 1440)))) (fun H' => Ex H11 H') (fun H' z e => ex_mut e nA2) (.refl _) (by omega) (fun H' e => sq_lst (e _ _ hk)) (fun j n H4 acc N hn X4 hD la k => ?_) fun H12 X12 d12 => ?_⟩
    · refine ⟨rfl, _, rfl, _, _, rfl, rfl, acc, hD, la, ?_⟩
      show N (upd H4 A2 (HO.lst (acc ++ [V.bl (decide (((n : Nat) : Int) < 1440))])))
      rw [show decide (((n : Nat) : Int) < 1440) = decide (n < 1440) from decide_eq_decide.mpr (by omega)]
      exact k H4 X4 hD
    have ed : (momsL ts).filterMap (fun n => some (V.bl (decide (n < 1440)))) = ((momsL ts).map fun n => decide (n < 1440)).map V.bl := by
      rw [List.filterMap_eq_map', List.map_map]
      rfl
    rw [ed] at d12
    have X1012 := Xk.trans X12
    refine ⟨A2, _, rfl, sq_lst d12, _, _, rfl, fun hb => ?_, fun hb => ?_⟩
    · rw [List.all_map] at hb
      exact q D ts ws rfl rfl rfl (fun n hn => of_decide_eq_true (List.all_eq_true.mp hb n hn)) H12 (O10.trans (ex_oth X1012)) (hA.mono X1012) (cdN_of (w := 1) (X1012 _ _ h10) nh rfl)
    · rw [List.all_map] at hb
      refine qe (.inr (.inr (.inr fun ts' e => ?_))) H12 (O10.trans (ex_oth X1012))
      cases e
      obtain ⟨n, hn, hb'⟩ := List.all_eq_false.mp hb
      exact ⟨n, hn, fun h => hb' (decide_eq_true h)⟩
theorem every_new {K : PySem.W.Frag} {H : Hp} {x dx r s : Addr} {y : V} {D : DaysD} {ts : List Tr} {ws : List Str} {Q : VK} {E : XK} (nx : H x = none) (nd : H dx = none) (ne : dx ≠ x) (hr : DaysAt K H r D) (hD : D.ok) (hs : SprAt K H s ts) (hm : (momsL ts).Pairwise (· < ·)) (hl : (momsL ts).length ≤ 1440) (hb : ∀ n ∈ momsL ts, n < 1440) (hN : NtX K H y (some ws)) (q : ∀ H', Ex H H' → CardAt K H' (.every D ts ws) x → CdN (fun b => H b = none) (.ref s) H' x → Q .non H') :
    sp_Every_init K [.ref x, .ref r, .ref s, y] (upd (upd H dx (.own x)) x (.ins (He.ga K "Every") dx [])) Q E := by
  have X1 := ex_made (o1 := .own x) (o2 := .ins (He.ga K "Every") dx []) nx nd ne
  refine ⟨x, dx, _, _, y, H, some D, some ts, some ws, rfl, upd_same, nx, X1, ⟨r, rfl, hr, hD⟩, fun _ => ⟨s, rfl, hs, hm.imp fun {a b} z => Nat.ne_of_lt z, hl⟩, fun _ _ => hN, fun D' ts' ws' e0 e1 e2 _ H' O hA hN => by cases e0; cases e1; cases e2; exact q H' (Oth.ex X1 nx O) hA hN, fun h => ?_⟩
  rcases h with h | h | h | h
  · cases h
  · cases h
  · cases h
  · obtain ⟨n, hn, h⟩ := h ts rfl
    exact absurd (hb n hn) h
theorem ok_Every_init {P : Program} {w : World} {K : PySem.W.Frag} {mg : Str → Option Value} {base : Heap} (T : Env K mg) : Fc P w K mg base 3 (He.ma K (He.ga K "Every") "__init__") [] (fun vs H Q E => vs.length = 4 + ([] : List Str).length ∧ sp_Every_init K  (pick [.inl 0, .inl 1, .inl 2, .inl 3] vs [.non]) H Q E) := by
  obtain ⟨fd, D, F⟩ := fb_Every_init T
  exact Fb.shape D F 4 [] (fun us its => pick [.inl 0, .inl 1, .inl 2, .inl 3] us its) (by decide) (fun r1 r2 => pick_vals _ r1 r2) (fun T kV doc pm an cdv ct us ws its h1 h2 h3 => match us, ws, its, h1, h2, h3 with | [_, _, _, _], [], [_], _, _, _ => ⟨_, rfl, rfl⟩)
end
section
/-- a card, or none -/
def CdX (K : PySem.W.Frag) (H : Hp) (x : V) : Option CardD → Prop
  | some c => ∃ a, x = .ref a ∧ CardAt K H c a
  | none => ∃ t, TyX K H x t ∧ PySem.W.kitOne K t (.ref (CardC K)) = some false
def CdXs (K : PySem.W.Frag) (H : Hp) : List V → List (Option CardD) → Prop := Paired (CdX K H)
theorem CdX.mono {K : PySem.W.Frag} {H H' : Hp} {x : V} {r : Option CardD} (h : CdX K H x r) (e : Ex H H') : CdX K H' x r := by
  cases r with
  | none =>
    obtain ⟨t, ty, k⟩ := h
    exact ⟨t, tyX_mono e ty, k⟩
  | some c =>
    obtain ⟨a, rfl, h⟩ := h
    exact ⟨a, rfl, h.mono e⟩
theorem CdX.is {K : PySem.W.Frag} {mg : Str → Option Value} (T : Env K mg) {H : Hp} {x : V} {r : Option CardD} (h : CdX K H x r) : CdIs K H x r.isSome := by
  cases r with
  | none => exact h
  | some c =>
    obtain ⟨a, rfl, h⟩ := h
    obtain ⟨dx, hd, as, fs, h1, _, _, cc, _⟩ := card_gen T h
    exact ⟨_, ty_ins cc.ins cc.cls h1, cc.isCard⟩
/-- all of them -/
def allO {α : Type} : List (Option α) → Option (List α)
  | [] => some []
  | none :: _ => none
  | some x :: r => (allO r).map (x :: ·)
theorem CdXs.get {K : PySem.W.Frag} {H : Hp} : ∀ {xs : List V} {rs : List (Option CardD)} {i : Nat} {v : V}, Paired (CdX K H) xs rs → xs[i]? = some v → CdX K H v (rs.getD i none)
  | _, _, 0, v, .cons h1 h2, e => by
    cases e
    exact h1
  | _, _, i + 1, v, .cons (l₁ := l) (l₂ := m) h1 h2, e => CdXs.get (xs := l) (rs := m) (i := i) h2 e
  | _, _, i, v, .nil, e => by cases e
theorem CdXs.mono {K : PySem.W.Frag} {H H' : Hp} (e : Ex H H') : ∀ {xs : List V} {rs : List (Option CardD)}, Paired (CdX K H) xs rs → Paired (CdX K H') xs rs
  | _, _, .nil => .nil
  | _, _, .cons h1 h2 => .cons (h1.mono e) (CdXs.mono e h2)
theorem CdXs.all {K : PySem.W.Frag} {H : Hp} : ∀ {xs : List V} {rs : List (Option CardD)} {cs : List CardD}, Paired (CdX K H) xs rs → allO rs = some cs → ∃ as : List Addr, xs = as.map V.ref ∧ CardsAt K H cs as
  | _, _, cs, .nil, e => by
    cases e
    exact ⟨[], rfl, by unfold CardsAt; rfl⟩
  | _, _, cs, .cons (b := y) h1 h2, e => by
    cases y with
    | none => cases e
    | some c =>
      obtain ⟨cs', e', rfl⟩ := Option.map_eq_some_iff.mp e
      obtain ⟨a, rfl, hc⟩ := h1
      obtain ⟨as, rfl, hs⟩ := CdXs.all h2 e'
      exact ⟨a :: as, rfl, by unfold CardsAt; exact ⟨a, as, rfl, hc, hs⟩⟩
theorem CdXs.of {K : PySem.W.Frag} {H : Hp} : ∀ {cs : List CardD} {as : List Addr}, CardsAt K H cs as → Paired (CdX K H) (as.map V.ref) (cs.map some)
  | [], as, h => by
    unfold CardsAt at h
    rw [h]
    exact .nil
  | c :: cs, as, h => by
    unfold CardsAt at h
    obtain ⟨a, r, rfl, h1, h2⟩ := h
    exact .cons ⟨a, rfl, h1⟩ (CdXs.of h2)
theorem allO_some {α : Type} : ∀ cs : List α, allO (cs.map some) = some cs
  | [] => rfl
  | c :: cs => by
    show (allO (cs.map some)).map (c :: ·) = _
    rw [allO_some cs]
    rfl
theorem allO_isSome {α : Type} : ∀ rs : List (Option α), (allO rs).isSome = (List.range rs.length).all fun i => (rs.getD i none).isSome
  | [] => rfl
  | r :: rs => by
    rw [List.length_cons, List.range_succ_eq_map, List.all_cons, List.all_map]
    cases r with
    | none => rfl
    | some x =>
      show ((allO rs).map (x :: ·)).isSome = _
      rw [Option.isSome_map, allO_isSome rs]
      rfl
theorem card_init_ok {K : PySem.W.Frag} {mg : Str → Option Value} (T : Env K mg) {H H0 : Hp} {a C dx p : Addr} {xs : List V} {rs : List (Option CardD)} {Q : VK} {E : XK} (ha : H a = some (.ins C dx [])) (na : H0 a = none) (X0 : Ex H0 H) (cC : Cls K C) (aH : NoAttr K C "held") (aW : NoAttr K C "weight") (hp : SqA H p xs) (l : xs.length ≤ 1000) (hx : CdXs K H0 xs rs)
    (q : ∀ cs as, allO rs = some cs → wtL cs < 60 → xs = as.map V.ref → CardsAt K H0 cs as → ∀ hd H', Oth a H H' → H0 hd = none → H' hd = some (.lst xs) → H' a = some (.ins C dx (cdF hd (1 + wtL cs) [])) → Q .non H')
    (qe : (∀ cs, allO rs = some cs → 60 ≤ wtL cs) → ∀ H', Oth a H H' → E (.ref (He.ga K "NoCard")) none H') : sp_Card_init K [.ref a, .ref p] H Q E := by
  have ll : xs.length = rs.length := Paired.length hx
  refine ⟨a, C, dx, p, xs, H0, fun i => (rs.getD i none).isSome, rfl, ha, na, X0, cC, aH, aW, hp, l, fun i v e => (CdXs.get hx e).is T, fun h => ?_, fun h => ?_⟩
  · rw [ll, ← allO_isSome] at h
    exact fun H' X => qe (fun cs e => by rw [e] at h; cases h) H' (ex_oth X)
  · rw [ll, ← allO_isSome] at h
    obtain ⟨cs, e⟩ := Option.isSome_iff_exists.mp h
    obtain ⟨as, ex, hA⟩ := CdXs.all hx e
    exact ⟨as, cs, ex, hA, fun hw hd H' O n h1 h2 => q cs as e hw ex hA hd H' O n h1 h2, fun hw H' O => qe (fun cs' e' => by rw [e] at e'; cases e'; exact hw) H' O⟩
end
section
/-- what Join makes of a thing: the cards in the list, or none -/
def JnX (K : PySem.W.Frag) (H : Hp) (x : V) (r : Option (List CardD)) : Prop := (∃ p xs rs, x = .ref p ∧ SqA H p xs ∧ xs.length ≤ 1000 ∧ CdXs K H xs rs ∧ r = allO rs) ∨ (∃ t, TyX K H x t ∧ PySem.W.kitAny K t [.type "list", .type "tuple"] = some false ∧ r = none)
def sp_Join_init (K : PySem.W.Frag) : Sp := fun vs H Q E => ∃ (a dx : Addr) (x : V) (H0 : Hp) (r : Option (List CardD)), vs = [.ref a, x] ∧ H a = some (.ins (He.ga K "Join") dx []) ∧ H0 a = none ∧ Ex H0 H ∧ JnX K H0 x r ∧
  (∀ cs, r = some cs → cs ≠ [] → wtL cs < 60 → ∀ p as hd H', x = .ref p → SqA H0 p (as.map V.ref) → CardsAt K H0 cs as → Oth a H H' → H0 hd = none → H' hd = some (.lst (as.map V.ref)) → H' a = some (.ins (He.ga K "Join") dx (cdF hd (1 + wtL cs) [])) → Q .non H') ∧
  ((∀ cs, r = some cs → cs = [] ∨ 60 ≤ wtL cs) → ∀ H', Oth a H H' → E (.ref (He.ga K "NoCard")) none H')
theorem fb_Join_init {P : Program} {w : World} {K : PySem.W.Frag} {mg : Str → Option Value} {base : Heap} (T : Env K mg) : ∃ fd, FunD K "__init__" "Join.__init__" (defArgs s_Join_init) (defBody s_Join_init) (defScope s_Join_init) [] [] (He.ma K (He.ga K "Join") "__init__") fd ∧ Fb P w K mg base 3 (He.ma K (He.ga K "Join") "__init__") fd ["self", "parts"] (sp_Join_init K) := by
  obtain ⟨fd, F⟩ := T.f_Join_init
  refine ⟨fd, F, fb_of F sc_Join_init (fun vs H Q E h => ?_) (fun cdv A outer s H vs Q E hr h => ?_)⟩
  · obtain ⟨a, dx, x, H0, r, rfl, _⟩ := h
    rfl
  · obtain ⟨a, dx, x, H0, r, rfl, ha, na0, X0, hJ, q, qe⟩ := h
    refine ⟨_, (pss_cons (ps_expr (c_call (ok_want T) (hr.mono (by decide)) T.g_want T.k_want (takes_of rfl rfl rfl rfl) (pa_cons (pe_and (pe_callB call_isiT (by rfl) T.n_isinstance (by decide +kernel) (pa_cons (pv 1) (pa_cons (pe_tup (pa_cons (pe_bltn (v := .ty "list") (by rfl) T.n_list (by decide +kernel) rfl) (pa_cons (pe_bltn (v := .ty "tuple") (by rfl) T.n_tuple (by decide +kernel) rfl) pa_nil))) pa_nil))) (pe_one (pe_cmpR op_gt (pe_callB call_len (by rfl) T.n_len (by decide +kernel) (pa_cons (pv 1) pa_nil)) pe_int (nomark _)))) (pa_cons pe_str pa_nil))))
      (pss_one (ps_expr (c_clsm T.cm_Card (ok_Card_init T) (hr.mono (by decide)) T.g_Card (takes_of rfl rfl rfl rfl) (pa_cons (pv 0) (pa_cons (pv 1) pa_nil)))))), ?_⟩
    refine ⟨_, rfl, (by decide), ?_⟩
    intro a1 na1
    have Xa1 := ex_new (o := HO.tup [V.ty "list", V.ty "tuple"]) na1
    have ha1 : upd H a1 (HO.tup [V.ty "list", V.ty "tuple"]) a1 = some (HO.tup [V.ty "list", V.ty "tuple"]) := upd_same
    generalize upd H a1 (HO.tup [V.ty "list", V.ty "tuple"]) = Ga1 at Xa1 ha1 ⊢
    rcases hJ with ⟨p, xs, rs, rfl, hp, lx, hx, hr⟩ | ⟨t, ty, kt, hr⟩
    · have hp0 : SqA H p xs := hp.imp (X0 _ _) (X0 _ _)
      have hp1 : SqA Ga1 p xs := hp0.imp (Xa1 _ _) (Xa1 _ _)
      have ty : ∃ t, TyX K Ga1 (.ref p) t ∧ PySem.W.kitAny K t [.type "list", .type "tuple"] = some true := by
        rcases hp1 with h | h
        · exact ⟨_, .base (.lst h), kitAny_cons (b := true) (kit_ty (by decide +kernel)) (fun z => nomatch z) (fun _ => rfl)⟩
        · exact ⟨_, .base (.tup h), kitAny_cons (b := false) (kit_ty (by decide +kernel)) (fun _ => kitAny_cons (b := true) (kit_ty (by decide +kernel)) (fun z => nomatch z) (fun _ => rfl)) (by decide)⟩
      obtain ⟨t, ty, kt⟩ := ty
      refine ⟨.ref p, a1, _, t, _, true, rfl, ha1, .cons (.ty "list") (.cons (.ty "tuple") .nil), ty, kt, true, rfl, iteT ?_⟩
      have lenv : LenV K (.ref p) Ga1 xs.length := hp1.elim (fun z => .inl ⟨_, sq_lst z, rfl⟩) (fun z => .inr ⟨_, sq_tup z, rfl⟩)
      have lr := Paired.length hx
      refine ⟨_, rfl, _, _, rfl, lenv, ?_⟩
      refine ⟨_, _, rfl, rfl, _, _, rfl, fun h0 => ?_, fun h0 => ?_⟩
      · have h0 := of_decide_eq_true h0
        refine ⟨_, rfl, _, rfl, ?_⟩
        show sp_Card_init K [.ref a, .ref p] Ga1 _ _
        refine card_init_ok T (Xa1 _ _ ha) na0 (X0.trans Xa1) T.c_Join T.a_Join_held T.a_Join_weight hp1 lx hx (fun cs as e hw ex hA hd H' O nh hh h' => ?_) fun he H' O => ?_
        · subst ex
          refine q cs (hr.trans e) (fun z => ?_) hw p as hd H' rfl hp hA ((ex_oth Xa1).trans O) nh hh h'
          rw [List.length_map, hA.len, z] at h0
          exact absurd h0 (by decide)
        · exact qe (fun cs e => .inr (he cs (hr.symm.trans e))) H' ((ex_oth Xa1).trans O)
      · have h0 := of_decide_eq_false h0
        refine qe (fun cs e => .inl ?_) _ (ex_oth Xa1)
        obtain ⟨as, ex, hA⟩ := CdXs.all hx (hr.symm.trans e)
        rw [ex, List.length_map, hA.len] at h0
        cases cs with
        | nil => rfl
        | cons c cs =>
          rw [List.length_cons] at h0
          omega
    · refine ⟨x, a1, _, t, _, false, rfl, ha1, .cons (.ty "list") (.cons (.ty "tuple") .nil), tyX_mono (X0.trans Xa1) ty, kt, false, rfl, iteF ?_⟩
      refine ⟨_, _, rfl, nofun, fun _ => qe (fun cs e => ?_) _ (ex_oth Xa1)⟩
      rw [hr] at e
      cases e
theorem ref_inj : ∀ {as bs : List Addr}, as.map V.ref = bs.map V.ref → as = bs
  | [], [], _ => rfl
  | [], b :: bs, h => nomatch h
  | a :: as, [], h => nomatch h
  | a :: as, b :: bs, h => by
    rw [List.map_cons, List.map_cons] at h
    injection h with h1 h2
    injection h1 with h1
    rw [h1, ref_inj h2]
theorem sqA_inj {H : Hp} {p : Addr} {xs ys : List V} (a : SqA H p xs) (b : SqA H p ys) : xs = ys := by
  rcases a with a | a <;> rcases b with b | b <;> rw [a] at b <;> cases b
  · rfl
  · rfl
theorem join_new {K : PySem.W.Frag} {H : Hp} {x dx p : Addr} {as : List Addr} {cs : List CardD} {Q : VK} {E : XK} (nx : H x = none) (nd : H dx = none) (ne : dx ≠ x) (hp : SqA H p (as.map V.ref)) (hA : CardsAt K H cs as) (hn : cs ≠ []) (hw : wtL cs < 60)
    (q : ∀ hd H', Ex H H' → H hd = none → H' hd = some (.lst (as.map V.ref)) → H' x = some (.ins (He.ga K "Join") dx (cdF hd (1 + wtL cs) [])) → CardAt K H' (.join cs) x → Q .non H') :
    sp_Join_init K [.ref x, .ref p] (upd (upd H dx (.own x)) x (.ins (He.ga K "Join") dx [])) Q E := by
  have X1 := ex_made (o1 := .own x) (o2 := .ins (He.ga K "Join") dx []) nx nd ne
  have ll := wtL_len cs
  refine ⟨x, dx, _, H, some cs, rfl, upd_same, nx, X1, .inl ⟨p, _, cs.map some, rfl, hp, by rw [List.length_map, hA.len]; omega, CdXs.of hA, (allO_some cs).symm⟩, fun cs' e n' w' p' as' hd H' ep hs hA' O nh hh h' => ?_, fun h => ?_⟩
  · cases e
    cases ep
    obtain rfl := ref_inj (sqA_inj hs hp)
    have X := Oth.ex X1 nx O
    exact q hd H' X nh hh h' (by unfold CardAt; exact ⟨dx, hd, as', h', hh, hA'.mono X⟩)
  · rcases h cs rfl with h | h
    · exact absurd h hn
    · omega
theorem ok_Join_init {P : Program} {w : World} {K : PySem.W.Frag} {mg : Str → Option Value} {base : Heap} (T : Env K mg) : Fc P w K mg base 3 (He.ma K (He.ga K "Join") "__init__") [] (sp_Join_init K ) := by
  obtain ⟨fd, D, F⟩ := fb_Join_init T
  exact F.all (D.bindsN fun _ _ _ _ _ _ us hl => match us, hl with | [_, _], _ => rfl)
end
section
def sp_Less_init (K : PySem.W.Frag) : Sp := fun vs H Q E => ∃ (a dx : Addr) (x y : V) (H0 : Hp) (r1 r2 : Option CardD), vs = [.ref a, x, y] ∧ H a = some (.ins (He.ga K "Less") dx []) ∧ H0 a = none ∧ Ex H0 H ∧ CdX K H0 x r1 ∧ CdX K H0 y r2 ∧
  (∀ c d, r1 = some c → r2 = some d → c.wt + d.wt < 60 → ∀ hd H', Oth a H H' → H0 hd = none → H' hd = some (.lst [x, y]) → H' a = some (.ins (He.ga K "Less") dx (cdF hd (1 + (c.wt + d.wt)) [])) → CardAt K H' (.less c d) a → Q .non H') ∧
  ((∀ c d, r1 = some c → r2 = some d → 60 ≤ c.wt + d.wt) → ∀ H', Oth a H H' → E (.ref (He.ga K "NoCard")) none H')
theorem fb_Less_init {P : Program} {w : World} {K : PySem.W.Frag} {mg : Str → Option Value} {base : Heap} (T : Env K mg) : ∃ fd, FunD K "__init__" "Less.__init__" (defArgs s_Less_init) (defBody s_Less_init) (defScope s_Less_init) [] [] (He.ma K (He.ga K "Less") "__init__") fd ∧ Fb P w K mg base 3 (He.ma K (He.ga K "Less") "__init__") fd ["self", "one", "other"] (sp_Less_init K) := by
  obtain ⟨fd, F⟩ := T.f_Less_init
  refine ⟨fd, F, fb_of F sc_Less_init (fun vs H Q E h => ?_) (fun cdv A outer s H vs Q E hr h => ?_)⟩
  · obtain ⟨a, dx, x, y, H0, r1, r2, rfl, _⟩ := h
    rfl
  · obtain ⟨a, dx, x, y, H0, r1, r2, rfl, ha, na0, X0, h1, h2, q, qe⟩ := h
    refine ⟨_, (pss_one (ps_expr (c_clsm T.cm_Card (ok_Card_init T) (hr.mono (by decide)) T.g_Card (takes_of rfl rfl rfl rfl) (pa_cons (pv 0) (pa_cons (pe_lst (pa_cons (pv 1) (pa_cons (pv 2) pa_nil))) pa_nil))))), ?_⟩
    refine ⟨_, rfl, _, rfl, _, rfl, (by show 2 ≤ sizeLine; decide), ?_⟩
    intro a1 na1
    have Xa1 := ex_new (o := HO.lst [x, y]) na1
    have ha1 : upd H a1 (HO.lst [x, y]) a1 = some (HO.lst [x, y]) := upd_same
    generalize upd H a1 (HO.lst [x, y]) = Ga1 at Xa1 ha1 ⊢
    have na1' : a ≠ a1 := ne_of_none ha na1
    refine card_init_ok T (rs := [r1, r2]) (Xa1 _ _ ha) na0 (X0.trans Xa1) T.c_Less T.a_Less_held T.a_Less_weight (.inl ha1) (by show 2 ≤ 1000; decide) (.cons h1 (.cons h2 .nil)) (fun cs as e hw ex hA hd H' O nh hh h' => ?_) fun he H' O => ?_
    · cases r1 with
      | none => cases e
      | some c =>
        cases r2 with
        | none => cases e
        | some d =>
          cases e
          obtain ⟨b, rfl, hb⟩ := h1
          obtain ⟨e, rfl, he⟩ := h2
          have O' := (ex_oth Xa1).trans O
          have X := Oth.ex X0 na0 O'
          refine q c d rfl rfl ?_ hd H' O' nh hh h' ?_
          · have hw' : c.wt + (d.wt + 0) < 60 := hw
            omega
          · unfold CardAt
            exact ⟨dx, hd, b, e, h', hh, hb.mono X, he.mono X⟩
    · refine qe (fun c d e1 e2 => ?_) H' ((ex_oth Xa1).trans O)
      subst e1 e2
      exact he [c, d] rfl
theorem less_new {K : PySem.W.Frag} {H : Hp} {x dx b e : Addr} {c d : CardD} {Q : VK} {E : XK} (nx : H x = none) (nd : H dx = none) (ne : dx ≠ x) (hb : CardAt K H c b) (he : CardAt K H d e) (hw : c.wt + d.wt < 60) (q : ∀ hd H', Ex H H' → H hd = none → H' hd = some (.lst [.ref b, .ref e]) → H' x = some (.ins (He.ga K "Less") dx (cdF hd (1 + (c.wt + d.wt)) [])) → CardAt K H' (.less c d) x → Q .non H') :
    sp_Less_init K [.ref x, .ref b, .ref e] (upd (upd H dx (.own x)) x (.ins (He.ga K "Less") dx [])) Q E := by
  have X1 := ex_made (o1 := .own x) (o2 := .ins (He.ga K "Less") dx []) nx nd ne
  refine ⟨x, dx, _, _, H, some c, some d, rfl, upd_same, nx, X1, ⟨b, rfl, hb⟩, ⟨e, rfl, he⟩, fun c' d' e1 e2 _ hd H' O nh hh h' hA => ?_, fun h => ?_⟩
  · cases e1
    cases e2
    exact q hd H' (Oth.ex X1 nx O) nh hh h' hA
  · have := h c d rfl rfl
    omega
theorem ok_Less_init {P : Program} {w : World} {K : PySem.W.Frag} {mg : Str → Option Value} {base : Heap} (T : Env K mg) : Fc P w K mg base 3 (He.ma K (He.ga K "Less") "__init__") [] (sp_Less_init K ) := by
  obtain ⟨fd, D, F⟩ := fb_Less_init T
  exact F.all (D.bindsN fun _ _ _ _ _ _ us hl => match us, hl with | [_, _, _], _ => rfl)
end
section
def sp_Swap_init (K : PySem.W.Frag) : Sp := fun vs H Q E => ∃ (a dx : Addr) (x z y : V) (H0 : Hp) (r1 r2 : Option CardD) (rd : Option DaysD), vs = [.ref a, x, z, y] ∧ H a = some (.ins (He.ga K "Swap") dx []) ∧ H0 a = none ∧ Ex H0 H ∧ DyIs K H0 z rd ∧ (rd.isSome = true → CdX K H0 x r1 ∧ CdX K H0 y r2) ∧
  (∀ c d D, r1 = some c → r2 = some d → rd = some D → c.wt + d.wt < 60 → ∀ hd H', Oth a H H' → H0 hd = none → H' hd = some (.lst [x, y]) → H' a = some (.ins (He.ga K "Swap") dx (cdF hd (1 + (c.wt + d.wt)) [("days", z)])) → CardAt K H' (.swap c D d) a → Q .non H') ∧
  ((∀ c d D, r1 = some c → r2 = some d → rd = some D → 60 ≤ c.wt + d.wt) → ∀ H', Oth a H H' → E (.ref (He.ga K "NoCard")) none H')
theorem fb_Swap_init {P : Program} {w : World} {K : PySem.W.Frag} {mg : Str → Option Value} {base : Heap} (T : Env K mg) : ∃ fd, FunD K "__init__" "Swap.__init__" (defArgs s_Swap_init) (defBody s_Swap_init) (defScope s_Swap_init) [] [] (He.ma K (He.ga K "Swap") "__init__") fd ∧ Fb P w K mg base 3 (He.ma K (He.ga K "Swap") "__init__") fd ["self", "one", "days", "other"] (sp_Swap_init K) := by
  obtain ⟨fd, F⟩ := T.f_Swap_init
  refine ⟨fd, F, fb_of F sc_Swap_init (fun vs H Q E h => ?_) (fun cdv A outer s H vs Q E hr h => ?_)⟩
  · obtain ⟨a, dx, x, z, y, H0, r1, r2, rd, rfl, _⟩ := h
    rfl
  · obtain ⟨a, dx, x, z, y, H0, r1, r2, rd, rfl, ha, na0, X0, hd, h12, q, qe⟩ := h
    refine ⟨_, (pss_cons (ps_expr (c_call (ok_want T) (hr.mono (by decide)) T.g_want T.k_want (takes_of rfl rfl rfl rfl) (pa_cons (pe_callB call_isi (by rfl) T.n_isinstance (by decide +kernel) (pa_cons (pv 2) (pa_cons (pe_glob (v := .ref _) (by rfl) T.g_Days rfl) pa_nil))) (pa_cons pe_str pa_nil))))
      (pss_cons (ps_expr (c_clsm T.cm_Card (ok_Card_init T) (hr.mono (by decide)) T.g_Card (takes_of rfl rfl rfl rfl) (pa_cons (pv 0) (pa_cons (pe_lst (pa_cons (pv 1) (pa_cons (pv 3) pa_nil))) pa_nil))))
      (pss_one (ps_fld (pv 0) (pv 2) rfl)))), ?_⟩
    obtain ⟨t, b, ty, kt, hb⟩ : ∃ t b, TyX K H z t ∧ PySem.W.kitOne K t (.ref (DaysC K)) = some b ∧ (b = true → rd.isSome = true) ∧ (b = false → rd = none) := by
      have hd1 := hd.mono X0
      cases rd with
      | none =>
        obtain ⟨t, ty, k⟩ := hd1
        exact ⟨t, false, ty, k, nofun, fun _ => rfl⟩
      | some D =>
        obtain ⟨s, rfl, ⟨dr, r1, po, pa, k1, _⟩, _⟩ := hd1
        exact ⟨_, true, ty_ins T.i_Days T.c_Days k1, T.kit_Days_Days, fun _ => rfl, nofun⟩
    refine ⟨_, rfl, z, _, t, _, b, rfl, .own _, ty, kt, b, _, rfl, fun eb => ?_, fun eb => qe (fun c d D _ _ e => by rw [hb.2 eb] at e; cases e) H (.refl _ _)⟩
    obtain ⟨D, rfl⟩ := Option.isSome_iff_exists.mp (hb.1 eb)
    obtain ⟨rz, rfl, hD, hDo⟩ := hd
    clear hb kt ty
    obtain ⟨h1, h2⟩ := h12 rfl
    refine ⟨_, rfl, _, rfl, _, rfl, (by show 2 ≤ sizeLine; decide), ?_⟩
    intro a1 na1
    have Xa1 := ex_new (o := HO.lst [x, y]) na1
    have ha1 : upd H a1 (HO.lst [x, y]) a1 = some (HO.lst [x, y]) := upd_same
    generalize upd H a1 (HO.lst [x, y]) = Ga1 at Xa1 ha1 ⊢
    unfold tNil
    show sp_Card_init K [.ref a, .ref a1] Ga1 _ _
    refine card_init_ok T (rs := [r1, r2]) (Xa1 _ _ ha) na0 (X0.trans Xa1) T.c_Swap T.a_Swap_held T.a_Swap_weight (.inl ha1) (by show 2 ≤ 1000; decide) (.cons h1 (.cons h2 .nil)) (fun cs as e hw ex hA hd H' O nh hh h' => ?_) fun he H' O => ?_
    · cases r1 with
      | none => cases e
      | some c =>
        cases r2 with
        | none => cases e
        | some d =>
          cases e
          obtain ⟨b, rfl, hb⟩ := h1
          obtain ⟨e, rfl, he⟩ := h2
          have O' := (ex_oth Xa1).trans O
          refine ⟨_, rfl, _, rfl, a, _, dx, _, rfl, h', T.c_Swap, T.a_Swap_days, by show 2 < 1000; decide, ?_⟩
          have dh : hd ≠ a := fun z => by rw [z, h'] at hh; cases hh
          have O2 : Oth a H (upd H' a (.ins (He.ga K "Swap") dx (putF "days" (.ref rz) (cdF hd (1 + wtL [c, d]) [])))) := O'.upd
          have X := Oth.ex X0 na0 O2
          refine q c d D rfl rfl rfl ?_ hd _ O2 nh (by rw [upd_ne dh]; exact hh) upd_same ?_
          · have hw' : c.wt + (d.wt + 0) < 60 := hw
            omega
          · unfold CardAt
            exact ⟨dx, hd, b, e, rz, upd_same, by rw [upd_ne dh]; exact hh, hb.mono X, he.mono X, hD.mono X⟩
    · refine qe (fun c d D e1 e2 _ => ?_) H' ((ex_oth Xa1).trans O)
      subst e1 e2
      exact he [c, d] rfl
theorem swap_new {K : PySem.W.Frag} {H : Hp} {x dx b r e : Addr} {c d : CardD} {D : DaysD} {Q : VK} {E : XK} (nx : H x = none) (nd : H dx = none) (ne : dx ≠ x) (hb : CardAt K H c b) (hr : DaysAt K H r D) (hD : D.ok) (he : CardAt K H d e) (hw : c.wt + d.wt < 60) (q : ∀ hd H', Ex H H' → H hd = none → H' hd = some (.lst [.ref b, .ref e]) → H' x = some (.ins (He.ga K "Swap") dx (cdF hd (1 + (c.wt + d.wt)) [("days", .ref r)])) → CardAt K H' (.swap c D d) x → Q .non H') :
    sp_Swap_init K [.ref x, .ref b, .ref r, .ref e] (upd (upd H dx (.own x)) x (.ins (He.ga K "Swap") dx [])) Q E := by
  have X1 := ex_made (o1 := .own x) (o2 := .ins (He.ga K "Swap") dx []) nx nd ne
  refine ⟨x, dx, _, _, _, H, some c, some d, some D, rfl, upd_same, nx, X1, ⟨r, rfl, hr, hD⟩, fun _ => ⟨⟨b, rfl, hb⟩, ⟨e, rfl, he⟩⟩, fun c' d' D' e1 e2 e3 _ hd H' O nh hh h' hA => ?_, fun h => ?_⟩
  · cases e1
    cases e2
    cases e3
    exact q hd H' (Oth.ex X1 nx O) nh hh h' hA
  · have := h c d D rfl rfl rfl
    omega
theorem ok_Swap_init {P : Program} {w : World} {K : PySem.W.Frag} {mg : Str → Option Value} {base : Heap} (T : Env K mg) : Fc P w K mg base 3 (He.ma K (He.ga K "Swap") "__init__") [] (sp_Swap_init K ) := by
  obtain ⟨fd, D, F⟩ := fb_Swap_init T
  exact F.all (D.bindsN fun _ _ _ _ _ _ us hl => match us, hl with | [_, _, _, _], _ => rfl)
end
section
/-- the minutes of a Later, or what are none -/
def MnIs (K : PySem.W.Frag) (H : Hp) (y : V) : Option Nat → Prop
  | some m => y = .int (m : Nat) ∧ m ≤ 10080
  | none => Cl K H y ∧ ∀ m : Nat, y = .int (m : Nat) → 10080 < m
theorem MnIs.mono {K : PySem.W.Frag} {H H' : Hp} {y : V} {r : Option Nat} (h : MnIs K H y r) (e : Ex H H') : MnIs K H' y r := by
  cases r with
  | none => exact ⟨h.1.mono e, h.2⟩
  | some m => exact h
def sp_Later_init (K : PySem.W.Frag) : Sp := fun vs H Q E => ∃ (a dx : Addr) (x y : V) (H0 : Hp) (r1 : Option CardD) (rm : Option Nat), vs = [.ref a, x, y] ∧ H a = some (.ins (He.ga K "Later") dx []) ∧ H0 a = none ∧ Ex H0 H ∧ MnIs K H0 y rm ∧ (rm.isSome = true → CdX K H0 x r1) ∧
  (∀ c m, r1 = some c → rm = some m → c.wt < 60 → ∀ hd H', Oth a H H' → H0 hd = none → H' hd = some (.lst [x]) → H' a = some (.ins (He.ga K "Later") dx (cdF hd (1 + c.wt) [("minutes", .int (m : Nat))])) → CardAt K H' (.later c m) a → Q .non H') ∧
  ((∀ c m, r1 = some c → rm = some m → 60 ≤ c.wt) → ∀ H', Oth a H H' → E (.ref (He.ga K "NoCard")) none H')
theorem fb_Later_init {P : Program} {w : World} {K : PySem.W.Frag} {mg : Str → Option Value} {base : Heap} (T : Env K mg) : ∃ fd, FunD K "__init__" "Later.__init__" (defArgs s_Later_init) (defBody s_Later_init) (defScope s_Later_init) [.int (60)] [] (He.ma K (He.ga K "Later") "__init__") fd ∧ Fb P w K mg base 3 (He.ma K (He.ga K "Later") "__init__") fd ["self", "one", "minutes"] (sp_Later_init K) := by
  obtain ⟨fd, F⟩ := T.f_Later_init
  refine ⟨fd, F, fb_of F sc_Later_init (fun vs H Q E h => ?_) (fun cdv A outer s H vs Q E hr h => ?_)⟩
  · obtain ⟨a, dx, x, y, H0, r1, rm, rfl, _⟩ := h
    rfl
  · obtain ⟨a, dx, x, y, H0, r1, rm, rfl, ha, na0, X0, hm, h1, q, qe⟩ := h
    refine ⟨_, (pss_cons (ps_expr (c_call (ok_want T) (hr.mono (by decide)) T.g_want T.k_want (takes_of rfl rfl rfl rfl) (pa_cons (pe_and (c_call (ok_is_moment T) (hr.mono (by decide)) T.g_is_moment T.k_is_moment (takes_of rfl rfl rfl rfl) (pa_cons (pv 2) pa_nil)) (pe_one (pe_cmpR op_le (pv 2) (pe_k T.v_LATEST) (nomark _)))) (pa_cons pe_str pa_nil))))
      (pss_cons (ps_expr (c_clsm T.cm_Card (ok_Card_init T) (hr.mono (by decide)) T.g_Card (takes_of rfl rfl rfl rfl) (pa_cons (pv 0) (pa_cons (pe_lst (pa_cons (pv 1) pa_nil)) pa_nil))))
      (pss_one (ps_fld (pv 0) (pv 2) rfl)))), ?_⟩
    have hm1 := hm.mono X0
    have cl : Cl K H y := by
      cases rm with
      | none => exact hm1.1
      | some m => rw [hm1.1]; exact cl_int _
    refine ⟨_, rfl, y, rfl, cl, _, rfl, ?_⟩
    cases hi : isM y with
    | false =>
      refine iteF ⟨_, _, rfl, nofun, fun _ => qe (fun c m _ e => ?_) H (.refl _ _)⟩
      subst e
      rw [hm.1] at hi
      have : decide (0 ≤ ((m : Nat) : Int)) = false := hi
      rw [decide_eq_true (by omega)] at this
      cases this
    | true =>
      obtain ⟨i, rfl, i0⟩ := isM_w hi
      obtain ⟨n, rfl⟩ := Int.eq_ofNat_of_zero_le i0
      refine iteT ⟨_, rfl, _, _, rfl, rfl, _, _, rfl, fun eb => ?_, fun eb => qe (fun c m _ e => ?_) H (.refl _ _)⟩
      rotate_left
      · subst e
        have h2 := of_decide_eq_false eb
        obtain ⟨h3, h4⟩ := hm
        injection h3 with h3
        omega
      have h2 := of_decide_eq_true eb
      obtain rfl : rm = some n := by
        cases rm with
        | none =>
          have := hm.2 n rfl
          omega
        | some m =>
          have h3 := hm.1
          injection h3 with h3
          rw [show m = n by omega]
      have h1 := h1 rfl
      refine ⟨_, rfl, _, rfl, (by show 1 ≤ sizeLine; decide), fun p np => ?_⟩
      have Xp := ex_new (o := HO.lst [x]) np
      have hp : upd H p (HO.lst [x]) p = some (HO.lst [x]) := upd_same
      generalize upd H p (HO.lst [x]) = G at Xp hp ⊢
      unfold tNil
      show sp_Card_init K [.ref a, .ref p] G _ _
      refine card_init_ok T (rs := [r1]) (Xp _ _ ha) na0 (X0.trans Xp) T.c_Later T.a_Later_held T.a_Later_weight (.inl hp) (by show 1 ≤ 1000; decide) (.cons h1 .nil) (fun cs as e hw ex hA hd H' O nh hh h' => ?_) fun he H' O => ?_
      · cases r1 with
        | none => cases e
        | some c =>
          cases e
          obtain ⟨b, rfl, hb⟩ := h1
          have O' := (ex_oth Xp).trans O
          refine ⟨_, rfl, _, rfl, a, _, dx, _, rfl, h', T.c_Later, T.a_Later_minutes, by show 2 < 1000; decide, ?_⟩
          have dh : hd ≠ a := fun z => by rw [z, h'] at hh; cases hh
          have O2 : Oth a H (upd H' a (.ins (He.ga K "Later") dx (putF "minutes" (.int ((n : Nat) : Int)) (cdF hd (1 + wtL [c]) [])))) := O'.upd
          have X := Oth.ex X0 na0 O2
          have hw' : c.wt + 0 < 60 := hw
          refine q c n rfl rfl (by omega) hd _ O2 nh (by rw [upd_ne dh]; exact hh) upd_same ?_
          unfold CardAt
          exact ⟨dx, hd, b, upd_same, by rw [upd_ne dh]; exact hh, hb.mono X⟩
      · refine qe (fun c m e1 _ => ?_) H' ((ex_oth Xp).trans O)
        subst e1
        exact he [c] rfl
theorem later_new {K : PySem.W.Frag} {H : Hp} {x dx b : Addr} {c : CardD} {m : Nat} {Q : VK} {E : XK} (nx : H x = none) (nd : H dx = none) (ne : dx ≠ x) (hb : CardAt K H c b) (hm : m ≤ 10080) (hw : c.wt < 60) (q : ∀ hd H', Ex H H' → H hd = none → H' hd = some (.lst [.ref b]) → H' x = some (.ins (He.ga K "Later") dx (cdF hd (1 + c.wt) [("minutes", .int (m : Nat))])) → CardAt K H' (.later c m) x → Q .non H') :
    sp_Later_init K [.ref x, .ref b, .int (m : Nat)] (upd (upd H dx (.own x)) x (.ins (He.ga K "Later") dx [])) Q E := by
  have X1 := ex_made (o1 := .own x) (o2 := .ins (He.ga K "Later") dx []) nx nd ne
  refine ⟨x, dx, _, _, H, some c, some m, rfl, upd_same, nx, X1, ⟨rfl, hm⟩, fun _ => ⟨b, rfl, hb⟩, fun c' z' e1 e2 _ hd H' O nh hh h' hA => ?_, fun h => ?_⟩
  · cases e1
    cases e2
    exact q hd H' (Oth.ex X1 nx O) nh hh h' hA
  · have := h c m rfl rfl
    omega
theorem ok_Later_init {P : Program} {w : World} {K : PySem.W.Frag} {mg : Str → Option Value} {base : Heap} (T : Env K mg) : Fc P w K mg base 3 (He.ma K (He.ga K "Later") "__init__") [] (fun vs H Q E => vs.length = 3 + ([] : List Str).length ∧ sp_Later_init K  (pick [.inl 0, .inl 1, .inl 2] vs [.int (60)]) H Q E) := by
  obtain ⟨fd, D, F⟩ := fb_Later_init T
  exact Fb.shape D F 3 [] (fun us its => pick [.inl 0, .inl 1, .inl 2] us its) (by decide) (fun r1 r2 => pick_vals _ r1 r2) (fun T kV doc pm an cdv ct us ws its h1 h2 h3 => match us, ws, its, h1, h2, h3 with | [_, _, _], [], [_], _, _, _ => ⟨_, rfl, rfl⟩)
end
section
/-- a name, or what is none -/
def NmIs (K : PySem.W.Frag) (H : Hp) (y : V) : Option Str → Prop
  | some z => y = .str z ∧ nmN z.cps.toList = true
  | none => ClS K H y ∧ isNm y = false
theorem NmIs.cl {K : PySem.W.Frag} {H H' : Hp} {y : V} {r : Option Str} (h : NmIs K H y r) (e : Ex H H') : ClS K H' y ∧ isNm y = r.isSome := by
  cases r with
  | none => exact ⟨h.1.mono e, h.2⟩
  | some z =>
    obtain ⟨rfl, h⟩ := h
    have h2 := (nm_facts h).2.1
    have h3 : z.length = z.cps.toList.length := rfl
    exact ⟨.inl ⟨z, rfl, by omega⟩, h⟩
end
section
def sp_Noted_init (K : PySem.W.Frag) : Sp := fun vs H Q E => ∃ (a dx : Addr) (x y : V) (H0 : Hp) (r1 : Option CardD) (rn : Option Str), vs = [.ref a, x, y] ∧ H a = some (.ins (He.ga K "Noted") dx []) ∧ H0 a = none ∧ Ex H0 H ∧ NmIs K H0 y rn ∧ (rn.isSome = true → CdX K H0 x r1) ∧
  (∀ c z, r1 = some c → rn = some z → c.wt < 60 → ∀ hd H', Oth a H H' → H0 hd = none → H' hd = some (.lst [x]) → H' a = some (.ins (He.ga K "Noted") dx (cdF hd (1 + c.wt) [("note", .str z)])) → CardAt K H' (.noted c z) a → Q .non H') ∧
  ((∀ c z, r1 = some c → rn = some z → 60 ≤ c.wt) → ∀ H', Oth a H H' → E (.ref (He.ga K "NoCard")) none H')
theorem fb_Noted_init {P : Program} {w : World} {K : PySem.W.Frag} {mg : Str → Option Value} {base : Heap} (T : Env K mg) : ∃ fd, FunD K "__init__" "Noted.__init__" (defArgs s_Noted_init) (defBody s_Noted_init) (defScope s_Noted_init) [] [] (He.ma K (He.ga K "Noted") "__init__") fd ∧ Fb P w K mg base 3 (He.ma K (He.ga K "Noted") "__init__") fd ["self", "one", "note"] (sp_Noted_init K) := by
  obtain ⟨fd, F⟩ := T.f_Noted_init
  refine ⟨fd, F, fb_of F sc_Noted_init (fun vs H Q E h => ?_) (fun cdv A outer s H vs Q E hr h => ?_)⟩
  · obtain ⟨a, dx, x, y, H0, r1, rn, rfl, _⟩ := h
    rfl
  · obtain ⟨a, dx, x, y, H0, r1, rn, rfl, ha, na0, X0, hn, h1, q, qe⟩ := h
    refine ⟨_, (pss_cons (ps_expr (c_call (ok_want T) (hr.mono (by decide)) T.g_want T.k_want (takes_of rfl rfl rfl rfl) (pa_cons (c_call (ok_is_name T) (hr.mono (by decide)) T.g_is_name T.k_is_name (takes_of rfl rfl rfl rfl) (pa_cons (pv 2) pa_nil)) (pa_cons pe_str pa_nil))))
      (pss_cons (ps_expr (c_clsm T.cm_Card (ok_Card_init T) (hr.mono (by decide)) T.g_Card (takes_of rfl rfl rfl rfl) (pa_cons (pv 0) (pa_cons (pe_lst (pa_cons (pv 1) pa_nil)) pa_nil))))
      (pss_one (ps_fld (pv 0) (pv 2) rfl)))), ?_⟩
    obtain ⟨cl, en⟩ := hn.cl X0
    refine ⟨_, rfl, y, rfl, cl, fun H1 X1 => ?_⟩
    rw [en]
    refine ⟨_, _, rfl, fun eb => ?_, fun eb => qe (fun c z _ e => by rw [e] at eb; cases eb) H1 (ex_oth X1)⟩
    obtain ⟨z, rfl⟩ := Option.isSome_iff_exists.mp eb
    obtain ⟨rfl, hz⟩ := hn
    have h1 := h1 rfl
    have ha1 := X1 _ _ ha
    have X01 := X0.trans X1
    refine ⟨_, rfl, _, rfl, (by show 1 ≤ sizeLine; decide), fun p np => ?_⟩
    have Xp := ex_new (o := HO.lst [x]) np
    have hp : upd H1 p (HO.lst [x]) p = some (HO.lst [x]) := upd_same
    generalize upd H1 p (HO.lst [x]) = G at Xp hp ⊢
    unfold tNil
    show sp_Card_init K [.ref a, .ref p] G _ _
    refine card_init_ok T (rs := [r1]) (Xp _ _ ha1) na0 (X01.trans Xp) T.c_Noted T.a_Noted_held T.a_Noted_weight (.inl hp) (by show 1 ≤ 1000; decide) (.cons h1 .nil) (fun cs as e hw ex hA hd H' O nh hh h' => ?_) fun he H' O => ?_
    · cases r1 with
      | none => cases e
      | some c =>
        cases e
        obtain ⟨b, rfl, hb⟩ := h1
        have O' := (ex_oth (X1.trans Xp)).trans O
        refine ⟨_, rfl, _, rfl, a, _, dx, _, rfl, h', T.c_Noted, T.a_Noted_note, by show 2 < 1000; decide, ?_⟩
        have dh : hd ≠ a := fun z => by rw [z, h'] at hh; cases hh
        have O2 : Oth a H (upd H' a (.ins (He.ga K "Noted") dx (putF "note" (.str z) (cdF hd (1 + wtL [c]) [])))) := O'.upd
        have X := Oth.ex X0 na0 O2
        have hw' : c.wt + 0 < 60 := hw
        refine q c z rfl rfl (by omega) hd _ O2 nh (by rw [upd_ne dh]; exact hh) upd_same ?_
        unfold CardAt
        exact ⟨dx, hd, b, upd_same, by rw [upd_ne dh]; exact hh, hb.mono X⟩
    · refine qe (fun c z e1 _ => ?_) H' ((ex_oth (X1.trans Xp)).trans O)
      subst e1
      exact he [c] rfl
theorem noted_new {K : PySem.W.Frag} {H : Hp} {x dx b : Addr} {c : CardD} {z : Str} {Q : VK} {E : XK} (nx : H x = none) (nd : H dx = none) (ne : dx ≠ x) (hb : CardAt K H c b) (hz : nmN z.cps.toList = true) (hw : c.wt < 60) (q : ∀ hd H', Ex H H' → H hd = none → H' hd = some (.lst [.ref b]) → H' x = some (.ins (He.ga K "Noted") dx (cdF hd (1 + c.wt) [("note", .str z)])) → CardAt K H' (.noted c z) x → Q .non H') :
    sp_Noted_init K [.ref x, .ref b, .str z] (upd (upd H dx (.own x)) x (.ins (He.ga K "Noted") dx [])) Q E := by
  have X1 := ex_made (o1 := .own x) (o2 := .ins (He.ga K "Noted") dx []) nx nd ne
  refine ⟨x, dx, _, _, H, some c, some z, rfl, upd_same, nx, X1, ⟨rfl, hz⟩, fun _ => ⟨b, rfl, hb⟩, fun c' z' e1 e2 _ hd H' O nh hh h' hA => ?_, fun h => ?_⟩
  · cases e1
    cases e2
    exact q hd H' (Oth.ex X1 nx O) nh hh h' hA
  · have := h c z rfl rfl
    omega
theorem ok_Noted_init {P : Program} {w : World} {K : PySem.W.Frag} {mg : Str → Option Value} {base : Heap} (T : Env K mg) : Fc P w K mg base 3 (He.ma K (He.ga K "Noted") "__init__") [] (sp_Noted_init K ) := by
  obtain ⟨fd, D, F⟩ := fb_Noted_init T
  exact F.all (D.bindsN fun _ _ _ _ _ _ us hl => match us, hl with | [_, _, _], _ => rfl)
end
section
def sp_As_init (K : PySem.W.Frag) : Sp := fun vs H Q E => ∃ (a dx : Addr) (y : V) (H0 : Hp) (rn : Option Str), vs = [.ref a, y] ∧ H a = some (.ins (He.ga K "As") dx []) ∧ H0 a = none ∧ Ex H0 H ∧ NmIs K H0 y rn ∧
  (∀ z, rn = some z → ∀ hd H', Oth a H H' → H0 hd = none → H' hd = some (.lst []) → H' a = some (.ins (He.ga K "As") dx (cdF hd 1 [("name", .str z)])) → CardAt K H' (.as_ z) a → Q .non H') ∧
  (rn = none → ∀ H', Oth a H H' → E (.ref (He.ga K "NoCard")) none H')
theorem fb_As_init {P : Program} {w : World} {K : PySem.W.Frag} {mg : Str → Option Value} {base : Heap} (T : Env K mg) : ∃ fd, FunD K "__init__" "As.__init__" (defArgs s_As_init) (defBody s_As_init) (defScope s_As_init) [] [] (He.ma K (He.ga K "As") "__init__") fd ∧ Fb P w K mg base 3 (He.ma K (He.ga K "As") "__init__") fd ["self", "name"] (sp_As_init K) := by
  obtain ⟨fd, F⟩ := T.f_As_init
  refine ⟨fd, F, fb_of F sc_As_init (fun vs H Q E h => ?_) (fun cdv A outer s H vs Q E hr h => ?_)⟩
  · obtain ⟨a, dx, y, H0, rn, rfl, _⟩ := h
    rfl
  · obtain ⟨a, dx, y, H0, rn, rfl, ha, na0, X0, hn, q, qe⟩ := h
    refine ⟨_, (pss_cons (ps_expr (c_call (ok_want T) (hr.mono (by decide)) T.g_want T.k_want (takes_of rfl rfl rfl rfl) (pa_cons (c_call (ok_is_name T) (hr.mono (by decide)) T.g_is_name T.k_is_name (takes_of rfl rfl rfl rfl) (pa_cons (pv 1) pa_nil)) (pa_cons pe_str pa_nil))))
      (pss_cons (ps_expr (c_clsm T.cm_Card (ok_Card_init T) (hr.mono (by decide)) T.g_Card (takes_of rfl rfl rfl rfl) (pa_cons (pv 0) (pa_cons (pe_lst pa_nil) pa_nil))))
      (pss_one (ps_fld (pv 0) (pv 1) rfl)))), ?_⟩
    obtain ⟨cl, en⟩ := hn.cl X0
    refine ⟨_, rfl, y, rfl, cl, fun H1 X1 => ?_⟩
    rw [en]
    refine ⟨_, _, rfl, fun eb => ?_, fun eb => qe (by cases rn with | none => rfl | some z => cases eb) H1 (ex_oth X1)⟩
    obtain ⟨z, rfl⟩ := Option.isSome_iff_exists.mp eb
    obtain ⟨rfl, hz⟩ := hn
    have ha1 := X1 _ _ ha
    have X01 := X0.trans X1
    refine ⟨_, rfl, (by show 0 ≤ sizeLine; decide), fun p np => ?_⟩
    have Xp := ex_new (o := HO.lst []) np
    have hp : upd H1 p (HO.lst []) p = some (HO.lst []) := upd_same
    generalize upd H1 p (HO.lst []) = G at Xp hp ⊢
    unfold tNil
    show sp_Card_init K [.ref a, .ref p] G _ _
    refine card_init_ok T (rs := []) (Xp _ _ ha1) na0 (X01.trans Xp) T.c_As T.a_As_held T.a_As_weight (.inl hp) (by show 0 ≤ 1000; decide) .nil (fun cs as e hw ex hA hd H' O nh hh h' => ?_) fun he H' O => ?_
    · cases e
      have O' := (ex_oth (X1.trans Xp)).trans O
      refine ⟨_, rfl, _, rfl, a, _, dx, _, rfl, h', T.c_As, T.a_As_name, by show 2 < 1000; decide, ?_⟩
      have dh : hd ≠ a := fun z => by rw [z, h'] at hh; cases hh
      have O2 : Oth a H (upd H' a (.ins (He.ga K "As") dx (putF "name" (.str z) (cdF hd (1 + wtL []) [])))) := O'.upd
      refine q z rfl hd _ O2 nh (by rw [upd_ne dh]; exact hh) upd_same ?_
      unfold CardAt
      exact ⟨dx, hd, upd_same, by rw [upd_ne dh]; exact hh⟩
    · have := he [] rfl
      exact absurd this (by decide)
theorem as_new {K : PySem.W.Frag} {H : Hp} {x dx : Addr} {z : Str} {Q : VK} {E : XK} (nx : H x = none) (nd : H dx = none) (ne : dx ≠ x) (hz : nmN z.cps.toList = true) (q : ∀ hd H', Ex H H' → H hd = none → H' hd = some (.lst []) → H' x = some (.ins (He.ga K "As") dx (cdF hd 1 [("name", .str z)])) → CardAt K H' (.as_ z) x → Q .non H') :
    sp_As_init K [.ref x, .str z] (upd (upd H dx (.own x)) x (.ins (He.ga K "As") dx [])) Q E := by
  have X1 := ex_made (o1 := .own x) (o2 := .ins (He.ga K "As") dx []) nx nd ne
  refine ⟨x, dx, _, H, some z, rfl, upd_same, nx, X1, ⟨rfl, hz⟩, fun z' e hd H' O nh hh h' hA => ?_, fun h => nomatch h⟩
  cases e
  exact q hd H' (Oth.ex X1 nx O) nh hh h' hA
theorem ok_As_init {P : Program} {w : World} {K : PySem.W.Frag} {mg : Str → Option Value} {base : Heap} (T : Env K mg) : Fc P w K mg base 3 (He.ma K (He.ga K "As") "__init__") [] (sp_As_init K ) := by
  obtain ⟨fd, D, F⟩ := fb_As_init T
  exact F.all (D.bindsN fun _ _ _ _ _ _ us hl => match us, hl with | [_, _], _ => rfl)
end
section
theorem dtxt_len {D : DaysD} (hD : D.ok) (hF : D.fit 150) : (dtxt D).length ≤ 3500 := by
  have h := joinL_len (wlen (by decide) hD hF).1
  have h2 := (wlen (by decide) hD hF).2
  unfold dtxt
  omega
end
section
def noteTx (ws : List Str) : List Nat := if ws = [] then [] else [32, 110, 111, 116, 101, 32] ++ TL.joinL [32] (ws.map fun z => z.cps.toList)
def rowTx : CardD → List Nat
  | .once ts ws => [111, 110, 99, 101, 32] ++ rowT (txtL ts) ++ noteTx ws
  | .every D ts ws => [101, 118, 101, 114, 121, 32] ++ dtxt D ++ [32, 97, 116, 32] ++ rowT (txtL ts) ++ noteTx ws
  | .join _ => [106, 111, 105, 110]
  | .less _ _ => [108, 101, 115, 115]
  | .swap _ D _ => [115, 119, 97, 112, 32] ++ dtxt D
  | .later _ m => [108, 97, 116, 101, 114, 32] ++ TL.numL m
  | .noted _ z => [110, 111, 116, 101, 32] ++ z.cps.toList
  | .as_ z => [97, 115, 32] ++ z.cps.toList
/-- what a row tells is small enough -/
def CardD.rok : CardD → Prop
  | .once ts _ => nestL ts ≤ 9 ∧ fitL ts ∧ pcsL ts ≤ 100
  | .every D ts _ => D.fit 150 ∧ nestL ts ≤ 9 ∧ fitL ts ∧ pcsL ts ≤ 100
  | .swap _ D _ => D.fit 150
  | _ => True
theorem join_names (ws : List Str) : Txt.join (Str.ofString " ") ws = SX.S (TL.joinL [32] (ws.map fun z => z.cps.toList)) := by
  have e := SX.join_S [32] (ws.map fun z => z.cps.toList)
  rw [List.map_map, show (SX.S ∘ fun z : Str => z.cps.toList) = id from funext S_of, List.map_id] at e
  exact e
theorem noteTx_len {ws : List Str} (h : Nms ws) : (noteTx ws).length ≤ 6 + 9 * ws.length := by
  unfold noteTx
  split
  · show 0 ≤ _
    omega
  · have e := joinL_len (k := 8) (ws := ws.map fun z => z.cps.toList) fun w hw => by
      obtain ⟨z, hz, rfl⟩ := List.mem_map.mp hw
      have := (nm_facts (h z hz)).2.1
      omega
    rw [List.length_map] at e
    rw [List.length_append]
    show 6 + _ ≤ _
    have : (8 + 1) * ws.length = 9 * ws.length := rfl
    omega
theorem nms_sum : ∀ ws : List Str, Nms ws → (ws.map (·.length)).sum ≤ 8 * ws.length
  | [], _ => Nat.le_refl _
  | z :: r, h => by
    have := nms_sum r fun y hy => h y (List.mem_cons_of_mem _ hy)
    have h2 := (nm_facts (h z List.mem_cons_self)).2.1
    have h3 : z.length = z.cps.toList.length := by rw [← S_of z, SX.S_len, S_of]
    rw [List.map_cons, List.sum_cons, List.length_cons]
    omega
mutual
/-- all rows tell what is small enough -/
def rokA : CardD → Prop
  | .once ts ws => (CardD.once ts ws).rok
  | .every D ts ws => (CardD.every D ts ws).rok
  | .join cs => rokL cs
  | .less c d => rokA c ∧ rokA d
  | .swap c D d => D.fit 150 ∧ rokA c ∧ rokA d
  | .later c _ => rokA c
  | .noted c _ => rokA c
  | .as_ _ => True
def rokL : List CardD → Prop
  | [] => True
  | c :: cs => rokA c ∧ rokL cs
end
mutual
/-- the rows of a card -/
def rowsTx (l : List Nat) : CardD → List (List Nat)
  | .once ts ws => [l ++ rowTx (.once ts ws)]
  | .every D ts ws => [l ++ rowTx (.every D ts ws)]
  | .join cs => (l ++ rowTx (.join cs)) :: rowsTxL (l ++ [32, 32]) cs
  | .less c d => (l ++ rowTx (.less c d)) :: (rowsTx (l ++ [32, 32]) c ++ rowsTx (l ++ [32, 32]) d)
  | .swap c D d => (l ++ rowTx (.swap c D d)) :: (rowsTx (l ++ [32, 32]) c ++ rowsTx (l ++ [32, 32]) d)
  | .later c m => (l ++ rowTx (.later c m)) :: rowsTx (l ++ [32, 32]) c
  | .noted c z => (l ++ rowTx (.noted c z)) :: rowsTx (l ++ [32, 32]) c
  | .as_ z => [l ++ rowTx (.as_ z)]
def rowsTxL (l : List Nat) : List CardD → List (List Nat)
  | [] => []
  | c :: cs => rowsTx l c ++ rowsTxL l cs
end
theorem rokA_rok {c : CardD} (h : rokA c) : c.rok := by
  cases c <;> unfold rokA at h <;> first | exact h | exact h.1 | trivial
theorem rokA_inner {c d : CardD} (h : rokA c) (m : d ∈ c.inner) : rokA d := by
  have key : ∀ {cs : List CardD}, rokL cs → d ∈ cs → rokA d := fun {cs} => by
    induction cs with
    | nil => exact fun _ z => nomatch z
    | cons x r ih =>
      intro h z
      unfold rokL at h
      rcases List.mem_cons.mp z with rfl | z
      · exact h.1
      · exact ih h.2 z
  cases c with
  | join cs => unfold rokA at h; exact key h m
  | less a b =>
    unfold rokA at h
    rcases List.mem_cons.mp m with rfl | m
    · exact h.1
    · rw [List.mem_singleton.mp m]; exact h.2
  | swap a D b =>
    unfold rokA at h
    rcases List.mem_cons.mp m with rfl | m
    · exact h.2.1
    · rw [List.mem_singleton.mp m]; exact h.2.2
  | later a n => unfold rokA at h; rw [List.mem_singleton.mp m]; exact h
  | noted a z => unfold rokA at h; rw [List.mem_singleton.mp m]; exact h
  | _ => exact nomatch m
theorem rowsTx_eq (l : List Nat) (c : CardD) : rowsTx l c = (l ++ rowTx c) :: rowsTxL (l ++ [32, 32]) c.inner := by
  cases c <;> simp [rowsTx, rowsTxL, CardD.inner]
theorem rowsTxL_app (l : List Nat) (cs ds : List CardD) : rowsTxL l (cs ++ ds) = rowsTxL l cs ++ rowsTxL l ds := by
  induction cs with
  | nil => simp [rowsTxL]
  | cons x r ih => simp [rowsTxL, ih, List.append_assoc]
theorem rowTx_len {c : CardD} (hk : c.ok) (hr : c.rok) : (rowTx c).length ≤ 70000 := by
  cases c with
  | once ts ws =>
    unfold CardD.ok at hk
    obtain ⟨r1, r2, r3⟩ := hr
    have rl := rowT_len r2
    have nl := noteTx_len hk.1
    have := hk.2.2.1
    show ([111, 110, 99, 101, 32] ++ rowT (txtL ts) ++ noteTx ws).length ≤ _
    rw [List.length_append, List.length_append]
    show 5 + _ + _ ≤ _
    omega
  | every D ts ws =>
    unfold CardD.ok at hk
    obtain ⟨r0, r1, r2, r3⟩ := hr
    have rl := rowT_len r2
    have nl := noteTx_len hk.2.1
    have dl := dtxt_len hk.1 r0
    have := hk.2.2.2.1
    show ([101, 118, 101, 114, 121, 32] ++ dtxt D ++ [32, 97, 116, 32] ++ rowT (txtL ts) ++ noteTx ws).length ≤ _
    rw [List.length_append, List.length_append, List.length_append, List.length_append]
    show 6 + _ + 4 + _ + _ ≤ _
    omega
  | join cs => exact Nat.le_of_ble_eq_true rfl
  | less c d => exact Nat.le_of_ble_eq_true rfl
  | swap c D d =>
    unfold CardD.ok at hk
    have dl := dtxt_len hk.2.1 hr
    show ([115, 119, 97, 112, 32] ++ dtxt D).length ≤ _
    rw [List.length_append]
    show 5 + _ ≤ _
    omega
  | later c m =>
    unfold CardD.ok at hk
    have := TL.numL_len (k := 6) (by decide) (Nat.lt_of_le_of_lt hk.2 (show 10080 < 10 ^ 6 by decide))
    show ([108, 97, 116, 101, 114, 32] ++ TL.numL m).length ≤ _
    rw [List.length_append]
    show 6 + _ ≤ _
    omega
  | noted c z =>
    unfold CardD.ok at hk
    have := (nm_facts hk.2.1).2.1
    show ([110, 111, 116, 101, 32] ++ z.cps.toList).length ≤ _
    rw [List.length_append]
    show 5 + _ ≤ _
    omega
  | as_ z =>
    unfold CardD.ok at hk
    have := (nm_facts hk).2.1
    show ([97, 115, 32] ++ z.cps.toList).length ≤ _
    rw [List.length_append]
    show 3 + _ ≤ _
    omega
mutual
theorem rowsTx_len {l : List Nat} : ∀ c : CardD, (rowsTx l c).length = c.wt
  | .once ts ws => by simp [rowsTx, CardD.wt]
  | .every D ts ws => by simp [rowsTx, CardD.wt]
  | .join cs => by
    rw [rowsTx, List.length_cons, rowsTxL_len cs, CardD.wt]
    omega
  | .less c d => by
    rw [rowsTx, List.length_cons, List.length_append, rowsTx_len c, rowsTx_len d, CardD.wt]
    omega
  | .swap c D d => by
    rw [rowsTx, List.length_cons, List.length_append, rowsTx_len c, rowsTx_len d, CardD.wt]
    omega
  | .later c m => by
    rw [rowsTx, List.length_cons, rowsTx_len c, CardD.wt]
    omega
  | .noted c z => by
    rw [rowsTx, List.length_cons, rowsTx_len c, CardD.wt]
    omega
  | .as_ z => by simp [rowsTx, CardD.wt]
theorem rowsTxL_len {l : List Nat} : ∀ cs : List CardD, (rowsTxL l cs).length = wtL cs
  | [] => by simp [rowsTxL, wtL]
  | c :: cs => by
    rw [rowsTxL, List.length_append, rowsTx_len c, rowsTxL_len cs, wtL]
end
theorem inner_ok {c d : CardD} (h : c.ok) (m : d ∈ c.inner) : d.ok := by
  cases c with
  | join cs => unfold CardD.ok at h; exact okCs_mem h.1 m
  | less a b =>
    unfold CardD.ok at h
    rcases List.mem_cons.mp m with rfl | m
    · exact h.1
    · rw [List.mem_singleton.mp m]; exact h.2
  | swap a D b =>
    unfold CardD.ok at h
    rcases List.mem_cons.mp m with rfl | m
    · exact h.1
    · rw [List.mem_singleton.mp m]; exact h.2.2
  | later a n => unfold CardD.ok at h; rw [List.mem_singleton.mp m]; exact h.1
  | noted a z => unfold CardD.ok at h; rw [List.mem_singleton.mp m]; exact h.1
  | _ => exact nomatch m
/-- a card's text -/
def cardTx (c : CardD) : List Nat := ((rowsTx [] c).map fun r => r ++ [10]).flatten
theorem joinL_nil : ∀ ls : List (List Nat), TL.joinL [] ls = ls.flatten
  | [] => rfl
  | [p] => by
    show p = _
    rw [List.flatten_cons, List.flatten_nil, List.append_nil]
  | p :: q :: r => by
    show p ++ ([] ++ TL.joinL [] (q :: r)) = _
    rw [joinL_nil (q :: r), List.nil_append]
    rfl
mutual
theorem rows_short {l : List Nat} : ∀ {c : CardD}, c.ok → rokA c → ∀ r ∈ rowsTx l c, r.length ≤ l.length + 2 * c.wt + 70000
  | .once ts ws, hk, hr, r, h => by
    rw [rowsTx] at h
    have := rowTx_len hk (rokA_rok hr)
    rw [List.mem_singleton.mp h, List.length_append]
    omega
  | .every D ts ws, hk, hr, r, h => by
    rw [rowsTx] at h
    have := rowTx_len hk (rokA_rok hr)
    rw [List.mem_singleton.mp h, List.length_append]
    omega
  | .as_ z, hk, hr, r, h => by
    rw [rowsTx] at h
    have := rowTx_len hk (rokA_rok hr)
    rw [List.mem_singleton.mp h, List.length_append]
    omega
  | .join cs, hk, hr, r, h => by
    rw [rowsTx] at h
    have h0 := rowTx_len hk (rokA_rok hr)
    rw [CardD.wt]
    rcases List.mem_cons.mp h with h | h
    · rw [h, List.length_append]
      omega
    · unfold CardD.ok at hk
      unfold rokA at hr
      have := rowsL_short hk.1 hr r h
      rw [List.length_append] at this
      have e2 : ([32, 32] : List Nat).length = 2 := rfl
      omega
  | .less c d, hk, hr, r, h => by
    rw [rowsTx] at h
    have h0 := rowTx_len hk (rokA_rok hr)
    have e2 : ([32, 32] : List Nat).length = 2 := rfl
    rw [CardD.wt]
    rcases List.mem_cons.mp h with h | h
    · rw [h, List.length_append]
      omega
    · unfold CardD.ok at hk
      unfold rokA at hr
      rcases List.mem_append.mp h with h | h
      · have := rows_short hk.1 hr.1 r h
        rw [List.length_append] at this
        omega
      · have := rows_short hk.2 hr.2 r h
        rw [List.length_append] at this
        omega
  | .swap c D d, hk, hr, r, h => by
    rw [rowsTx] at h
    have h0 := rowTx_len hk (rokA_rok hr)
    have e2 : ([32, 32] : List Nat).length = 2 := rfl
    rw [CardD.wt]
    rcases List.mem_cons.mp h with h | h
    · rw [h, List.length_append]
      omega
    · unfold CardD.ok at hk
      unfold rokA at hr
      rcases List.mem_append.mp h with h | h
      · have := rows_short hk.1 hr.2.1 r h
        rw [List.length_append] at this
        omega
      · have := rows_short hk.2.2 hr.2.2 r h
        rw [List.length_append] at this
        omega
  | .later c m, hk, hr, r, h => by
    rw [rowsTx] at h
    have h0 := rowTx_len hk (rokA_rok hr)
    have e2 : ([32, 32] : List Nat).length = 2 := rfl
    rw [CardD.wt]
    rcases List.mem_cons.mp h with h | h
    · rw [h, List.length_append]
      omega
    · unfold CardD.ok at hk
      unfold rokA at hr
      have := rows_short hk.1 hr r h
      rw [List.length_append] at this
      omega
  | .noted c z, hk, hr, r, h => by
    rw [rowsTx] at h
    have h0 := rowTx_len hk (rokA_rok hr)
    have e2 : ([32, 32] : List Nat).length = 2 := rfl
    rw [CardD.wt]
    rcases List.mem_cons.mp h with h | h
    · rw [h, List.length_append]
      omega
    · unfold CardD.ok at hk
      unfold rokA at hr
      have := rows_short hk.1 hr r h
      rw [List.length_append] at this
      omega
theorem rowsL_short {l : List Nat} : ∀ {cs : List CardD}, okCs cs → rokL cs → ∀ r ∈ rowsTxL l cs, r.length ≤ l.length + 2 * wtL cs + 70000
  | [], _, _, r, h => by
    rw [rowsTxL] at h
    cases h
  | c :: cs, hk, hr, r, h => by
    rw [rowsTxL] at h
    unfold okCs at hk
    unfold rokL at hr
    rw [wtL]
    rcases List.mem_append.mp h with h | h
    · have := rows_short hk.1 hr.1 r h
      omega
    · have := rowsL_short hk.2 hr.2 r h
      omega
end
theorem sum_le {k : Nat} : ∀ {ls : List (List Nat)}, (∀ l ∈ ls, l.length ≤ k) → (ls.map (·.length)).sum ≤ k * ls.length
  | [], _ => Nat.zero_le _
  | l :: ls, h => by
    have := sum_le fun x hx => h x (List.mem_cons_of_mem _ hx)
    have := h l List.mem_cons_self
    rw [List.map_cons, List.sum_cons, List.length_cons, Nat.mul_succ]
    omega
end
section
def sp_notes_text (K : PySem.W.Frag) : Sp := fun vs H Q _ => ∃ a ws, vs = [.ref a] ∧ H a = some (.tup (ws.map V.str)) ∧ Nms ws ∧ ws.length ≤ 1000 ∧ Q (.str (SX.S (noteTx ws))) H
theorem fb_notes_text {P : Program} {w : World} {K : PySem.W.Frag} {mg : Str → Option Value} {base : Heap} (T : Env K mg) : ∃ fd, FunD K "notes_text" "notes_text" (defArgs s_notes_text) (defBody s_notes_text) (defScope s_notes_text) [] [] (He.ga K "notes_text") fd ∧ Fb P w K mg base 1 (He.ga K "notes_text") fd ["notes"] (sp_notes_text K) := by
  obtain ⟨fd, F⟩ := T.f_notes_text
  refine ⟨fd, F, fb_of F sc_notes_text (fun vs H Q E h => ?_) (fun cdv A outer s H vs Q E hr h => ?_)⟩
  · obtain ⟨a, ws, rfl, _⟩ := h
    rfl
  · obtain ⟨a, ws, rfl, ha, hw, hl, q⟩ := h
    refine ⟨_, (pss_cons (ps_if (pt_cmpR op_eq (pe_callB call_len (by rfl) T.n_len (by decide +kernel) (pa_cons (pv 0) pa_nil)) pe_int (nomark _))
      (pss_one (ps_ret pe_str))
      pss_nil)
      (pss_one (ps_ret (pe_op op_add_str (pe_k T.v_NOTE) (pe_join pe_str (pv 0)))))), ?_⟩
    unfold noteTx at q
    refine ⟨_, rfl, _, _, rfl, (.inr ⟨_, ⟨(sq_tup ha), rfl⟩⟩), rfl, _, rfl, ?_⟩
    by_cases c : ws = []
    · subst c
      exact iteT q
    · rw [if_neg c] at q
      rw [decide_eq_false (show ¬ V.int (((List.map V.str ws).length : Nat) : Int) = V.int 0 from fun z => c (by
        rw [List.length_map] at z
        injection z with z
        exact List.eq_nil_of_length_eq_zero (by omega)))]
      refine iteF ?_
      have h2 := nms_sum ws hw
      refine ⟨⟨_, rfl⟩, _, rfl, _, _, _, rfl, rfl, (.inr (sq_tup ha)), ?_, ?_⟩
      · rw [show (Str.ofString " ").length = 1 from rfl]
        omega
      · rw [join_names]
        have ln := noteTx_len hw
        unfold noteTx at ln
        rw [if_neg c, List.length_append] at ln
        refine ⟨_, _, rfl, rfl, ?_, ?_⟩
        · rw [SX.S_len, sizeLine_eq]
          show 6 + _ ≤ _
          have e9 := SX.S_len (TL.joinL [32] (ws.map fun z => z.cps.toList))
          have l6 : ([32, 110, 111, 116, 101, 32] : List Nat).length = 6 := rfl
          omega
        · rw [← SX.S_cat] at q
          exact q
theorem ok_notes_text {P : Program} {w : World} {K : PySem.W.Frag} {mg : Str → Option Value} {base : Heap} (T : Env K mg) : Fc P w K mg base 1 (He.ga K "notes_text") [] (sp_notes_text K ) := by
  obtain ⟨fd, D, F⟩ := fb_notes_text T
  exact F.all (D.bindsN fun _ _ _ _ _ _ us hl => match us, hl with | [_], _ => rfl)
end
section
theorem numL_of (m : Nat) (k : Nat) (h : m < 10 ^ k) (hk : 1 ≤ k) : (TL.numL m).length ≤ k := TL.numL_len hk h
def sp_row_of (K : PySem.W.Frag) : Sp := fun vs H Q _ => ∃ a c, vs = [.ref a] ∧ CardAt K H c a ∧ c.ok ∧ c.rok ∧ ∀ H', Ex H H' → Q (.str (SX.S (rowTx c))) H'
theorem fb_row_of {P : Program} {w : World} {K : PySem.W.Frag} {mg : Str → Option Value} {base : Heap} (T : Env K mg) : ∃ fd, FunD K "row_of" "row_of" (defArgs s_row_of) (defBody s_row_of) (defScope s_row_of) [] [] (He.ga K "row_of") fd ∧ Fb P w K mg base 90 (He.ga K "row_of") fd ["card"] (sp_row_of K) := by
  obtain ⟨fd, F⟩ := T.f_row_of
  refine ⟨fd, F, fb_of F sc_row_of (fun vs H Q E h => ?_) (fun cdv A outer s H vs Q E hr h => ?_)⟩
  · obtain ⟨a, c, rfl, _⟩ := h
    rfl
  · obtain ⟨a, c, rfl, hA, hk, hrk, q⟩ := h
    refine ⟨_, (pss_cons (ps_if (pt_val (pe_callB call_isi (by rfl) T.n_isinstance (by decide +kernel) (pa_cons (pv 0) (pa_cons (pe_glob (v := .ref _) (by rfl) T.g_Once rfl) pa_nil))))
      (pss_one (ps_ret (pe_joined (PJ.cons pe_str (PJ.cons (pe_fmtO T.m_Spread_str T.fm_Spread (ok_Spread_str T) (hr.mono (by decide)) (pe_fld (pv 0) (by rfl))) (PJ.cons (pe_fmt (c_call (ok_notes_text T) (hr.mono (by decide)) T.g_notes_text T.k_notes_text takes0 (pa_cons (pe_fld (pv 0) (by rfl)) pa_nil))) PJ.nil))))))
      pss_nil)
      (pss_cons (ps_if (pt_val (pe_callB call_isi (by rfl) T.n_isinstance (by decide +kernel) (pa_cons (pv 0) (pa_cons (pe_glob (v := .ref _) (by rfl) T.g_Every rfl) pa_nil))))
      (pss_one (ps_ret (pe_joined (PJ.cons pe_str (PJ.cons (pe_fmtO T.m_Days_str T.fm_Days (ok_Days_str T) (hr.mono (by decide)) (pe_fld (pv 0) (by rfl))) (PJ.cons (pe_fmt (pe_k T.v_AT)) (PJ.cons (pe_fmtO T.m_Spread_str T.fm_Spread (ok_Spread_str T) (hr.mono (by decide)) (pe_fld (pv 0) (by rfl))) (PJ.cons (pe_fmt (c_call (ok_notes_text T) (hr.mono (by decide)) T.g_notes_text T.k_notes_text takes0 (pa_cons (pe_fld (pv 0) (by rfl)) pa_nil))) PJ.nil))))))))
      pss_nil)
      (pss_cons (ps_if (pt_val (pe_callB call_isi (by rfl) T.n_isinstance (by decide +kernel) (pa_cons (pv 0) (pa_cons (pe_glob (v := .ref _) (by rfl) T.g_Join rfl) pa_nil))))
      (pss_one (ps_ret (pe_k T.v_JOIN)))
      pss_nil)
      (pss_cons (ps_if (pt_val (pe_callB call_isi (by rfl) T.n_isinstance (by decide +kernel) (pa_cons (pv 0) (pa_cons (pe_glob (v := .ref _) (by rfl) T.g_Less rfl) pa_nil))))
      (pss_one (ps_ret (pe_k T.v_LESS)))
      pss_nil)
      (pss_cons (ps_if (pt_val (pe_callB call_isi (by rfl) T.n_isinstance (by decide +kernel) (pa_cons (pv 0) (pa_cons (pe_glob (v := .ref _) (by rfl) T.g_Swap rfl) pa_nil))))
      (pss_one (ps_ret (pe_joined (PJ.cons pe_str (PJ.cons (pe_fmtO T.m_Days_str T.fm_Days (ok_Days_str T) (hr.mono (by decide)) (pe_fld (pv 0) (by rfl))) PJ.nil)))))
      pss_nil)
      (pss_cons (ps_if (pt_val (pe_callB call_isi (by rfl) T.n_isinstance (by decide +kernel) (pa_cons (pv 0) (pa_cons (pe_glob (v := .ref _) (by rfl) T.g_Later rfl) pa_nil))))
      (pss_one (ps_ret (pe_joined (PJ.cons pe_str (PJ.cons (pe_fmt (pe_fld (pv 0) (by rfl))) PJ.nil)))))
      pss_nil)
      (pss_cons (ps_if (pt_val (pe_callB call_isi (by rfl) T.n_isinstance (by decide +kernel) (pa_cons (pv 0) (pa_cons (pe_glob (v := .ref _) (by rfl) T.g_Noted rfl) pa_nil))))
      (pss_one (ps_ret (pe_joined (PJ.cons pe_str (PJ.cons (pe_fmt (pe_fld (pv 0) (by rfl))) PJ.nil)))))
      pss_nil)
      (pss_one (ps_ret (pe_joined (PJ.cons pe_str (PJ.cons (pe_fmt (pe_fld (pv 0) (by rfl))) PJ.nil)))))))))))), ?_⟩
    have lit : ∀ {z : Str} {l m : List Nat}, Str.empty ++ z = SX.S l → Str.empty ++ z ++ SX.S m = SX.S (l ++ m) := fun e => by rw [e, SX.S_cat]
    have sz : (16777216 : Nat) ≤ sizeLine := by rw [sizeLine_eq]; decide
    cases c with
    | once ts ws =>
      unfold CardAt at hA
      obtain ⟨dx, hd, s, nt, ow, h1, h2, h3, h4, h5⟩ := hA
      refine ⟨_, rfl, _, _, _, _, _, rfl, .own _, ty_ins T.i_Once T.c_Once h1, T.kit_Once_Once, _, rfl, _, rfl, (by decide), _, rfl, _, _, _, _, _, rfl, h1, T.c_Once, T.a_Once_spread, rfl, ?_⟩
      obtain ⟨ds, kp, hs, as, g1, _⟩ := id h3
      have rl := rowT_len hrk.2.1
      unfold CardD.ok at hk
      have nl := noteTx_len hk.1
      refine ⟨s, ds, _, rfl, g1, s, ts, rfl, h3, hrk.1, hrk.2.1, (by have := hrk.2.2; omega), fun H1 X1 => ⟨trivial, _, rfl, ?_, ?_⟩⟩
      · rw [show Str.empty ++ Str.ofString "once " = SX.S [111, 110, 99, 101, 32] from rfl, SX.S_cat, SX.S_len, List.length_append]
        show 5 + _ ≤ _
        have := hrk.2.2
        omega
      rw [show Str.empty ++ Str.ofString "once " = SX.S [111, 110, 99, 101, 32] from rfl, SX.S_cat]
      have h11 := X1 _ _ h1
      have h41 := X1 _ _ h4
      refine ⟨_, rfl, _, _, _, _, _, rfl, h11, T.c_Once, T.a_Once_notes, rfl, _, _, rfl, h41, ?_⟩
      refine ⟨hk.1, by have := hk.2.2.1; omega, ?_⟩
      have rc := hrk.2.2
      refine .inl ⟨_, rfl, by rw [SX.S_len]; have := hk.2.2.1; omega, _, rfl, ?_, ?_⟩
      · rw [SX.S_cat, SX.S_len, List.length_append, List.length_append]
        have := hk.2.2.1
        show 5 + _ + _ ≤ _
        omega
      · rw [SX.S_cat]
        exact q H1 X1
    | every D ts ws =>
      unfold CardAt at hA
      obtain ⟨dx, hd, r, s, nt, ow, h1, h2, h0, h3, h4, h5⟩ := hA
      refine ⟨_, rfl, _, _, _, _, _, rfl, .own _, ty_ins T.i_Every T.c_Every h1, T.kit_Every_Once, _, rfl, _, rfl, _, _, _, _, _, rfl, .own _, ty_ins T.i_Every T.c_Every h1, T.kit_Every_Every, _, rfl, _, rfl, (by decide), _, rfl, _, _, _, _, _, rfl, h1, T.c_Every, T.a_Every_days, rfl, ?_⟩
      obtain ⟨dr, ro, po, pa, g0, _⟩ := id h0
      obtain ⟨ds, kp, hs, as, g1, _⟩ := id h3
      obtain ⟨r1, r2, r3, r4⟩ := hrk
      have rl := rowT_len r3
      unfold CardD.ok at hk
      obtain ⟨k1, k2, k3, k4, k5⟩ := hk
      have nl := noteTx_len k2
      have dl := dtxt_len k1 r1
      refine ⟨r, dr, _, rfl, g0, r, D, rfl, h0, k1, r1, fun H1 X1 => ⟨trivial, _, rfl, ?_, ?_⟩⟩
      · rw [lit (l := [101, 118, 101, 114, 121, 32]) rfl, SX.S_len, List.length_append]
        show 6 + _ ≤ _
        omega
      rw [lit (l := [101, 118, 101, 114, 121, 32]) rfl]
      have ea : Str.ofString " at " = SX.S [32, 97, 116, 32] := rfl
      refine .inl ⟨_, rfl, (by decide), _, rfl, ?_, ?_⟩
      · rw [ea, SX.S_cat, SX.S_len, List.length_append, List.length_append]
        show 6 + _ + 4 ≤ _
        omega
      rw [ea, SX.S_cat]
      have h11 := X1 _ _ h1
      have h31 := h3.mono X1
      refine ⟨_, rfl, _, _, _, _, _, rfl, h11, T.c_Every, T.a_Every_spread, rfl, ?_⟩
      refine ⟨s, ds, _, rfl, X1 _ _ g1, s, ts, rfl, h31, r2, r3, (by omega), fun H2 X2 => ⟨trivial, _, rfl, ?_, ?_⟩⟩
      · rw [SX.S_cat, SX.S_len, List.length_append, List.length_append, List.length_append]
        show 6 + _ + 4 + _ ≤ _
        omega
      rw [SX.S_cat]
      refine ⟨_, rfl, _, _, _, _, _, rfl, X2 _ _ h11, T.c_Every, T.a_Every_notes, rfl, _, _, rfl, X2 _ _ (X1 _ _ h4), k2, by omega, ?_⟩
      refine .inl ⟨_, rfl, by rw [SX.S_len]; omega, _, rfl, ?_, ?_⟩
      · rw [SX.S_cat, SX.S_len, List.length_append, List.length_append, List.length_append, List.length_append]
        show 6 + _ + 4 + _ + _ ≤ _
        omega
      · rw [SX.S_cat]
        exact q H2 (X1.trans X2)
    | join cs =>
      unfold CardAt at hA
      obtain ⟨dx, hd, as, h1, h2, h3⟩ := hA
      refine ⟨_, rfl, _, _, _, _, _, rfl, .own _, ty_ins T.i_Join T.c_Join h1, T.kit_Join_Once, _, rfl, _, rfl, _, _, _, _, _, rfl, .own _, ty_ins T.i_Join T.c_Join h1, T.kit_Join_Every, _, rfl, _, rfl, _, _, _, _, _, rfl, .own _, ty_ins T.i_Join T.c_Join h1, T.kit_Join_Join, _, rfl, ?_⟩
      refine iteT ?_
      try dsimp only [tNil]
      exact q H (.refl H)
    | less c d =>
      unfold CardAt at hA
      obtain ⟨dx, hd, b, e, h1, h2, h3, h4⟩ := hA
      refine ⟨_, rfl, _, _, _, _, _, rfl, .own _, ty_ins T.i_Less T.c_Less h1, T.kit_Less_Once, _, rfl, _, rfl, _, _, _, _, _, rfl, .own _, ty_ins T.i_Less T.c_Less h1, T.kit_Less_Every, _, rfl, _, rfl, _, _, _, _, _, rfl, .own _, ty_ins T.i_Less T.c_Less h1, T.kit_Less_Join, _, rfl, _, rfl, _, _, _, _, _, rfl, .own _, ty_ins T.i_Less T.c_Less h1, T.kit_Less_Less, _, rfl, ?_⟩
      refine iteT ?_
      try dsimp only [tNil]
      exact q H (.refl H)
    | swap c D d =>
      unfold CardAt at hA
      obtain ⟨dx, hd, b, e, r, h1, h2, h3, h4, h5⟩ := hA
      refine ⟨_, rfl, _, _, _, _, _, rfl, .own _, ty_ins T.i_Swap T.c_Swap h1, T.kit_Swap_Once, _, rfl, _, rfl, _, _, _, _, _, rfl, .own _, ty_ins T.i_Swap T.c_Swap h1, T.kit_Swap_Every, _, rfl, _, rfl, _, _, _, _, _, rfl, .own _, ty_ins T.i_Swap T.c_Swap h1, T.kit_Swap_Join, _, rfl, _, rfl, _, _, _, _, _, rfl, .own _, ty_ins T.i_Swap T.c_Swap h1, T.kit_Swap_Less, _, rfl, _, rfl, _, _, _, _, _, rfl, .own _, ty_ins T.i_Swap T.c_Swap h1, T.kit_Swap_Swap, _, rfl, _, rfl, (by decide), _, rfl, _, _, _, _, _, rfl, h1, T.c_Swap, T.a_Swap_days, rfl, ?_⟩
      obtain ⟨dr, ro, po, pa, g0, _⟩ := id h5
      have r1 : D.fit 150 := hrk
      unfold CardD.ok at hk
      have dl := dtxt_len hk.2.1 r1
      refine ⟨r, dr, _, rfl, g0, r, D, rfl, h5, hk.2.1, r1, fun H1 X1 => ⟨trivial, _, rfl, ?_, ?_⟩⟩
      · rw [lit (l := [115, 119, 97, 112, 32]) rfl, SX.S_len, List.length_append]
        show 5 + _ ≤ _
        omega
      rw [lit (l := [115, 119, 97, 112, 32]) rfl]
      exact q H1 X1
    | later c m =>
      unfold CardAt at hA
      obtain ⟨dx, hd, b, h1, h2, h3⟩ := hA
      refine ⟨_, rfl, _, _, _, _, _, rfl, .own _, ty_ins T.i_Later T.c_Later h1, T.kit_Later_Once, _, rfl, _, rfl, _, _, _, _, _, rfl, .own _, ty_ins T.i_Later T.c_Later h1, T.kit_Later_Every, _, rfl, _, rfl, _, _, _, _, _, rfl, .own _, ty_ins T.i_Later T.c_Later h1, T.kit_Later_Join, _, rfl, _, rfl, _, _, _, _, _, rfl, .own _, ty_ins T.i_Later T.c_Later h1, T.kit_Later_Less, _, rfl, _, rfl, _, _, _, _, _, rfl, .own _, ty_ins T.i_Later T.c_Later h1, T.kit_Later_Swap, _, rfl, _, rfl, _, _, _, _, _, rfl, .own _, ty_ins T.i_Later T.c_Later h1, T.kit_Later_Later, _, rfl, _, rfl, (by decide), _, rfl, _, _, _, _, _, rfl, h1, T.c_Later, T.a_Later_minutes, rfl, ?_⟩
      try dsimp only [tNil]
      refine .inr ⟨_, rfl, log_of (show m < 10 ^ 200 by unfold CardD.ok at hk; exact Nat.lt_of_le_of_lt hk.2 (by decide +kernel)), _, rfl, ?_, ?_⟩
      · rw [SX.num_S, lit (l := [108, 97, 116, 101, 114, 32]) rfl, SX.S_len, List.length_append]
        have := numL_of m 6 (by unfold CardD.ok at hk; exact Nat.lt_of_le_of_lt hk.2 (by decide)) (by decide)
        show 6 + _ ≤ _
        omega
      · rw [SX.num_S, lit (l := [108, 97, 116, 101, 114, 32]) rfl]
        exact q H (.refl H)
    | noted c z =>
      unfold CardAt at hA
      obtain ⟨dx, hd, b, h1, h2, h3⟩ := hA
      refine ⟨_, rfl, _, _, _, _, _, rfl, .own _, ty_ins T.i_Noted T.c_Noted h1, T.kit_Noted_Once, _, rfl, _, rfl, _, _, _, _, _, rfl, .own _, ty_ins T.i_Noted T.c_Noted h1, T.kit_Noted_Every, _, rfl, _, rfl, _, _, _, _, _, rfl, .own _, ty_ins T.i_Noted T.c_Noted h1, T.kit_Noted_Join, _, rfl, _, rfl, _, _, _, _, _, rfl, .own _, ty_ins T.i_Noted T.c_Noted h1, T.kit_Noted_Less, _, rfl, _, rfl, _, _, _, _, _, rfl, .own _, ty_ins T.i_Noted T.c_Noted h1, T.kit_Noted_Swap, _, rfl, _, rfl, _, _, _, _, _, rfl, .own _, ty_ins T.i_Noted T.c_Noted h1, T.kit_Noted_Later, _, rfl, _, rfl, _, _, _, _, _, rfl, .own _, ty_ins T.i_Noted T.c_Noted h1, T.kit_Noted_Noted, _, rfl, _, rfl, (by decide), _, rfl, _, _, _, _, _, rfl, h1, T.c_Noted, T.a_Noted_note, rfl, ?_⟩
      try dsimp only [tNil]
      have hz : nmN z.cps.toList = true := by
        unfold CardD.ok at hk
        exact hk.2.1
      have lz := (nm_facts hz).2.1
      have ez : SX.S z.cps.toList = z := S_of z
      generalize z.cps.toList = l at hz lz ez
      subst ez
      refine .inl ⟨_, rfl, by rw [SX.S_len]; omega, _, rfl, ?_, ?_⟩
      · rw [lit (l := [110, 111, 116, 101, 32]) rfl, SX.S_len, List.length_append]
        show 5 + _ ≤ _
        omega
      · rw [lit (l := [110, 111, 116, 101, 32]) rfl]
        exact q H (.refl H)
    | as_ z =>
      unfold CardAt at hA
      obtain ⟨dx, hd, h1, h2⟩ := hA
      refine ⟨_, rfl, _, _, _, _, _, rfl, .own _, ty_ins T.i_As T.c_As h1, T.kit_As_Once, _, rfl, _, rfl, _, _, _, _, _, rfl, .own _, ty_ins T.i_As T.c_As h1, T.kit_As_Every, _, rfl, _, rfl, _, _, _, _, _, rfl, .own _, ty_ins T.i_As T.c_As h1, T.kit_As_Join, _, rfl, _, rfl, _, _, _, _, _, rfl, .own _, ty_ins T.i_As T.c_As h1, T.kit_As_Less, _, rfl, _, rfl, _, _, _, _, _, rfl, .own _, ty_ins T.i_As T.c_As h1, T.kit_As_Swap, _, rfl, _, rfl, _, _, _, _, _, rfl, .own _, ty_ins T.i_As T.c_As h1, T.kit_As_Later, _, rfl, _, rfl, _, _, _, _, _, rfl, .own _, ty_ins T.i_As T.c_As h1, T.kit_As_Noted, _, rfl, _, rfl, (by decide), _, rfl, _, _, _, _, _, rfl, h1, T.c_As, T.a_As_name, rfl, ?_⟩
      try dsimp only [tNil]
      have hz : nmN z.cps.toList = true := by
        unfold CardD.ok at hk
        exact hk
      have lz := (nm_facts hz).2.1
      have ez : SX.S z.cps.toList = z := S_of z
      generalize z.cps.toList = l at hz lz ez
      subst ez
      refine .inl ⟨_, rfl, by rw [SX.S_len]; omega, _, rfl, ?_, ?_⟩
      · rw [lit (l := [97, 115, 32]) rfl, SX.S_len, List.length_append]
        show 3 + _ ≤ _
        omega
      · rw [lit (l := [97, 115, 32]) rfl]
        exact q H (.refl H)
theorem ok_row_of {P : Program} {w : World} {K : PySem.W.Frag} {mg : Str → Option Value} {base : Heap} (T : Env K mg) : Fc P w K mg base 90 (He.ga K "row_of") [] (sp_row_of K ) := by
  obtain ⟨fd, D, F⟩ := fb_row_of T
  exact F.all (D.bindsN fun _ _ _ _ _ _ us hl => match us, hl with | [_], _ => rfl)
end
section
/-- the rows of a card, some signs ahead of the first -/
def sp_rows_of (K : PySem.W.Frag) (d : Nat) : Sp := fun vs H Q _ => ∃ (a : Addr) (c : CardD) (l : List Nat), vs = [.ref a, .str (SX.S l)] ∧ CardAt K H c a ∧ c.ok ∧ rokA c ∧ c.wt ≤ d ∧ c.wt ≤ 60 ∧ l.length + 2 * c.wt ≤ 130 ∧ ∀ p H', Ex H H' → H p = none → H' p = some (.lst ((rowsTx l c).map fun r => V.str (SX.S r))) → Q (.ref p) H'
theorem fb_rows_of {P : Program} {w : World} {K : PySem.W.Frag} {mg : Str → Option Value} {base : Heap} (T : Env K mg) {d L : Nat} (hL : 95 ≤ L) (r_rows_of : Fc P w K mg base L (He.ga K "rows_of") [] (sp_rows_of K d)) : ∃ fd, FunD K "rows_of" "rows_of" (defArgs s_rows_of) (defBody s_rows_of) (defScope s_rows_of) [] [] (He.ga K "rows_of") fd ∧ Fb P w K mg base (L + 1) (He.ga K "rows_of") fd ["card", "ahead"] (sp_rows_of K (d + 1)) := by
  obtain ⟨fd, F⟩ := T.f_rows_of
  refine ⟨fd, F, fb_of F sc_rows_of (fun vs H Q E h => ?_) (fun cdv A outer s H vs Q E hr h => ?_)⟩
  · obtain ⟨a, c, l, rfl, _⟩ := h
    rfl
  · obtain ⟨a, c, l, rfl, hA, hk, hr2, hw, hw6, hl, q⟩ := h
    refine ⟨_, (pss_cons (ps_set (i := 2) sc_rows_of.nd rfl (Or.inl rfl) (pe_lst (pa_cons (pe_op op_add_str (pv 1) (c_call (ok_row_of T) (hr.mono (by omega)) T.g_row_of T.k_row_of takes0 (pa_cons (pv 0) pa_nil))) pa_nil)))
      (pss_cons (ps_for (passes_of rfl) rfl (pi_list (c_methV0 (k := 3) (pv 0) (hr.mono (by omega)) takes0)) (pg_name (i := 3) sc_rows_of.nd rfl (Or.inl rfl))
      (pss_one (ps_expr (pe_bm PySem.F.plainAttrs_list PySem.F.slot_list_extend PySem.F.type_list_extend mt_extend (pv 2) (pa_cons (c_call r_rows_of (hr.mono (by omega)) T.g_rows_of T.k_rows_of takes0 (pa_cons (pv 3) (pa_cons (pe_op op_add_str (pv 1) (pe_k T.v_DEEPER)) pa_nil))) pa_nil)))))
      (pss_one (ps_ret (pv 2))))), ?_⟩
    obtain ⟨dx, hd, as, fs, h1, h2, h3, cc, lk, _⟩ := card_gen T hA
    have rk := rokA_rok hr2
    have rl := rowTx_len hk rk
    refine ⟨_, rfl, _, rfl, _, _, rfl, hA, hk, rk, fun H1 X1 => ?_⟩
    refine ⟨_, _, rfl, rfl, (by rw [SX.S_len, SX.S_len, sizeLine_eq]; omega), (by show 1 ≤ sizeLine; decide), fun p np => ?_⟩
    rw [SX.S_cat]
    have Xp := ex_new (o := HO.lst [V.str (SX.S (l ++ rowTx c))]) np
    have hp : upd H1 p (HO.lst [V.str (SX.S (l ++ rowTx c))]) p = some (HO.lst (([l ++ rowTx c] : List (List Nat)).map fun r => V.str (SX.S r))) := upd_same
    generalize upd H1 p (HO.lst [V.str (SX.S (l ++ rowTx c))]) = H2 at Xp hp ⊢
    have X02 := X1.trans Xp
    have np0 := ex_fresh X1 np
    refine ⟨_, rfl, a, _, dx, _, _, rfl, X02 _ _ h1, cc.cls, cc.inner, lk, _, (ok_Card_inner T).mono (by decide), a, _, dx, hd, _, _, _, rfl, X02 _ _ h1, cc.cls, cc.held, X02 _ _ h2, fun r nr => ?_⟩
    have Xr := ex_new (o := HO.lst (as.map V.ref)) nr
    have hr3 : upd H2 r (.lst (as.map V.ref)) r = some (.lst (as.map V.ref)) := upd_same
    have hp3 := Xr _ _ hp
    generalize upd H2 r (.lst (as.map V.ref)) = H3 at Xr hr3 hp3 ⊢
    have rp : r ≠ p := fun z => by rw [z, hp] at nr; cases nr
    have X03 := X02.trans Xr
    refine ⟨r, rfl, ⟨_, sq_lst hr3⟩, for_on as V.ref L2.walk_list (fun i σ G => Oth p H3 G ∧ (∃ v, σ = [some (.ref a), some (.str (SX.S l)), some (.ref p), v]) ∧ G p = some (.lst (([l ++ rowTx c] ++ rowsTxL (l ++ [32, 32]) (c.inner.take i)).map fun r => V.str (SX.S r)))) ⟨.refl _ _, ⟨_, rfl⟩, by rw [List.take_zero]; exact hp3⟩ (fun i σ G z => sq_lst (z.1 _ _ rp hr3)) ?_ ?_⟩
    · rintro i b σ G hb ⟨OG, ⟨v, rfl⟩, gp⟩
      obtain ⟨c', ec, hc⟩ := h3.get hb
      have m := List.mem_of_getElem? ec
      have wi := inner_wt m
      have XG := Oth.ex X03 np0 OG
      refine ⟨_, rfl, .inl ⟨rfl, _, sq_lst gp⟩, _, rfl, _, rfl, _, _, rfl, rfl, (by rw [SX.S_len, sizeLine_eq]; show l.length + 2 ≤ _; omega), ?_⟩
      rw [show Str.ofString "  " = SX.S [32, 32] from rfl, SX.S_cat]
      refine ⟨b, c', l ++ [32, 32], rfl, hc.mono XG, inner_ok hk m, rokA_inner hr2 m, by omega, by omega, (by rw [List.length_append]; show l.length + 2 + _ ≤ _; omega), fun r2 G2 X2 nr2 h2r => ?_⟩
      have tk : c.inner.take (i + 1) = c.inner.take i ++ [c'] := take_snoc ec
      have l1 := rowsTxL_len (l := l ++ [32, 32]) (c.inner.take i)
      have l2 := rowsTx_len (l := l ++ [32, 32]) c'
      have l3 : wtL (c.inner.take i) ≤ c.wt := by
        have e1 := c.wt_eq
        have e2 := wtL_take i c.inner
        omega
      refine ⟨p, r2, _, _, rfl, rfl, X2 _ _ gp, h2r, (by rw [List.length_map, List.length_map, List.length_append, l1, l2, sizeLine_eq]; show 1 + _ + _ ≤ _; omega), ?_⟩
      refine ⟨(OG.trans (ex_oth X2)).upd, ⟨_, rfl⟩, ?_⟩
      rw [upd_same, tk, rowsTxL_app, ← List.map_append, List.append_assoc]
      unfold rowsTxL rowsTxL
      rw [List.append_nil]
    · rintro σ G ⟨OG, ⟨v, rfl⟩, gp⟩
      rw [h3.len, List.take_length] at gp
      exact ⟨_, rfl, q p G (Oth.ex X03 np0 OG) np0 (by rw [rowsTx_eq]; exact gp)⟩
theorem ok_rows_of {P : Program} {w : World} {K : PySem.W.Frag} {mg : Str → Option Value} {base : Heap} (T : Env K mg) {d L : Nat} (hL : 95 ≤ L) (r_rows_of : Fc P w K mg base L (He.ga K "rows_of") [] (sp_rows_of K d)) : Fc P w K mg base (L + 1) (He.ga K "rows_of") [] (sp_rows_of K (d + 1)) := by
  obtain ⟨fd, D, F⟩ := fb_rows_of T hL r_rows_of
  exact F.all (D.bindsN fun _ _ _ _ _ _ us hl => match us, hl with | [_, _], _ => rfl)
theorem all_rows {P : Program} {w : World} {K : PySem.W.Frag} {mg : Str → Option Value} {base : Heap} (T : Env K mg) : ∀ d, Fc P w K mg base (95 + d) (He.ga K "rows_of") [] (sp_rows_of K d)
  | 0 => fc_no fun vs H Q E h => by
    obtain ⟨a, c, l, _, _, _, _, h, _⟩ := h
    have := c.wt_pos
    omega
  | d + 1 => ok_rows_of T (Nat.le_add_right 95 _) (all_rows T d)
end
section
def sp_show_card (K : PySem.W.Frag) : Sp := fun vs H Q E => ∃ (x : V) (b : Bool), vs = [x] ∧ CdIs K H x b ∧ (b = false → E (.ref (He.ga K "NoCard")) none H) ∧ (b = true → ∃ a c, x = .ref a ∧ CardAt K H c a ∧ c.ok ∧ rokA c ∧ c.wt ≤ 60 ∧ ∀ H', Ex H H' → Q (.str (SX.S (cardTx c))) H')
theorem fb_show_card {P : Program} {w : World} {K : PySem.W.Frag} {mg : Str → Option Value} {base : Heap} (T : Env K mg) : ∃ fd, FunD K "show_card" "show_card" (defArgs s_show_card) (defBody s_show_card) (defScope s_show_card) [] [] (He.ga K "show_card") fd ∧ Fb P w K mg base 160 (He.ga K "show_card") fd ["card"] (sp_show_card K) := by
  obtain ⟨fd, F⟩ := T.f_show_card
  refine ⟨fd, F, fb_of F sc_show_card (fun vs H Q E h => ?_) (fun cdv A outer s H vs Q E hr h => ?_)⟩
  · obtain ⟨x, b, rfl, _⟩ := h
    rfl
  · obtain ⟨x, b, rfl, ⟨t, ty, kt⟩, qe, q⟩ := h
    refine ⟨_, (pss_cons (ps_if (pt_not (pt_val (pe_callB call_isi (by rfl) T.n_isinstance (by decide +kernel) (pa_cons (pv 0) (pa_cons (pe_glob (v := .ref _) (by rfl) T.g_Card rfl) pa_nil)))))
      (pss_one (ps_raise rfl (takes_of rfl rfl rfl rfl) (pmk_own PySem.F.excBase_ValueError T.x_NoCard.x T.g_NoCard T.x_NoCard.kp (raises_own T.x_NoCard.sub T.x_NoCard.ty) rfl)))
      pss_nil)
      (pss_one (ps_ret (pe_join pe_str (pe_lc (own := [("row", 1)]) (by rfl) sc_show_card.nd (pi_list (c_call (all_rows T 60) (hr.mono (by decide)) T.g_rows_of T.k_rows_of (takes_of rfl rfl rfl rfl) (pa_cons (pv 0) (pa_cons pe_str pa_nil)))) (blkOk_by (own := [("row", 1)]) (N := ["card", "row"]) (sc := defScope s_show_card) (by decide +kernel)) (fun _ _ _ _ _ => (pg_name (i := 1) sc_show_card.nd rfl (Or.inl rfl))) (fun _ _ _ _ _ => pts_nil) (fun _ _ _ _ _ => (pe_op op_add_str (pv 1) pe_str))))))), ?_⟩
    refine ⟨_, rfl, x, _, t, _, b, rfl, .own _, ty, kt, ?_⟩
    refine ⟨_, rfl, ?_⟩
    cases b with
    | false => exact iteT (qe rfl)
    | true =>
      obtain ⟨a, c, rfl, hA, hk, hr2, hw, q⟩ := q rfl
      refine iteF ?_
      refine ⟨⟨_, rfl⟩, _, rfl, a, c, [], rfl, hA, hk, hr2, hw, hw, by show 0 + 2 * c.wt ≤ 130; omega, fun p H1 X1 np hp => ?_⟩
      have ll := rowsTx_len (l := []) c
      have ls := rows_short (l := []) hk hr2
      refine ⟨p, rfl, ⟨_, sq_lst hp⟩, fun D nD => lc_on (rowsTx [] c) (fun r => V.str (SX.S r)) L2.walk_list (fun r => some (.str (SX.S (r ++ [10])))) (fun G => Ex H1 G) (fun G z e => ex_mut e nD) (.refl _) (by omega) (fun G e => sq_lst (e _ _ hp)) (fun i r G acc N hx XG hD la k => ?_) fun G XG hD => ?_⟩
      · have lr := ls r (List.mem_of_getElem? hx)
        refine ⟨rfl, _, rfl, _, _, rfl, rfl, (by rw [SX.S_len, sizeLine_eq]; show r.length + 1 ≤ _; have : ([] : List Nat).length = 0 := rfl; omega), ?_⟩
        rw [show Str.ofString "\n" = SX.S [10] from rfl, SX.S_cat]
        exact ⟨acc, hD, la, k G XG hD⟩
      · have e1 : (rowsTx [] c).filterMap (fun r => some (V.str (SX.S (r ++ [10])))) = (((rowsTx [] c).map fun r => r ++ [10]).map SX.S).map V.str := by
          rw [List.filterMap_eq_map', List.map_map, List.map_map]
          rfl
        rw [e1] at hD
        refine ⟨_, D, _, rfl, rfl, .inl (sq_lst hD), ?_, ?_⟩
        · have h9 := sum_le (k := 70121) (ls := (rowsTx [] c).map fun r => r ++ [10]) fun l hl => by
            obtain ⟨r, hr, rfl⟩ := List.mem_map.mp hl
            have := ls r hr
            have e0 : ([] : List Nat).length = 0 := rfl
            have e1 : ([10] : List Nat).length = 1 := rfl
            rw [List.length_append]
            omega
          rw [SX.lens, show (Str.ofString "").length = 0 from rfl, Nat.mul_zero]
          rw [List.length_map] at h9
          omega
        · rw [show Str.ofString "" = SX.S [] from rfl, SX.join_S, joinL_nil]
          exact q G (X1.trans XG)
theorem ok_show_card {P : Program} {w : World} {K : PySem.W.Frag} {mg : Str → Option Value} {base : Heap} (T : Env K mg) : Fc P w K mg base 160 (He.ga K "show_card") [] (sp_show_card K ) := by
  obtain ⟨fd, D, F⟩ := fb_show_card T
  exact F.all (D.bindsN fun _ _ _ _ _ _ us hl => match us, hl with | [_], _ => rfl)
theorem ok_show_card_0_card {P : Program} {w : World} {K : PySem.W.Frag} {mg : Str → Option Value} {base : Heap} (T : Env K mg) : Fc P w K mg base 160 (He.ga K "show_card") ["card"] (fun vs H Q E => vs.length = 0 + (["card"] : List Str).length ∧ sp_show_card K  (pick [.inl 0] vs []) H Q E) := by
  obtain ⟨fd, D, F⟩ := fb_show_card T
  exact Fb.names D F 0 ["card"] (fun us => pick [.inl 0] us []) (fun r1 => pick_vals _ r1 .nil) (fun kV doc pm an cdv ct us ws h1 h2 => match us, ws, h1, h2 with | [], [_], _, _ => rfl)
end
section
/-- a pot: what is left of a cell's digits, and what mixes (m has no bearing) -/
def PotN (_ : Nat) (H : Hp) (p : Addr) : Prop := ∃ a b c : Int, H p = some (.lst [.int a, .int b]) ∧ c = 0 ∧ 0 ≤ b ∧ b < 4294967296
def Pot (H : Hp) (p : Addr) : Prop := ∃ a b : Int, H p = some (.lst [.int a, .int b]) ∧ 0 ≤ b ∧ b < 4294967296
theorem PotN.pot {m : Nat} {H : Hp} {p : Addr} (h : PotN m H p) : Pot H p := let ⟨a, b, c, e, _, b0, b1⟩ := h; ⟨a, b, e, b0, b1⟩
def sp__law_pot (K : PySem.W.Frag) : Sp := fun vs H Q _ => ∃ (a : Addr) (ns : List Int) (k : Int), vs = [.ref a, .int k] ∧ SqL K H a (ns.map V.int) ∧ 0 ≤ k ∧ k < 1000 ∧ ∀ p H', H p = none → PotN 0 H' p → (∀ b, b ≠ p → H' b = H b) → Q (.ref p) H'
theorem fb__law_pot {P : Program} {w : World} {K : PySem.W.Frag} {mg : Str → Option Value} {base : Heap} (T : Env K mg) : ∃ fd, FunD K "_law_pot" "_law_pot" (defArgs s__law_pot) (defBody s__law_pot) (defScope s__law_pot) [] [] (He.ga K "_law_pot") fd ∧ Fb P w K mg base 1 (He.ga K "_law_pot") fd ["_law_script", "_law_k"] (sp__law_pot K) := by
  obtain ⟨fd, F⟩ := T.f__law_pot
  refine ⟨fd, F, fb_of F sc__law_pot (fun vs H Q E h => ?_) (fun cdv A outer s H vs Q E hr h => ?_)⟩
  · obtain ⟨a, ns, k, rfl, _⟩ := h
    rfl
  · obtain ⟨a, ns, k, rfl, hS, k0, k1, q⟩ := h
    refine ⟨_, (Evl.pss_cut (ps_set (i := 2) sc__law_pot.nd rfl (Or.inl rfl) (pe_ifExp (pt_cmpR op_lt (pv 1) (pe_callB call_len (by rfl) T.n_len (by decide +kernel) (pa_cons (pv 0) pa_nil)) (nomark _)) (pe_ix ix_list (pv 0) (pv 1) (fun _ _ => rfl)) pe_int))
      (pss_one (ps_ret (pe_lst (pa_cons (pe_callB (call_max2 rfl) (by rfl) T.n_max (by decide +kernel) (pa_cons pe_int (pa_cons (pe_op op_sub (pv 2) (pe_op op_pow pe_int pe_int)) pa_nil))) (pa_cons (pe_op op_add (pe_op op_mod (pe_op op_pow (pe_op op_add (pe_op op_mod (pv 2) pe_int) (pe_op op_mul pe_int (pe_op op_add (pv 1) pe_int))) pe_int) pe_int) pe_int) pa_nil)))))), ?_⟩
    refine ⟨fun σ' H' => H' = H ∧ ∃ cell : Int, σ' = [some (.ref a), some (.int k), some (.int cell)], ?_, ?_⟩
    · refine ⟨_, rfl, _, rfl, _, _, rfl, .inl ⟨_, hS, rfl⟩, _, _, rfl, rfl, _, rfl, ite2 (fun c => ?_) (fun c => ?_)⟩
      · have c2 : k < ((ns.map V.int).length : Int) := of_decide_eq_true c
        rw [List.length_map] at c2
        obtain ⟨i, rfl⟩ := Int.eq_ofNat_of_zero_le k0
        have hi : i < ns.length := Int.ofNat_lt.mp c2
        refine ⟨_, rfl, _, rfl, a, _, _, .int ns[i], rfl, rfl, hS, ?_, rfl, ns[i], rfl⟩
        exact atI_nat (by rw [List.getElem?_map, List.getElem?_eq_getElem hi]; rfl)
      · exact ⟨rfl, 0, rfl⟩
    · rintro σ' H' ⟨rfl, cell, rfl⟩
      have m1 := Int.emod_nonneg cell (show (2147483629 : Int) ≠ 0 by decide)
      have m2 := Int.emod_lt_of_pos cell (show (0 : Int) < 2147483629 by decide)
      refine ⟨_, rfl, _, _, rfl, rfl, ⟨(by decide), ⟨(by decide), (by decide)⟩⟩, _, _, rfl, rfl, _, _, rfl, _, rfl, _, _, rfl, rfl, (by omega), _, rfl, _, _, rfl, rfl, _, _, rfl, rfl, (.inl ⟨(by decide), (by decide)⟩), _, _, rfl, rfl, _, _, rfl, rfl, ⟨(by decide), ⟨(by decide), (by omega)⟩⟩, _, _, rfl, rfl, (by omega), _, _, rfl, rfl, (by show 2 ≤ sizeLine; decide), ?_⟩
      intro p hp
      exact q p _ hp ⟨_, _, 0, upd_same, rfl, Int.add_nonneg (Int.emod_nonneg _ (by decide)) (by decide), by have := Int.emod_lt_of_pos ((cell % 2147483629 + 40503 * (k + 1)) ^ Int.toNat 3) (show (0 : Int) < 2147483563 by decide); omega⟩ fun b n => upd_ne n
theorem ok__law_pot {P : Program} {w : World} {K : PySem.W.Frag} {mg : Str → Option Value} {base : Heap} (T : Env K mg) : Fc P w K mg base 1 (He.ga K "_law_pot") [] (sp__law_pot K ) := by
  obtain ⟨fd, D, F⟩ := fb__law_pot T
  exact F.all (D.bindsN fun _ _ _ _ _ _ us hl => match us, hl with | [_, _], _ => rfl)
end
section
/-- the pot at p is drawn from: everything else stays -/
def PotOnN (m : Nat) (H H' : Hp) (p : Addr) : Prop := PotN m H' p ∧ ∀ b o, b ≠ p → H b = some o → H' b = some o
def PotOn (H H' : Hp) (p : Addr) : Prop := Pot H' p ∧ ∀ b o, b ≠ p → H b = some o → H' b = some o
theorem PotOnN.on {m : Nat} {H H' : Hp} {p : Addr} (h : PotOnN m H H' p) : PotOn H H' p := ⟨h.1.pot, h.2⟩
theorem PotN.refl {m : Nat} {H : Hp} {p : Addr} (h : PotN m H p) : PotOnN m H H p := ⟨h, fun _ _ _ e => e⟩
theorem PotOnN.trans {m n : Nat} {H H1 H2 : Hp} {p : Addr} (a : PotOnN m H H1 p) (b : PotOnN n H1 H2 p) : PotOnN n H H2 p := ⟨b.1, fun c o n e => b.2 c o n (a.2 c o n e)⟩
theorem PotN.ex {m : Nat} {H H1 : Hp} {p : Addr} (h : PotN m H p) (e : Ex H H1) : PotN m H1 p := by
  obtain ⟨x, y, z, g, r⟩ := h
  exact ⟨x, y, z, e _ _ g, r⟩
theorem PotOnN.ex2 {m : Nat} {H H1 H2 : Hp} {p : Addr} (P : PotOnN m H H1 p) (e : Ex H1 H2) : PotOnN m H H2 p := ⟨P.1.ex e, fun b u nb h => e _ _ (P.2 b u nb h)⟩
theorem PotN.oth {m : Nat} {H : Hp} {p l : Addr} {o : HO} (h : PotN m H p) (n : l ≠ p) : PotN m (upd H l o) p := by
  obtain ⟨x, y, z, e, r⟩ := h
  exact ⟨x, y, z, by rw [upd_ne (Ne.symm n)]; exact e, r⟩
theorem PotOnN.upd {m : Nat} {H H' : Hp} {p l : Addr} {o : HO} (P : PotOnN m H H' p) (n : H l = none) (ne : l ≠ p) : PotOnN m H (upd H' l o) p :=
  ⟨P.1.oth ne, fun b u nb h => by rw [upd_ne (ne_of_none h n)]; exact P.2 b u nb h⟩
theorem PotOnN.ex {m : Nat} {H0 H H' : Hp} {p : Addr} (e : Ex H0 H) (n : H0 p = none) (P : PotOnN m H H' p) : Ex H0 H' := fun b o h => P.2 b o (ne_of_none h n) (e b o h)
theorem PotN.not {m : Nat} {H : Hp} {p l : Addr} (P : PotN m H p) (n : H l = none) : l ≠ p := fun z => by
  obtain ⟨_, _, _, e, _⟩ := P
  rw [z, e] at n
  cases n
theorem PotOnN.fresh {m : Nat} {H H' : Hp} {p b : Addr} (P : PotOnN m H H' p) (n : H' b = none) : H b = none := by
  cases e : H b with
  | none => rfl
  | some o =>
    by_cases hb : b = p
    · exact absurd hb (P.1.not n)
    · rw [P.2 b o hb e] at n
      cases n
theorem at_mem {xs : List V} {i : Int} (h0 : 0 ≤ i) (h1 : i < (xs.length : Nat)) : ∃ x, x ∈ xs ∧ atI xs i = some x := by
  obtain ⟨n, rfl⟩ := Int.eq_ofNat_of_zero_le h0
  have hn : n < xs.length := Int.ofNat_lt.mp h1
  exact ⟨xs[n], List.getElem_mem hn, atI_nat (List.getElem?_eq_getElem hn)⟩
theorem log_ltN {n : Nat} (h : n < 2 ^ 8000) : (n : Int).natAbs.log2 < 9000 := by
  show n.log2 < 9000
  by_cases h0 : n = 0
  · subst h0
    decide
  · have := (Nat.log2_lt h0).mpr h
    omega
/-- a draw below a number -/
theorem lt_8000 {n : Nat} (h : n < 10 ^ 100) : n < 2 ^ 8000 := Nat.lt_of_lt_of_le h (by decide +kernel)
def sp__law_draw (K : PySem.W.Frag) : Sp := fun vs H Q _ => ∃ (p : Addr) (n : Nat), vs = [.ref p, .int (n : Nat)] ∧ PotN 0 H p ∧ 0 < n ∧ n < 10 ^ 100 ∧ ∀ (d : Nat) H', d < n → PotOnN 0 H H' p → Q (.int (d : Nat)) H'
theorem fb__law_draw {P : Program} {w : World} {K : PySem.W.Frag} {mg : Str → Option Value} {base : Heap} (T : Env K mg) : ∃ fd, FunD K "_law_draw" "_law_draw" (defArgs s__law_draw) (defBody s__law_draw) (defScope s__law_draw) [] [] (He.ga K "_law_draw") fd ∧ Fb P w K mg base 1 (He.ga K "_law_draw") fd ["_law_pot_here", "_law_size"] (sp__law_draw K) := by
  obtain ⟨fd, F⟩ := T.f__law_draw
  refine ⟨fd, F, fb_of F sc__law_draw (fun vs H Q E h => ?_) (fun cdv A outer s H vs Q E hr h => ?_)⟩
  · obtain ⟨p, n, rfl, _⟩ := h
    rfl
  · obtain ⟨p, n, rfl, hpn, n0, n1, q⟩ := h
    obtain ⟨a, b, c, hp, c0, b0, b1⟩ := hpn
    have nl := log_ltN (lt_8000 n1)
    have ni : (0 : Int) < ((n : Nat) : Int) := by omega
    have n1 : n < 10 ^ 200 := Nat.lt_trans n1 (by decide +kernel)
    have q : ∀ (d : Int) H', 0 ≤ d → d < ((n : Nat) : Int) → PotOnN 0 H H' p → Q (.int d) H' := fun d H' d0 d1 P => by
      obtain ⟨e, rfl⟩ := Int.eq_ofNat_of_zero_le d0
      exact q e H' (by omega) P
    refine ⟨_, (pss_cons (ps_if (pt_cmpR op_gt (pe_ix ix_list (pv 0) pe_int (fun _ _ => rfl)) pe_int (nomark _))
      (pss_cons (ps_asg (pe_callB call_divmodW (by rfl) T.n_divmod (by decide +kernel) (pa_cons (pe_ix ix_list (pv 0) pe_int (fun _ _ => rfl)) (pa_cons (pv 1) pa_nil))) (pg_tup (by rfl) (pgs_cons (pg_sub (pv 0) pe_int set_list) (pgs_cons (pg_name (i := 2) sc__law_draw.nd rfl (Or.inl rfl)) pgs_nil))))
      (pss_one (ps_ret (pv 2))))
      pss_nil)
      (pss_cons (ps_asg (pe_op op_mod (pe_op op_add (pe_op op_mul (pe_ix ix_list (pv 0) pe_int (fun _ _ => rfl)) pe_int) pe_int) pe_int) (pg_sub (pv 0) pe_int set_list))
      (pss_one (ps_ret (pe_op op_mod (pe_op op_fdiv (pe_op op_mod (pe_op op_mul (pe_ix ix_list (pv 0) pe_int (fun _ _ => rfl)) (pe_ix ix_list (pv 0) pe_int (fun _ _ => rfl))) pe_int) pe_int) (pv 1)))))), ?_⟩
    refine ⟨_, rfl, p, _, _, .int a, rfl, rfl, sq_lst hp, rfl, _, _, rfl, rfl, _, rfl, ite2 (fun _ => ?_) (fun _ => ?_)⟩
    · refine ⟨_, rfl, p, _, _, .int a, rfl, rfl, sq_lst hp, rfl, _, rfl, a, _, rfl, ⟨ni, PyProof.noPylong_of_log2 nl⟩, fun t ht => ?_⟩
      have pt : p ≠ t := ne_of_none hp ht
      refine ⟨t, _, rfl, sq_tup upd_same, rfl, _, _, rfl, _, rfl, p, [.int a, .int b], 0, 0, rfl, rfl, (by rw [upd_ne pt]; exact hp), rfl, _, _, rfl, rfl, _, rfl, ?_⟩
      refine q _ _ (Int.emod_nonneg _ (by omega)) (Int.emod_lt_of_pos _ ni) ⟨⟨_, _, 0, upd_same, rfl, b0, b1⟩, fun x o nx e => ?_⟩
      rw [upd_ne nx, upd_ne (ne_of_none e ht)]
      exact e
    · refine ⟨_, rfl, p, _, _, .int b, rfl, rfl, sq_lst hp, rfl, _, _, rfl, rfl, .inr (by decide), _, _, rfl, rfl, _, _, rfl, rfl, (by show (0 : Int) < 2147483629; decide), _, rfl, p, _, 1, 1, rfl, rfl, hp, rfl, ?_⟩
      have m1 := Int.emod_nonneg (b * 39373 + 7919) (show (2147483629 : Int) ≠ 0 by decide)
      have m2 := Int.emod_lt_of_pos (b * 39373 + 7919) (show (0 : Int) < 2147483629 by decide)
      refine ⟨_, rfl, p, _, _, .int ((b * 39373 + 7919) % 2147483629), rfl, rfl, sq_lst upd_same, rfl, _, rfl, p, _, _, .int ((b * 39373 + 7919) % 2147483629), rfl, rfl, sq_lst upd_same, rfl, _, _, rfl, rfl, .inl ⟨by omega, by omega⟩, _, _, rfl, rfl, (by show (0 : Int) < 2147483587; decide), _, _, rfl, rfl, ⟨by decide, by decide⟩, _, rfl, _, _, rfl, rfl, ni, ?_⟩
      refine q _ _ (Int.emod_nonneg _ (by omega)) (Int.emod_lt_of_pos _ ni) ⟨⟨_, _, 0, upd_same, rfl, m1, by omega⟩, fun x o nx e => ?_⟩
      rw [upd_ne nx]
      exact e
theorem ok__law_draw {P : Program} {w : World} {K : PySem.W.Frag} {mg : Str → Option Value} {base : Heap} (T : Env K mg) : Fc P w K mg base 1 (He.ga K "_law_draw") [] (sp__law_draw K ) := by
  obtain ⟨fd, D, F⟩ := fb__law_draw T
  exact F.all (D.bindsN fun _ _ _ _ _ _ us hl => match us, hl with | [_, _], _ => rfl)
end
section
def sp__law_moment (K : PySem.W.Frag) : Sp := fun vs H Q _ => ∃ n : Nat, vs = [.int n] ∧ n < 10 ^ 255 ∧ ∀ H', Ex H H' → Q (.str (SX.S (Mo.shw n))) H'
theorem fb__law_moment {P : Program} {w : World} {K : PySem.W.Frag} {mg : Str → Option Value} {base : Heap} (T : Env K mg) : ∃ fd, FunD K "_law_moment" "_law_moment" (defArgs s__law_moment) (defBody s__law_moment) (defScope s__law_moment) [] [] (He.ga K "_law_moment") fd ∧ Fb P w K mg base 1 (He.ga K "_law_moment") fd ["_law_moment_here"] (sp__law_moment K) := by
  obtain ⟨fd, F⟩ := T.f__law_moment
  refine ⟨fd, F, fb_of F sc__law_moment (fun vs H Q E h => ?_) (fun cdv A outer s H vs Q E hr h => ?_)⟩
  · obtain ⟨n, rfl, _⟩ := h
    rfl
  · obtain ⟨m, rfl, mb, q⟩ := h
    refine ⟨_, (pss_cons (ps_asg (pe_callB call_divmodW (by rfl) T.n_divmod (by decide +kernel) (pa_cons (pv 0) (pa_cons pe_int pa_nil))) (pg_tup (by rfl) (pgs_cons (pg_name (i := 1) sc__law_moment.nd rfl (Or.inl rfl)) (pgs_cons (pg_name (i := 2) sc__law_moment.nd rfl (Or.inl rfl)) pgs_nil))))
      (pss_cons (ps_set (i := 3) sc__law_moment.nd rfl (Or.inl rfl) (pe_op op_add_str (pe_op op_add_str (pe_callTy call_str_int (by rfl) T.n_str (by decide +kernel) (pa_cons (pe_op op_fdiv (pv 2) pe_int) pa_nil)) pe_str) (pe_bm PySem.F.plainAttrs_str PySem.F.slot_str_zfill PySem.F.type_str_zfill mt_zfill (pe_callTy call_str_int (by rfl) T.n_str (by decide +kernel) (pa_cons (pe_op op_mod (pv 2) pe_int) pa_nil)) (pa_cons pe_int pa_nil))))
      (pss_one (ps_ret (pe_ifExp (pt_cmpR op_eq (pv 1) pe_int (nomark _)) (pv 3) (pe_op op_add_str (pe_op op_add_str (pe_callTy call_str_int (by rfl) T.n_str (by decide +kernel) (pa_cons (pv 1) pa_nil)) pe_str) (pv 3))))))), ?_⟩
    have l1 : (Mo.shw m).length ≤ 263 := Mo.shw_len (by decide) mb
    have l2 : (TL.numL (m % 1440 / 60)).length ≤ 2 := TL.numL_len (by decide) (by omega)
    have l3 : (TL.numL (m / 1440)).length ≤ 255 := TL.numL_len (by decide) (Nat.lt_of_le_of_lt (Nat.div_le_self _ _) mb)
    refine ⟨_, rfl, _, _, rfl, ⟨(by decide), rfl⟩, ?_⟩
    intro t nt
    have X1 := ex_new (o := .tup [.int (((m : Nat) : Int) / 1440), .int (((m : Nat) : Int) % 1440)]) nt
    have h1 : upd H t (.tup [.int (((m : Nat) : Int) / 1440), .int (((m : Nat) : Int) % 1440)]) t = some (.tup [.int (((m : Nat) : Int) / 1440), .int (((m : Nat) : Int) % 1440)]) := upd_same
    have e1 : ((m : Nat) : Int) / 1440 = ((m / 1440 : Nat) : Int) := by omega
    have e2 : ((m : Nat) : Int) % 1440 = ((m % 1440 : Nat) : Int) := by omega
    rw [e1, e2] at X1 h1 ⊢
    generalize upd H t (.tup [.int ((m / 1440 : Nat) : Int), .int ((m % 1440 : Nat) : Int)]) = H1 at X1 h1 ⊢
    refine ⟨_, _, rfl, (sq_tup h1), rfl, _, _, rfl, _, _, rfl, rfl, _, rfl, _, _, rfl, rfl, ⟨(by decide), (by decide)⟩, _, rfl, ?_⟩
    rw [show ((m % 1440 : Nat) : Int) / 60 = ((m % 1440 / 60 : Nat) : Int) by omega]
    have b1 := log_small (n := m % 1440 / 60) (Nat.lt_of_le_of_lt (show m % 1440 / 60 ≤ 100 by omega) (by decide +kernel))
    have b2 := log_small (n := m % 60) (Nat.lt_of_le_of_lt (show m % 60 ≤ 100 by omega) (by decide +kernel))
    have l4 : (Mo.clk m).length ≤ 5 := by
      unfold Mo.clk Mo.two
      simp
      omega
    refine ⟨b1, ?_⟩
    rw [SX.num_S]
    refine ⟨_, _, rfl, rfl, sz_big (by rw [SX.S_len]; show _ + 1 ≤ _; omega), ?_⟩
    rw [show Str.ofString ":" = SX.S [58] from rfl, SX.S_cat]
    have e4 : ((m % 1440 : Nat) : Int) % 60 = ((m % 60 : Nat) : Int) := by omega
    refine ⟨_, rfl, _, _, rfl, rfl, (by show (0 : Int) < 60; decide), _, rfl, (by rw [e4]; exact b2), rfl, _, _, rfl, rfl, rfl, _, _, rfl, rfl, ?_⟩
    rw [e4]
    rw [show Txt.zfill (Str.ofString (toString ((m % 60 : Nat) : Int))) 2 = SX.S (Mo.two (m % 60)) from str_two _ (by omega), SX.S_cat]
    have ec : TL.numL (m % 1440 / 60) ++ [58] ++ Mo.two (m % 60) = Mo.clk m := by
      unfold Mo.clk
      simp
    rw [ec]
    refine ⟨sz_big (by rw [SX.S_len, SX.S_len]; simp; unfold Mo.two; simp; omega), ?_⟩
    refine ⟨_, rfl, rfl, _, rfl, ?_⟩
    by_cases c : m / 1440 = 0
    · refine ifP (by rw [c]; rfl) ?_
      have e5 : Mo.shw m = Mo.clk m := by unfold Mo.shw; rw [if_pos c]
      rw [e5] at q
      exact ⟨_, rfl, q _ X1⟩
    · refine ifN (by exact vint_ne (by omega)) ?_
      have b3 := log_small (n := m / 1440) (Nat.lt_of_le_of_lt (Nat.div_le_self _ _) mb)
      refine ⟨_, rfl, _, rfl, b3, ?_⟩
      rw [SX.num_S, show Str.ofString " " = SX.S [32] from rfl]
      refine ⟨_, _, rfl, rfl, sz_big (by rw [SX.S_len, SX.S_len]; simp; omega), _, rfl, _, _, rfl, rfl, ?_⟩
      rw [SX.S_cat, SX.S_cat]
      refine ⟨sz_big (by rw [SX.S_len, SX.S_len]; simp; omega), ?_⟩
      have e5 : Mo.shw m = TL.numL (m / 1440) ++ [32] ++ Mo.clk m := by unfold Mo.shw; rw [if_neg c]; simp
      rw [e5] at q
      exact q _ X1
theorem ok__law_moment {P : Program} {w : World} {K : PySem.W.Frag} {mg : Str → Option Value} {base : Heap} (T : Env K mg) : Fc P w K mg base 1 (He.ga K "_law_moment") [] (sp__law_moment K ) := by
  obtain ⟨fd, D, F⟩ := fb__law_moment T
  exact F.all (D.bindsN fun _ _ _ _ _ _ us hl => match us, hl with | [_], _ => rfl)
end
section
theorem okL_snoc {t : Tr} : ∀ {ts : List Tr}, okL_ ts → t.ok → okL_ (ts ++ [t])
  | [], _, h => by
    show okL_ [t]
    unfold okL_
    exact ⟨h, by unfold okL_; trivial⟩
  | x :: r, h, ht => by
    unfold okL_ at h
    show okL_ (x :: (r ++ [t]))
    unfold okL_
    exact ⟨h.1, okL_snoc h.2 ht⟩
theorem momsL_snoc (ts : List Tr) (t : Tr) : momsL (ts ++ [t]) = momsL ts ++ t.moms := by
  have e : momsL [t] = t.moms := by simp [momsL]
  rw [momsL_app, e]
theorem at_lastN {ns : List Nat} (h : ns ≠ []) : atI (natV ns) (-1) = some (.int ((ns.getLastD 0 : Nat) : Int)) := by
  have e := List.dropLast_concat_getLast h
  have e2 : ns.getLastD 0 = ns.getLast h := by
    rw [List.getLastD_eq_getLast?, List.getLast?_eq_some_getLast h]
    rfl
  rw [e2]
  have e3 : natV ns = natV ns.dropLast ++ [.int ((ns.getLast h : Nat) : Int)] := by
    unfold natV
    rw [← List.map_singleton (f := fun n : Nat => V.int (n : Int)), ← List.map_append, e]
  rw [e3]
  exact atI_last _ _
end
section
theorem nestL_app (a b : List Tr) : nestL (a ++ b) = max (nestL a) (nestL b) := by
  induction a with
  | nil => simp [nestL]
  | cons t a ih => simp [nestL, ih, Nat.max_assoc]
theorem okL_one {t : Tr} (h : t.ok) : okL_ [t] := by
  unfold okL_
  exact ⟨h, by unfold okL_; trivial⟩
theorem nestL_one (t : Tr) : nestL [t] = t.nest := by simp [nestL]
theorem pcsL_one (t : Tr) : pcsL [t] = t.pcs := by simp [pcsL]
theorem at_ok (n : Nat) : (Tr.at n).ok := by
  unfold Tr.ok
  trivial
theorem at_moms (n : Nat) : (Tr.at n).moms = [n] := by rw [Tr.moms]
theorem at_nest (n : Nat) : (Tr.at n).nest = 0 := by rw [Tr.nest]
theorem momsL_one (t : Tr) : momsL [t] = t.moms := by simp [momsL]
end
section
mutual
/-- at a what a law has drawn for a short, rows as lists, which stand at places that N tells -/
def LtAt (N : Addr → Prop) (H : Hp) : Tr → Addr → Prop
  | .at n, a => H a = some (.tup [.str "at", .int (n : Nat)])
  | .ov ps m s, a => ∃ r as, H a = some (.tup [.str "over", .ref r, .int (m : Nat), .int (s : Nat)]) ∧ N r ∧ H r = some (.lst (as.map V.ref)) ∧ LtsAt N H ps as
def LtsAt (N : Addr → Prop) (H : Hp) : List Tr → List Addr → Prop
  | [], as => as = []
  | t :: ts, as => ∃ a r, as = a :: r ∧ LtAt N H t a ∧ LtsAt N H ts r
end
/-- what such a thing stands in: tuples, lists of things -/
def keepsT (N M : Addr → Prop) (H H' : Hp) : Prop := (∀ b xs, H b = some (.tup xs) → H' b = some (.tup xs)) ∧ ∀ b (as : List Addr), N b → H b = some (.lst (as.map V.ref)) → M b ∧ H' b = some (.lst (as.map V.ref))
mutual
theorem LtAt.keep {N M : Addr → Prop} {H H' : Hp} (e : keepsT N M H H') : ∀ {t : Tr} {a : Addr}, LtAt N H t a → LtAt M H' t a
  | .at n, a, h => by
    unfold LtAt at h ⊢
    exact e.1 _ _ h
  | .ov ps m s, a, h => by
    unfold LtAt at h ⊢
    obtain ⟨r, as, h1, hN, h2, h3⟩ := h
    obtain ⟨g1, g2⟩ := e.2 _ _ hN h2
    exact ⟨r, as, e.1 _ _ h1, g1, g2, LtsAt.keep e h3⟩
theorem LtsAt.keep {N M : Addr → Prop} {H H' : Hp} (e : keepsT N M H H') : ∀ {ts : List Tr} {as : List Addr}, LtsAt N H ts as → LtsAt M H' ts as
  | [], as, h => by
    unfold LtsAt at h ⊢
    exact h
  | t :: ts, as, h => by
    unfold LtsAt at h ⊢
    obtain ⟨a, r, h1, h2, h3⟩ := h
    exact ⟨a, r, h1, LtAt.keep e h2, LtsAt.keep e h3⟩
end
section
variable {N M : Addr → Prop} {H H' : Hp} {t : Tr} {ts : List Tr} {a f p : Addr} {as : List Addr}
theorem keeps_ex (e : Ex H H') : keepsT N N H H' := ⟨fun b xs z => e _ _ z, fun b as n z => ⟨n, e _ _ z⟩⟩
theorem keeps_im (e : ∀ b, N b → M b) : keepsT N M H H := ⟨fun b xs z => z, fun b as n z => ⟨e _ n, z⟩⟩
theorem LtAt.mono (h : LtAt N H t a) (e : Ex H H') : LtAt N H' t a := h.keep (keeps_ex e)
theorem LtsAt.mono (h : LtsAt N H ts as) (e : Ex H H') : LtsAt N H' ts as := h.keep (keeps_ex e)
theorem LtAt.imp (h : LtAt N H t a) (e : ∀ b, N b → M b) : LtAt M H t a := h.keep (keeps_im e)
theorem LtsAt.imp (h : LtsAt N H ts as) (e : ∀ b, N b → M b) : LtsAt M H ts as := h.keep (keeps_im e)
/-- one list changes, which is none of them -/
theorem keeps_put {o : HO} {xs : List V} (hf : H f = some (.lst xs)) (n : ∀ b, N b → b ≠ f) : keepsT N N H (upd H f o) :=
  ⟨fun b xs z => by rw [upd_ne (fun w => by rw [w, hf] at z; cases z)]; exact z, fun b as nb z => ⟨nb, by rw [upd_ne (n b nb)]; exact z⟩⟩
theorem keeps_pot (hp : Pot H p) (P : PotOn H H' p) : keepsT N N H H' := by
  obtain ⟨x, y, e, _⟩ := hp
  refine ⟨fun b xs z => P.2 b _ (fun w => by rw [w, e] at z; cases z) z, fun b as n z => ⟨n, P.2 b _ (fun w => ?_) z⟩⟩
  rw [w, e] at z
  cases as with
  | nil => cases z
  | cons a r => cases z
theorem LtAt.on (h : LtAt N H t a) (hp : Pot H p) (P : PotOn H H' p) : LtAt N H' t a := h.keep (keeps_pot hp P)
theorem LtsAt.on (h : LtsAt N H ts as) (hp : Pot H p) (P : PotOn H H' p) : LtsAt N H' ts as := h.keep (keeps_pot hp P)
end
theorem LtsAt.len {N : Addr → Prop} {H : Hp} : ∀ {ts : List Tr} {as : List Addr}, LtsAt N H ts as → as.length = ts.length
  | [], as, h => by
    unfold LtsAt at h
    rw [h]
    rfl
  | t :: ts, as, h => by
    unfold LtsAt at h
    obtain ⟨a, r, rfl, _, h3⟩ := h
    rw [List.length_cons, List.length_cons, LtsAt.len h3]
theorem LtsAt.get {N : Addr → Prop} {H : Hp} : ∀ {ts : List Tr} {as : List Addr} {i : Nat} {a : Addr}, LtsAt N H ts as → as[i]? = some a → ∃ t, ts[i]? = some t ∧ LtAt N H t a
  | [], as, i, a, h, hi => by
    unfold LtsAt at h
    rw [h] at hi
    cases hi
  | t :: ts, as, i, a, h, hi => by
    unfold LtsAt at h
    obtain ⟨b, r, rfl, h2, h3⟩ := h
    cases i with
    | zero =>
      cases hi
      exact ⟨t, rfl, h2⟩
    | succ i => exact LtsAt.get (i := i) h3 hi
theorem LtsAt.snoc {N : Addr → Prop} {H : Hp} {t : Tr} {a : Addr} : ∀ {ts : List Tr} {as : List Addr}, LtsAt N H ts as → LtAt N H t a → LtsAt N H (ts ++ [t]) (as ++ [a])
  | [], as, h, ha => by
    unfold LtsAt at h
    rw [h]
    show LtsAt N H [t] [a]
    unfold LtsAt
    exact ⟨a, [], rfl, ha, by unfold LtsAt; rfl⟩
  | x :: ts, as, h, ha => by
    unfold LtsAt at h
    obtain ⟨b, r, rfl, h2, h3⟩ := h
    show LtsAt N H (x :: (ts ++ [t])) (b :: (r ++ [a]))
    unfold LtsAt
    exact ⟨b, r ++ [a], rfl, h2, LtsAt.snoc h3 ha⟩
theorem lts_one {N : Addr → Prop} {H : Hp} {t : Tr} {a : Addr} (h : LtAt N H t a) : LtsAt N H [t] [a] := by
  unfold LtsAt
  exact ⟨a, [], rfl, h, by unfold LtsAt; rfl⟩
def sp__law_means (K : PySem.W.Frag) (d : Nat) : Sp := fun vs H Q _ => ∃ (N : Addr → Prop) (p : Addr) (as : List Addr) (ts : List Tr), vs = [.ref p] ∧ H p = some (.lst (as.map V.ref)) ∧ LtsAt N H ts as ∧ nestL ts + 1 ≤ d ∧ okL_ ts ∧ (momsL ts).length ≤ 2000 ∧ ∀ t H', Ex H H' → H t = none → H' t = some (.lst (natV (momsL ts))) → Q (.ref t) H'
end
section
def strD (ws : List Str) : List PyData := ws.map PyData.str
theorem dp_strs (K : PySem.W.Frag) (H : Hp) : ∀ ws : List Str, DpAll K H (ws.map V.str) (strD ws)
  | [] => .nil
  | n :: ns => .cons (.str _) (dp_strs K H ns)
theorem strOk_nm {z : Str} (h : nmN z.cps.toList = true) : PyData.strOk z = true := by
  unfold PyData.strOk
  rw [← Array.all_toList]
  exact List.all_eq_true.mpr fun c hc => decide_eq_true (by have := (nm_facts h).2.2 c hc; omega)
theorem strD_lay : ∀ ns : List Str, Nms ns → PyData.canLayAll0 (strD ns) = true
  | [], _ => rfl
  | n :: ns, h => by
    show (PyData.strOk n && PyData.canLayAll0 (strD ns)) = true
    rw [strD_lay ns fun z hz => h z (List.mem_cons_of_mem _ hz), strOk_nm (h n List.mem_cons_self)]
    rfl
theorem strD_dep : ∀ ns : List Str, PyData.depthAll (strD ns) = 0
  | [] => rfl
  | n :: ns => by
    show max 0 (PyData.depthAll (strD ns)) = 0
    rw [strD_dep ns]
    rfl
theorem shaped_str {ns : List Str} (h : Nms ns) : SeqAt.shaped (.list (strD ns)) = true := by
  show (PyData.canLayAll0 (strD ns) && decide (PyData.depthAll (strD ns) + 1 ≤ 64)) = true
  rw [strD_lay _ h, strD_dep]
  rfl
end
section
theorem fig_ok {c : Nat} (h : 48 ≤ c ∧ c ≤ 57) : okC c = true := by
  unfold okC
  rw [decide_eq_true (by omega), decide_eq_true (by omega), decide_eq_true (by omega), decide_eq_true (by omega)]
  rfl
theorem numL_ok (n : Nat) : (TL.numL n).all okC = true := List.all_eq_true.mpr fun c hc => fig_ok (TL.numL_digits n c hc)
theorem two_ok {m : Nat} (h : m < 60) : (Mo.two m).all okC = true := by
  unfold Mo.two
  simp only [List.all_cons, List.all_nil, Bool.and_true]
  rw [fig_ok (by omega), fig_ok (by omega)]
  rfl
theorem clk_ok (m : Nat) : (Mo.clk m).all okC = true := by
  unfold Mo.clk
  rw [List.all_append, numL_ok, List.all_cons, two_ok (by omega)]
  rfl
theorem shw_ok (m : Nat) : (Mo.shw m).all okC = true := by
  unfold Mo.shw
  split
  · exact clk_ok m
  · rw [List.all_append, numL_ok, List.all_cons, clk_ok]
    rfl
end
section
theorem join_ok : ∀ {ws : List (List Nat)}, (∀ w ∈ ws, w.all okC = true) → (TL.joinL [44, 32] ws).all okC = true
  | [], _ => rfl
  | [w], h => h w List.mem_cons_self
  | w :: x :: r, h => by
    have ih := join_ok (ws := x :: r) fun y hy => h y (List.mem_cons_of_mem _ hy)
    show (w ++ ([44, 32] ++ TL.joinL [44, 32] (x :: r))).all okC = true
    rw [List.all_append, List.all_append, ih, h w List.mem_cons_self]
    rfl
mutual
theorem txt_ok : ∀ t : Tr, t.txt.all okC = true
  | .at n => by
    unfold Tr.txt
    exact shw_ok n
  | .ov ps m s => by
    have h := rowT_ok ps
    unfold Tr.txt
    simp only [List.all_append, numL_ok, h]
    rfl
theorem rowT_ok : ∀ ts : List Tr, (rowT (txtL ts)).all okC = true
  | ts => by
    have h := txtL_ok ts
    unfold rowT
    split
    · rfl
    · exact join_ok h
theorem txtL_ok : ∀ ts : List Tr, ∀ w ∈ txtL ts, w.all okC = true
  | [], w, hw => by
    unfold txtL at hw
    cases hw
  | t :: r, w, hw => by
    unfold txtL at hw
    rcases List.mem_cons.mp hw with rfl | hw
    · exact txt_ok t
    · exact txtL_ok r w hw
end
end
section
theorem strOk_okC {l : List Nat} (h : l.all okC = true) : PyData.strOk (SX.S l) = true := by
  unfold PyData.strOk
  rw [← Array.all_toList]
  refine List.all_eq_true.mpr fun c hc => ?_
  have z := List.all_eq_true.mp h c hc
  unfold okC at z
  simp only [Bool.and_eq_true, decide_eq_true_eq, Bool.or_eq_true, Bool.not_eq_true', decide_eq_false_iff_not] at z
  exact decide_eq_true (by omega)
theorem laysS : ∀ {ws : List (List Nat)}, (∀ w ∈ ws, w.all okC = true) → PyData.canLayAll0 (ws.map fun z => PyData.str (SX.S z)) = true
  | [], _ => rfl
  | w :: ws, h => by
    show (PyData.strOk (SX.S w) && PyData.canLayAll0 (ws.map fun z => PyData.str (SX.S z))) = true
    rw [laysS fun x hx => h x (List.mem_cons_of_mem _ hx), strOk_okC (h w List.mem_cons_self)]
    rfl
theorem depS : ∀ ws : List (List Nat), PyData.depthAll (ws.map fun z => PyData.str (SX.S z)) = 0
  | [] => rfl
  | w :: ws => by
    show max 0 (PyData.depthAll (ws.map fun z => PyData.str (SX.S z))) = 0
    rw [depS ws]
    rfl
theorem shapedS {ws : List (List Nat)} (h : ∀ w ∈ ws, w.all okC = true) : SeqAt.shaped (.list (ws.map fun z => PyData.str (SX.S z))) = true := by
  show (PyData.canLayAll0 (ws.map fun z => PyData.str (SX.S z)) && decide (PyData.depthAll (ws.map fun z => PyData.str (SX.S z)) + 1 ≤ 64)) = true
  rw [laysS h, depS]
  rfl
theorem dpS (K : PySem.W.Frag) (H : Hp) : ∀ ws : List (List Nat), DpAll K H (ws.map fun z => V.str (SX.S z)) (ws.map fun z => PyData.str (SX.S z))
  | [] => .nil
  | w :: ws => .cons (.str _) (dpS K H ws)
end
section
def sp__law_spread_text (K : PySem.W.Frag) (d : Nat) : Sp := fun vs H Q _ => ∃ (N : Addr → Prop) (p : Addr) (as : List Addr) (ts : List Tr), vs = [.ref p] ∧ H p = some (.lst (as.map V.ref)) ∧ LtsAt N H ts as ∧ nestL ts + 1 ≤ d ∧ fitL ts ∧ pcsL ts ≤ 10000 ∧ ∀ H', Ex H H' → Q (.str (SX.S (rowT (txtL ts)))) H'
theorem txtL_take {ts : List Tr} {i : Nat} {t : Tr} (h : ts[i]? = some t) : txtL (ts.take (i + 1)) = txtL (ts.take i) ++ [t.txt] := by
  rw [txtL_map, txtL_map, take_snoc h, List.map_append]
  rfl
theorem fb__law_spread_text {P : Program} {w : World} {K : PySem.W.Frag} {mg : Str → Option Value} {base : Heap} (T : Env K mg) {d L : Nat} (hL : 40 ≤ L) (r__law_spread_text : Fc P w K mg base L (He.ga K "_law_spread_text") [] (sp__law_spread_text K d)) : ∃ fd, FunD K "_law_spread_text" "_law_spread_text" (defArgs s__law_spread_text) (defBody s__law_spread_text) (defScope s__law_spread_text) [] [] (He.ga K "_law_spread_text") fd ∧ Fb P w K mg base (L + 1) (He.ga K "_law_spread_text") fd ["_law_parts"] (sp__law_spread_text K (d + 1)) := by
  obtain ⟨fd, F⟩ := T.f__law_spread_text
  refine ⟨fd, F, fb_of F sc__law_spread_text (fun vs H Q E h => ?_) (fun cdv A outer s H vs Q E hr h => ?_)⟩
  · obtain ⟨N, p, as, ts, rfl, _⟩ := h
    rfl
  · obtain ⟨N, p, as, ts, rfl, hp, hA, hn, hf, hc, q⟩ := h
    refine ⟨_, (pss_cons (ps_set (i := 1) sc__law_spread_text.nd rfl (Or.inl rfl) (pe_lst pa_nil))
      (pss_cons (ps_for (passes_of rfl) rfl (pi_list (pv 0)) (pg_name (i := 2) sc__law_spread_text.nd rfl (Or.inl rfl))
      (pss_one (ps_if (pt_cmpR op_eq (pe_ix ix_tup (pv 2) pe_int (fun _ _ => rfl)) pe_str (nomark _))
      (pss_one (ps_expr (pe_bm PySem.F.plainAttrs_list PySem.F.slot_list_append PySem.F.type_list_append mt_append (pv 1) (pa_cons (c_call (ok__law_moment T) (hr.mono (by omega)) T.g__law_moment T.k__law_moment takes0 (pa_cons (pe_ix ix_tup (pv 2) pe_int (fun _ _ => rfl)) pa_nil)) pa_nil))))
      (pss_cons (ps_set (i := 3) sc__law_spread_text.nd rfl (Or.inl rfl) (pe_op op_add_str (pe_op op_add_str (pe_op op_add_str pe_str (pe_callTy call_str_int (by rfl) T.n_str (by decide +kernel) (pa_cons (pe_ix ix_tup (pv 2) pe_int (fun _ _ => rfl)) pa_nil))) pe_str) (pe_callTy call_str_int (by rfl) T.n_str (by decide +kernel) (pa_cons (pe_ix ix_tup (pv 2) pe_int (fun _ _ => rfl)) pa_nil))))
      (pss_one (ps_expr (pe_bm PySem.F.plainAttrs_list PySem.F.slot_list_append PySem.F.type_list_append mt_append (pv 1) (pa_cons (pe_op op_add_str (pe_op op_add_str pe_str (c_call r__law_spread_text (hr.mono (by omega)) T.g__law_spread_text T.k__law_spread_text takes0 (pa_cons (pe_ix ix_tup (pv 2) pe_int (fun _ _ => rfl)) pa_nil))) (pv 3)) pa_nil))))))))
      (pss_one (ps_ret (pe_ifExp (pt_cmpR (op_eqD hr.rm.units) (pv 1) (pe_lst pa_nil) (nomark _)) pe_str (pe_join pe_str (pv 1))))))), ?_⟩
    refine ⟨by show 0 ≤ sizeLine; decide, fun f nf => ?_⟩
    have X0 := ex_new (o := .lst []) nf
    have hl1 := hA.len
    have hl2 := len_pcsL ts
    refine ⟨_, rfl, p, rfl, ⟨_, sq_lst (X0 _ _ hp)⟩, for_on as V.ref L2.walk_list (fun i σ H' => Ex H H' ∧ (∃ v2 v3, σ = [some (.ref p), some (.ref f), v2, v3]) ∧ H' f = some (.lst ((txtL (ts.take i)).map fun z => V.str (SX.S z)))) ⟨X0, ⟨_, _, rfl⟩, upd_same⟩ (fun i σ H' z => sq_lst (z.1 _ _ hp)) ?_ ?_⟩
    · rintro i a σ H2 hx ⟨X2, ⟨v2, v3, rfl⟩, hf2⟩
      obtain ⟨t, ht, hS⟩ := hA.get hx
      have htm := List.mem_of_getElem? ht
      have eT := txtL_take ht
      have hS2 := hS.mono X2
      have nm := nestL_mem htm
      have ft := fitL_mem hf htm
      have pt := pcsL_mem htm
      have li : i < ts.length := (List.getElem?_eq_some_iff.mp ht).1
      have lf : ((txtL (ts.take i)).map fun z => V.str (SX.S z)).length < sizeLine := by
        rw [List.length_map, txtL_map, List.length_map, List.length_take, sizeLine_eq]
        omega
      cases t with
      | «at» n =>
        unfold LtAt at hS2
        unfold Tr.fit at ft
        refine ⟨_, rfl, _, _, _, _, rfl, rfl, (sq_tup hS2), rfl, rfl, _, rfl, _, rfl, (.inl ⟨rfl, ⟨_, (sq_lst hf2)⟩⟩), _, rfl, _, _, _, _, rfl, rfl, (sq_tup hS2), rfl, _, rfl, ft, ?_⟩
        intro H3 X3
        refine ⟨f, _, _, rfl, rfl, X3 _ _ hf2, lf, ex_mut (X2.trans X3) nf, ⟨_, _, rfl⟩, ?_⟩
        rw [upd_same, eT, List.map_append]
        unfold Tr.txt
        rfl
      | ov ps m s_ =>
        unfold LtAt at hS2
        obtain ⟨r, bs, hS2, hN, hr2, hB⟩ := hS2
        refine ⟨_, rfl, _, _, _, _, rfl, rfl, (sq_tup hS2), rfl, rfl, _, rfl, _, rfl, _, _, _, _, rfl, rfl, (sq_tup hS2), rfl, _, rfl, ?_⟩
        have htl := txt_len ft
        unfold Tr.nest at nm
        unfold Tr.pcs at pt htl
        unfold Tr.fit at ft
        unfold Tr.txt at eT htl
        obtain ⟨f1, f2, f3⟩ := ft
        have b1 := log_small f1
        have b2 := log_small f2
        have rl := rowT_len f3
        have l1 := TL.numL_len (by decide) f1
        have l2 := TL.numL_len (by decide) f2
        refine ⟨b1, ?_⟩
        rw [show Str.ofString ") x" = SX.S [41, 32, 120] from rfl, SX.num_S]
        refine ⟨_, _, rfl, rfl, sz_big (by rw [SX.S_len, SX.S_len]; simp; omega), ?_⟩
        rw [SX.S_cat]
        refine ⟨_, _, rfl, rfl, ?_⟩
        rw [show Str.ofString " +" = SX.S [32, 43] from rfl]
        refine ⟨sz_big (by rw [SX.S_len, SX.S_len]; simp; omega), ?_⟩
        rw [SX.S_cat]
        refine ⟨_, rfl, _, _, _, _, rfl, rfl, sq_tup hS2, rfl, _, rfl, b2, _, _, rfl, rfl, ?_⟩
        rw [SX.num_S]
        refine ⟨sz_big (by rw [SX.S_len, SX.S_len]; simp; omega), ?_⟩
        rw [SX.S_cat]
        refine ⟨_, rfl, (.inl ⟨rfl, ⟨_, (sq_lst hf2)⟩⟩), _, rfl, _, _, _, _, rfl, rfl, (sq_tup hS2), rfl, ?_⟩
        refine ⟨N, r, bs, ps, rfl, hr2, hB, by omega, f3, by omega, fun H3 X3 => ?_⟩
        rw [show Str.ofString "(" = SX.S [40] from rfl]
        refine ⟨_, _, rfl, rfl, sz_big (by rw [SX.S_len, SX.S_len]; simp; omega), ?_⟩
        rw [SX.S_cat]
        refine ⟨_, rfl, _, _, rfl, rfl, sz_big (by rw [SX.S_len, SX.S_len]; simp; omega), ?_⟩
        rw [SX.S_cat]
        refine ⟨f, _, _, rfl, rfl, X3 _ _ hf2, lf, ex_mut (X2.trans X3) nf, ⟨_, _, rfl⟩, ?_⟩
        rw [upd_same, eT, List.map_append]
        simp
    · rintro σ H2 ⟨X2, ⟨v2, v3, rfl⟩, hf2⟩
      rw [hl1, List.take_length] at hf2
      refine ⟨_, rfl, (by decide), ?_⟩
      intro a1 na1
      have Xa1 := ex_new (o := HO.lst []) na1
      have ha1 : upd H2 a1 (HO.lst []) a1 = some (HO.lst []) := upd_same
      generalize upd H2 a1 (HO.lst []) = Ga1 at Xa1 ha1 ⊢
      have hf3 := Xa1 _ _ hf2
      refine ⟨_, _, .lst (sq_lst hf3) (dpS _ _ _), .lst (sq_lst ha1) .nil, shapedS (txtL_ok ts), rfl, _, rfl, ?_⟩
      have X3 := X2.trans Xa1
      cases ts with
      | nil => exact iteT (q Ga1 X3)
      | cons t ts =>
        refine iteF ?_
        have sl := sum_txt hf
        have e2 : rowT (txtL (t :: ts)) = TL.joinL [44, 32] (txtL (t :: ts)) := if_neg (by rw [txtL_map]; exact nofun)
        rw [e2] at q
        have e3 : ((txtL (t :: ts)).map fun z => V.str (SX.S z)) = ((txtL (t :: ts)).map SX.S).map V.str := by
          rw [List.map_map]
          rfl
        rw [e3] at hf3
        refine ⟨⟨_, rfl⟩, _, rfl, _, f, _, rfl, rfl, .inl (sq_lst hf3), ?_, ?_⟩
        · rw [SX.lens, List.length_map, txtL_map, List.length_map]
          rw [txtL_map] at sl
          have z : (Str.ofString ", ").length = 2 := rfl
          rw [z]
          omega
        · rw [show Str.ofString ", " = SX.S [44, 32] from rfl, SX.join_S]
          exact q Ga1 X3
theorem ok__law_spread_text {P : Program} {w : World} {K : PySem.W.Frag} {mg : Str → Option Value} {base : Heap} (T : Env K mg) {d L : Nat} (hL : 40 ≤ L) (r__law_spread_text : Fc P w K mg base L (He.ga K "_law_spread_text") [] (sp__law_spread_text K d)) : Fc P w K mg base (L + 1) (He.ga K "_law_spread_text") [] (sp__law_spread_text K (d + 1)) := by
  obtain ⟨fd, D, F⟩ := fb__law_spread_text T hL r__law_spread_text
  exact F.all (D.bindsN fun _ _ _ _ _ _ us hl => match us, hl with | [_], _ => rfl)
theorem all_sptext {P : Program} {w : World} {K : PySem.W.Frag} {mg : Str → Option Value} {base : Heap} (T : Env K mg) : ∀ d, Fc P w K mg base (40 + 1 * d) (He.ga K "_law_spread_text") [] (sp__law_spread_text K d)
  | 0 => fc_no fun vs H Q E h => by
    obtain ⟨_, _, _, _, _, _, _, h, _⟩ := h
    omega
  | d + 1 => ok__law_spread_text T (Nat.le_add_right 40 _) (all_sptext T d)
end
section
/-- a blank ahead of each word -/
def spW (ws : List (List Nat)) : List Nat := ws.flatMap fun w => 32 :: w
theorem joinL_sp : ∀ (ws : List (List Nat)) (w : List Nat), TL.joinL [32] (w :: ws) = w ++ spW ws
  | [], w => by
    show w = w ++ []
    simp
  | x :: r, w => by
    have ih := joinL_sp r x
    have e : TL.joinL [32] (w :: x :: r) = w ++ ([32] ++ TL.joinL [32] (x :: r)) := rfl
    rw [e, ih]
    unfold spW
    simp
theorem dtxt_sp (D : DaysD) : dtxt D = D.bits ++ spW (wSince D) ++ spW (wTill D) ++ spW (wList wNot (srtN D.out)) ++ spW (wList wAlso (srtN D.also)) := by
  unfold dtxt dwords
  have : [D.bits] ++ wSince D ++ wTill D ++ wList wNot (srtN D.out) ++ wList wAlso (srtN D.also) = D.bits :: (wSince D ++ wTill D ++ wList wNot (srtN D.out) ++ wList wAlso (srtN D.also)) := by simp [List.append_assoc]
  rw [this, joinL_sp]
  unfold spW
  simp only [List.flatMap_append, List.append_assoc]
end
section
theorem spw_len {D : DaysD} (hD : D.ok) (hL : D.fit 58) : D.bits.length ≤ 7 ∧ (spW (wSince D)).length ≤ 70 ∧ (spW (wTill D)).length ≤ 70 ∧ (spW (wList wNot (srtN D.out))).length ≤ 700 ∧ (spW (wList wAlso (srtN D.also))).length ≤ 700 := by
  obtain ⟨b1, b2, b3, b4⟩ := hL
  have hb : 1 ≤ D.bits.length ∧ D.bits.length ≤ 7 := of_decide_eq_true (Bool.and_eq_true_iff.mp hD.1).1
  have nl : ∀ {n : Nat}, n < 10 ^ 58 → (TL.numL n).length ≤ 58 := fun h => TL.numL_len (by decide) h
  have sp : ∀ {ws : List (List Nat)}, (∀ w ∈ ws, w.length ≤ 58) → (spW ws).length ≤ 59 * ws.length := fun {ws} h => by
    induction ws with
    | nil => exact Nat.zero_le _
    | cons w r ih =>
      have h1 := h w List.mem_cons_self
      have h2 := ih fun x hx => h x (List.mem_cons_of_mem _ hx)
      unfold spW at h2 ⊢
      simp only [List.flatMap_cons, List.length_append, List.length_cons]
      omega
  have wl : ∀ (w : List Nat) (ns : List Nat), w.length ≤ 4 → ns.length ≤ 8 → (∀ n ∈ ns, n < 10 ^ 58) → (spW (wList w ns)).length ≤ 700 := fun w ns hw l8 hn => by
    have h1 : (spW (wList w ns)).length ≤ 59 * (wList w ns).length := sp fun x hx => by
      unfold wList at hx
      split at hx
      · cases hx
      · rcases List.mem_cons.mp hx with rfl | hx
        · omega
        · obtain ⟨n, h1, rfl⟩ := List.mem_map.mp hx
          exact nl (hn n h1)
    have h2 : (wList w ns).length ≤ ns.length + 1 := by
      unfold wList
      split <;> simp
    omega
  have s1 := srtN_len D.out
  have s2 := srtN_len D.also
  obtain ⟨_, _, lo, la, _⟩ := hD
  refine ⟨hb.2, ?_, ?_, wl wNot _ (by decide) (by omega) fun n hn => b3 n ((srtN_mem n _).mp hn), wl wAlso _ (by decide) (by omega) fun n hn => b4 n ((srtN_mem n _).mp hn)⟩
  · unfold wSince
    split
    · have := nl (show D.since < 10 ^ 58 by omega)
      unfold spW
      simp
      omega
    · exact Nat.zero_le _
  · unfold wTill
    cases hT : D.till with
    | none => exact Nat.zero_le _
    | some t =>
      have := nl (show t < 10 ^ 58 by have := b2 t hT; omega)
      unfold spW
      simp
      omega
end
section
inductive CtD where
  | once (ps : List Tr) (ws : List Str)
  | every (ps : List Tr) (ws : List Str) (D : DaysD)
  | as_ (z : Str)
  | join (cs : List CtD)
  | less (c d : CtD)
  | swap (c : CtD) (D : DaysD) (d : CtD)
  | later (c : CtD) (m : Nat)
  | note (c : CtD) (z : Str)
/-- days as a law has drawn them -/
def SomeAt (H : Hp) (t g m : Addr) (D : DaysD) : Prop := H t = some (.tup [.str (SX.S D.bits), .int (D.since : Nat), optV D.till, .ref g, .ref m]) ∧ H g = some (.lst (natV D.out)) ∧ H m = some (.lst (natV D.also))
theorem SomeAt.mono {H H' : Hp} {t g m : Addr} {D : DaysD} (h : SomeAt H t g m D) (e : Ex H H') : SomeAt H' t g m D := ⟨e _ _ h.1, e _ _ h.2.1, e _ _ h.2.2⟩
mutual
/-- the card that is made of it -/
def CtD.card : CtD → CardD
  | .once ps ws => .once ps (srtS ws)
  | .every ps ws D => .every D ps (srtS ws)
  | .as_ z => .as_ z
  | .join cs => .join (cardsC cs)
  | .less c d => .less c.card d.card
  | .swap c D d => .swap c.card D d.card
  | .later c m => .later c.card m
  | .note c z => .noted c.card z
def cardsC : List CtD → List CardD
  | [] => []
  | c :: cs => c.card :: cardsC cs
end
mutual
/-- at t what was drawn; its lists stand at places that N tells -/
def CtN (N : Addr → Prop) (H : Hp) : CtD → Addr → Prop
  | .once ps ws, t => ∃ l as n, H t = some (.tup [.str "once", .ref l, .ref n]) ∧ N l ∧ H l = some (.lst (as.map V.ref)) ∧ LtsAt N H ps as ∧ N n ∧ H n = some (.lst (ws.map V.str))
  | .every ps ws D, t => ∃ l as n x g m, H t = some (.tup [.str "every", .ref l, .ref n, .ref x]) ∧ N l ∧ H l = some (.lst (as.map V.ref)) ∧ LtsAt N H ps as ∧ N n ∧ H n = some (.lst (ws.map V.str)) ∧ SomeAt H x g m D ∧ N g ∧ N m
  | .as_ z, t => H t = some (.tup [.str "as", .str z])
  | .join cs, t => ∃ l as, H t = some (.tup [.str "join", .ref l]) ∧ N l ∧ H l = some (.lst (as.map V.ref)) ∧ CtsN N H cs as
  | .less c d, t => ∃ a b, H t = some (.tup [.str "less", .ref a, .ref b]) ∧ CtN N H c a ∧ CtN N H d b
  | .swap c D d, t => ∃ a x g m b, H t = some (.tup [.str "swap", .ref a, .ref x, .ref b]) ∧ CtN N H c a ∧ SomeAt H x g m D ∧ N g ∧ N m ∧ CtN N H d b
  | .later c m, t => ∃ a, H t = some (.tup [.str "later", .ref a, .int (m : Nat)]) ∧ CtN N H c a
  | .note c z, t => ∃ a, H t = some (.tup [.str "note", .ref a, .str z]) ∧ CtN N H c a
def CtsN (N : Addr → Prop) (H : Hp) : List CtD → List Addr → Prop
  | [], as => as = []
  | c :: cs, as => ∃ a r, as = a :: r ∧ CtN N H c a ∧ CtsN N H cs r
end
/-- tuples stay, and the lists that N tells -/
def keepsA (N M : Addr → Prop) (H H' : Hp) : Prop := (∀ b xs, H b = some (.tup xs) → H' b = some (.tup xs)) ∧ ∀ b xs, N b → H b = some (.lst xs) → M b ∧ H' b = some (.lst xs)
theorem keepsA.t {N M : Addr → Prop} {H H' : Hp} (e : keepsA N M H H') : keepsT N M H H' := ⟨e.1, fun b as n h => e.2 b _ n h⟩
theorem SomeAt.keepA {N M : Addr → Prop} {H H' : Hp} {t g m : Addr} {D : DaysD} (e : keepsA N M H H') (h : SomeAt H t g m D) (ng : N g) (nm : N m) : SomeAt H' t g m D ∧ M g ∧ M m := ⟨⟨e.1 _ _ h.1, (e.2 _ _ ng h.2.1).2, (e.2 _ _ nm h.2.2).2⟩, (e.2 _ _ ng h.2.1).1, (e.2 _ _ nm h.2.2).1⟩
mutual
theorem CtN.keep {N M : Addr → Prop} {H H' : Hp} (e : keepsA N M H H') : ∀ {c : CtD} {t : Addr}, CtN N H c t → CtN M H' c t
  | .once ps ws, t, h => by
    unfold CtN at h ⊢
    obtain ⟨l, as, n, h1, n1, h2, h3, n2, h4⟩ := h
    exact ⟨l, as, n, e.1 _ _ h1, (e.2 _ _ n1 h2).1, (e.2 _ _ n1 h2).2, h3.keep e.t, (e.2 _ _ n2 h4).1, (e.2 _ _ n2 h4).2⟩
  | .every ps ws D, t, h => by
    unfold CtN at h ⊢
    obtain ⟨l, as, n, x, g, m, h1, n1, h2, h3, n2, h4, h5, n3, n4⟩ := h
    obtain ⟨k5, k6, k7⟩ := h5.keepA e n3 n4
    exact ⟨l, as, n, x, g, m, e.1 _ _ h1, (e.2 _ _ n1 h2).1, (e.2 _ _ n1 h2).2, h3.keep e.t, (e.2 _ _ n2 h4).1, (e.2 _ _ n2 h4).2, k5, k6, k7⟩
  | .as_ z, t, h => by
    unfold CtN at h ⊢
    exact e.1 _ _ h
  | .join cs, t, h => by
    unfold CtN at h ⊢
    obtain ⟨l, as, h1, n1, h2, h3⟩ := h
    exact ⟨l, as, e.1 _ _ h1, (e.2 _ _ n1 h2).1, (e.2 _ _ n1 h2).2, CtsN.keep e h3⟩
  | .less c d, t, h => by
    unfold CtN at h ⊢
    obtain ⟨a, b, h1, h2, h3⟩ := h
    exact ⟨a, b, e.1 _ _ h1, CtN.keep e h2, CtN.keep e h3⟩
  | .swap c D d, t, h => by
    unfold CtN at h ⊢
    obtain ⟨a, x, g, m, b, h1, h2, h3, n1, n2, h4⟩ := h
    obtain ⟨k5, k6, k7⟩ := h3.keepA e n1 n2
    exact ⟨a, x, g, m, b, e.1 _ _ h1, CtN.keep e h2, k5, k6, k7, CtN.keep e h4⟩
  | .later c m, t, h => by
    unfold CtN at h ⊢
    obtain ⟨a, h1, h2⟩ := h
    exact ⟨a, e.1 _ _ h1, CtN.keep e h2⟩
  | .note c z, t, h => by
    unfold CtN at h ⊢
    obtain ⟨a, h1, h2⟩ := h
    exact ⟨a, e.1 _ _ h1, CtN.keep e h2⟩
theorem CtsN.keep {N M : Addr → Prop} {H H' : Hp} (e : keepsA N M H H') : ∀ {cs : List CtD} {as : List Addr}, CtsN N H cs as → CtsN M H' cs as
  | [], as, h => by
    unfold CtsN at h ⊢
    exact h
  | c :: cs, as, h => by
    unfold CtsN at h ⊢
    obtain ⟨a, r, h1, h2, h3⟩ := h
    exact ⟨a, r, h1, CtN.keep e h2, CtsN.keep e h3⟩
end
section
variable {N M : Addr → Prop} {H H' : Hp} {c : CtD} {cs : List CtD} {t f p : Addr} {as : List Addr}
theorem keepsA_ex (e : Ex H H') : keepsA N N H H' := ⟨fun b xs z => e _ _ z, fun b as n z => ⟨n, e _ _ z⟩⟩
theorem keepsA_im (e : ∀ b, N b → M b) : keepsA N M H H := ⟨fun b xs z => z, fun b as n z => ⟨e _ n, z⟩⟩
theorem CtN.mono (h : CtN N H c t) (e : Ex H H') : CtN N H' c t := h.keep (keepsA_ex e)
theorem CtsN.mono (h : CtsN N H cs as) (e : Ex H H') : CtsN N H' cs as := h.keep (keepsA_ex e)
theorem CtN.imp (h : CtN N H c t) (e : ∀ b, N b → M b) : CtN M H c t := h.keep (keepsA_im e)
theorem CtsN.imp (h : CtsN N H cs as) (e : ∀ b, N b → M b) : CtsN M H cs as := h.keep (keepsA_im e)
theorem CtsN.len : ∀ {cs : List CtD} {as : List Addr}, CtsN N H cs as → as.length = cs.length
  | [], as, h => by
    unfold CtsN at h
    rw [h]
    rfl
  | c :: cs, as, h => by
    unfold CtsN at h
    obtain ⟨a, r, rfl, _, h3⟩ := h
    rw [List.length_cons, List.length_cons, CtsN.len h3]
theorem CtsN.get : ∀ {cs : List CtD} {as : List Addr} {i : Nat} {a : Addr}, CtsN N H cs as → as[i]? = some a → ∃ c, cs[i]? = some c ∧ CtN N H c a
  | [], as, i, a, h, hi => by
    unfold CtsN at h
    rw [h] at hi
    cases hi
  | c :: cs, as, i, a, h, hi => by
    unfold CtsN at h
    obtain ⟨b, r, rfl, h2, h3⟩ := h
    cases i with
    | zero =>
      cases hi
      exact ⟨c, rfl, h2⟩
    | succ i => exact CtsN.get (i := i) h3 hi
end
def CtD.inn : CtD → List CtD
  | .join cs => cs
  | .less c d => [c, d]
  | .swap c _ d => [c, d]
  | .later c _ => [c]
  | .note c _ => [c]
  | _ => []
theorem cardsC_map (cs : List CtD) : cardsC cs = cs.map CtD.card := by
  induction cs with
  | nil => simp [cardsC]
  | cons x r ih => simp [cardsC, ih]
theorem CtD.inn_card (c : CtD) : c.card.inner = cardsC c.inn := by
  cases c <;> simp [CtD.card, CtD.inn, CardD.inner, cardsC]
/-- parts as they are drawn: rising, few, small -/
def SpsOk (ps : List Tr) : Prop := okL_ ps ∧ nestL ps ≤ 2 ∧ fitL ps ∧ pcsL ps ≤ 40 ∧ sprB ps = true ∧ (momsL ps).Pairwise (· < ·)
def NtsOk (ws : List Str) : Prop := Nms ws ∧ ws.Nodup ∧ ws.length ≤ 3
def DysOk (D : DaysD) : Prop := D.ok ∧ D.fit 58
mutual
/-- what was drawn is right -/
def CtD.tok : CtD → Prop
  | .once ps ws => SpsOk ps ∧ NtsOk ws
  | .every ps ws D => SpsOk ps ∧ NtsOk ws ∧ DysOk D ∧ ∀ n ∈ momsL ps, n < 1440
  | .as_ z => nmN z.cps.toList = true
  | .join cs => toks cs ∧ cs ≠ []
  | .less c d => c.tok ∧ d.tok
  | .swap c D d => c.tok ∧ DysOk D ∧ d.tok
  | .later c m => c.tok ∧ m ≤ 10080
  | .note c z => c.tok ∧ nmN z.cps.toList = true
def toks : List CtD → Prop
  | [] => True
  | c :: cs => c.tok ∧ toks cs
end
theorem toks_mem {c : CtD} : ∀ {cs : List CtD}, toks cs → c ∈ cs → c.tok
  | x :: r, h, m => by
    unfold toks at h
    rcases List.mem_cons.mp m with rfl | m
    · exact h.1
    · exact toks_mem h.2 m
theorem CtD.inn_tok {c d : CtD} (h : c.tok) (m : d ∈ c.inn) : d.tok := by
  cases c with
  | join cs => unfold CtD.tok at h; exact toks_mem h.1 m
  | less a b =>
    unfold CtD.tok at h
    rcases List.mem_cons.mp m with rfl | m
    · exact h.1
    · rw [List.mem_singleton.mp m]; exact h.2
  | swap a D b =>
    unfold CtD.tok at h
    rcases List.mem_cons.mp m with rfl | m
    · exact h.1
    · rw [List.mem_singleton.mp m]; exact h.2.2
  | later a n => unfold CtD.tok at h; rw [List.mem_singleton.mp m]; exact h.1
  | note a z => unfold CtD.tok at h; rw [List.mem_singleton.mp m]; exact h.1
  | _ => exact nomatch m
/-- made since, and not the pot -/
def NewN (H : Hp) (p : Addr) (b : Addr) : Prop := H b = none ∧ b ≠ p
end
section
def spD (D : DaysD) : Nat → List Nat
  | 0 => D.bits ++ spW (wSince D) ++ spW (wTill D)
  | 1 => D.bits ++ spW (wSince D) ++ spW (wTill D) ++ spW (wList wNot (srtN D.out))
  | _ => D.bits ++ spW (wSince D) ++ spW (wTill D) ++ spW (wList wNot (srtN D.out)) ++ spW (wList wAlso (srtN D.also))
def sp__law_days_text (K : PySem.W.Frag) : Sp := fun vs H Q _ => ∃ (t g m : Addr) (D : DaysD), vs = [.ref t] ∧ SomeAt H t g m D ∧ D.ok ∧ D.fit 58 ∧ ∀ H', Ex H H' → Q (.str (SX.S (dtxt D))) H'
theorem fb__law_days_text {P : Program} {w : World} {K : PySem.W.Frag} {mg : Str → Option Value} {base : Heap} (T : Env K mg) : ∃ fd, FunD K "_law_days_text" "_law_days_text" (defArgs s__law_days_text) (defBody s__law_days_text) (defScope s__law_days_text) [] [] (He.ga K "_law_days_text") fd ∧ Fb P w K mg base 1 (He.ga K "_law_days_text") fd ["_law_days_here"] (sp__law_days_text K) := by
  obtain ⟨fd, F⟩ := T.f__law_days_text
  refine ⟨fd, F, fb_of F sc__law_days_text (fun vs H Q E h => ?_) (fun cdv A outer s H vs Q E hr h => ?_)⟩
  · obtain ⟨t, g, m, D, rfl, _⟩ := h
    rfl
  · obtain ⟨t, g, m, D, rfl, hS, hD, hL, q⟩ := h
    refine ⟨_, (pss_cons (ps_asg (pv 0) (pg_tup (by rfl) (pgs_cons (pg_name (i := 1) sc__law_days_text.nd rfl (Or.inl rfl)) (pgs_cons (pg_name (i := 2) sc__law_days_text.nd rfl (Or.inl rfl)) (pgs_cons (pg_name (i := 3) sc__law_days_text.nd rfl (Or.inl rfl)) (pgs_cons (pg_name (i := 4) sc__law_days_text.nd rfl (Or.inl rfl)) (pgs_cons (pg_name (i := 5) sc__law_days_text.nd rfl (Or.inl rfl)) pgs_nil)))))))
      (pss_cons (ps_set (i := 6) sc__law_days_text.nd rfl (Or.inl rfl) (pv 1))
      (Evl.pss_cut (ps_if (pt_cmpR op_gt (pv 2) pe_int (nomark _))
      (pss_one (ps_set (i := 6) sc__law_days_text.nd rfl (Or.inl rfl) (pe_op op_add_str (pe_op op_add_str (pv 6) pe_str) (pe_callTy call_str_int (by rfl) T.n_str (by decide +kernel) (pa_cons (pv 2) pa_nil)))))
      pss_nil)
      (Evl.pss_cut (ps_if (pt_cmpR op_notN (pv 3) pe_non (nomark _))
      (pss_one (ps_set (i := 6) sc__law_days_text.nd rfl (Or.inl rfl) (pe_op op_add_str (pe_op op_add_str (pv 6) pe_str) (pe_callTy call_str_int (by rfl) T.n_str (by decide +kernel) (pa_cons (pv 3) pa_nil)))))
      pss_nil)
      (pss_cons (ps_for (passes_of rfl) rfl (pi_list (pe_lst (pa_cons (pe_tup (pa_cons pe_str (pa_cons (pv 4) pa_nil))) (pa_cons (pe_tup (pa_cons pe_str (pa_cons (pv 5) pa_nil))) pa_nil)))) (pg_tup (by rfl) (pgs_cons (pg_name (i := 7) sc__law_days_text.nd rfl (Or.inl rfl)) (pgs_cons (pg_name (i := 8) sc__law_days_text.nd rfl (Or.inl rfl)) pgs_nil)))
      (Evl.pss_cut (ps_if (pt_cmpR (op_neD hr.rm.units) (pv 8) (pe_lst pa_nil) (nomark _))
      (pss_one (ps_set (i := 6) sc__law_days_text.nd rfl (Or.inl rfl) (pe_op op_add_str (pv 6) (pv 7))))
      pss_nil)
      (pss_one (ps_for (passes_of rfl) rfl (pi_list (pe_callB (cr_sortedA K) (by rfl) T.n_sorted (by decide +kernel) (pa_cons (pv 8) pa_nil))) (pg_name (i := 9) sc__law_days_text.nd rfl (Or.inl rfl))
      (pss_one (ps_set (i := 6) sc__law_days_text.nd rfl (Or.inl rfl) (pe_op op_add_str (pe_op op_add_str (pv 6) pe_str) (pe_callTy call_str_int (by rfl) T.n_str (by decide +kernel) (pa_cons (pv 9) pa_nil)))))))))
      (pss_one (ps_ret (pv 6)))))))), ?_⟩
    obtain ⟨g1, g3, g4⟩ := id hS
    obtain ⟨b1, b2, b3, b4⟩ := id hL
    obtain ⟨z1, z2, z3, z4, z5⟩ := spw_len hD hL
    rw [dtxt_sp] at q
    have big : ∀ {n : Nat}, n < 10 ^ 58 → ((n : Nat) : Int).natAbs.log2 < 1920 := fun {n} h => log_of (Nat.lt_trans (show ((n : Nat) : Int).natAbs < 10 ^ 58 by rw [Int.natAbs_natCast]; exact h) (by decide +kernel))
    have cat : ∀ (a b : List Nat), a.length + b.length ≤ 5000 → (SX.S a).length + (SX.S b).length ≤ sizeLine := fun a b h => sz_le (by rw [SX.S_len, SX.S_len]; omega)
    refine ⟨_, rfl, _, _, rfl, (sq_tup g1), rfl, _, _, rfl, _, _, rfl, _, _, rfl, _, _, rfl, _, _, rfl, rfl, _, rfl, ?_⟩
    refine ⟨fun σ' H' => H' = H ∧ σ' = [some (.ref t), some (.str (SX.S D.bits)), some (.int D.since), some (optV D.till), some (.ref g), some (.ref m), some (.str (SX.S (D.bits ++ spW (wSince D)))), none, none, none], ?_, ?_⟩
    · refine ⟨_, rfl, _, _, rfl, rfl, _, rfl, ?_⟩
      unfold wSince
      by_cases c : 0 < D.since
      · rw [decide_eq_true (show (0 : Int) < ((D.since : Nat) : Int) by omega), if_pos c]
        refine iteT ?_
        refine ⟨_, rfl, _, _, rfl, rfl, cat D.bits [32, 102, 114, 111, 109, 32] (by simp; omega), _, rfl, _, rfl, big (by omega), ?_⟩
        rw [SX.num_S, show Str.ofString " from " = SX.S [32, 102, 114, 111, 109, 32] from rfl, SX.S_cat]
        have nl : (TL.numL D.since).length ≤ 58 := TL.numL_len (by decide) (by omega)
        refine ⟨_, _, rfl, rfl, cat _ _ (by simp; omega), rfl, ?_⟩
        rw [SX.S_cat, show D.bits ++ [32, 102, 114, 111, 109, 32] ++ TL.numL D.since = D.bits ++ spW [wFrom, TL.numL D.since] by simp [spW]]
        rfl
      · rw [decide_eq_false (show ¬ (0 : Int) < ((D.since : Nat) : Int) by omega), if_neg c]
        refine iteF ⟨rfl, ?_⟩
        show _ = [some (.ref t), some (.str (SX.S D.bits)), some (.int D.since), some (optV D.till), some (.ref g), some (.ref m), some (.str (SX.S (D.bits ++ []))), none, none, none]
        rw [List.append_nil]
        rfl
    rintro σ' H1 ⟨rfl, rfl⟩
    refine ⟨fun σ' H' => H' = H1 ∧ σ' = [some (.ref t), some (.str (SX.S D.bits)), some (.int D.since), some (optV D.till), some (.ref g), some (.ref m), some (.str (SX.S (spD D 0))), none, none, none], ?_, ?_⟩
    · refine ⟨_, rfl, rfl, _, rfl, ?_⟩
      unfold spD wTill
      cases hT : D.till with
      | none =>
        refine ⟨rfl, ?_⟩
        show _ = [some (.ref t), some (.str (SX.S D.bits)), some (.int D.since), some (optV none), some (.ref g), some (.ref m), some (.str (SX.S (D.bits ++ spW (wSince D) ++ []))), none, none, none]
        rw [List.append_nil]
      | some u =>
        refine iteT ?_
        have hu := b2 u hT
        refine ⟨_, rfl, _, _, rfl, rfl, cat (D.bits ++ spW (wSince D)) [32, 116, 111, 32] (by simp; omega), _, rfl, _, rfl, big (by omega), ?_⟩
        rw [SX.num_S, show Str.ofString " to " = SX.S [32, 116, 111, 32] from rfl, SX.S_cat]
        have nl : (TL.numL u).length ≤ 58 := TL.numL_len (by decide) (by omega)
        refine ⟨_, _, rfl, rfl, cat _ _ (by simp; omega), rfl, ?_⟩
        rw [SX.S_cat, show D.bits ++ spW (wSince D) ++ [32, 116, 111, 32] ++ TL.numL u = D.bits ++ spW (wSince D) ++ spW [wTo, TL.numL u] by simp [spW]]
        rfl
    rintro σ' H2 ⟨rfl, rfl⟩
    obtain ⟨hs, ht, lo, la, no, na, hdj⟩ := id hD
    have so := srtN_len D.out
    have sa := srtN_len D.also
    have bo : ∀ n ∈ srtN D.out, n < 10 ^ 58 := fun n hn => b3 n ((srtN_mem n _).mp hn)
    have ba : ∀ n ∈ srtN D.also, n < 10 ^ 58 := fun n hn => b4 n ((srtN_mem n _).mp hn)
    have lT : ∀ i, (spD D i).length ≤ 2000 := fun i => by
      unfold spD
      split <;> simp only [List.length_append] <;> omega
    refine ⟨_, rfl, (by show 2 ≤ sizeLine; decide), ?_⟩
    intro a1 na1
    have Xa1 := ex_new (o := HO.tup [V.str (Str.ofString " not"), V.ref g]) na1
    have ha1 : upd H2 a1 (HO.tup [V.str (Str.ofString " not"), V.ref g]) a1 = some (HO.tup [V.str (Str.ofString " not"), V.ref g]) := upd_same
    generalize upd H2 a1 (HO.tup [V.str (Str.ofString " not"), V.ref g]) = Ga1 at Xa1 ha1 ⊢
    refine ⟨_, rfl, (by show 2 ≤ sizeLine; decide), ?_⟩
    intro a2 na2
    have Xa2 := ex_new (o := HO.tup [V.str (Str.ofString " also"), V.ref m]) na2
    have ha2 : upd Ga1 a2 (HO.tup [V.str (Str.ofString " also"), V.ref m]) a2 = some (HO.tup [V.str (Str.ofString " also"), V.ref m]) := upd_same
    generalize upd Ga1 a2 (HO.tup [V.str (Str.ofString " also"), V.ref m]) = Ga2 at Xa2 ha2 ⊢
    refine ⟨(by show 2 ≤ sizeLine; decide), ?_⟩
    intro a3 na3
    have Xa3 := ex_new (o := HO.lst [V.ref a1, V.ref a2]) na3
    have ha3 : upd Ga2 a3 (HO.lst [V.ref a1, V.ref a2]) a3 = some (HO.lst [V.ref a1, V.ref a2]) := upd_same
    generalize upd Ga2 a3 (HO.lst [V.ref a1, V.ref a2]) = Ga3 at Xa3 ha3 ⊢
    have hn1 := Xa3 _ _ (Xa2 _ _ ha1)
    have hn2 := Xa3 _ _ ha2
    have X3 := (Xa1.trans Xa2).trans Xa3
    have item : ∀ i b, [a1, a2][i]? = some b → i < 2 ∧ ∃ (w : List Nat) (ns : List Nat) (g0 : Addr), Ga3 b = some (.tup [.str (SX.S (32 :: w)), .ref g0]) ∧ Ga3 g0 = some (.lst (natV ns)) ∧ ns.length ≤ 8 ∧ (∀ n ∈ srtN ns, n < 10 ^ 58) ∧ w.length ≤ 4 ∧ spD D (i + 1) = spD D i ++ spW (wList w (srtN ns)) := fun i b e => by
      match i, e with
      | 0, e =>
        cases e
        exact ⟨by decide, wNot, D.out, g, hn1, X3 _ _ g3, lo, bo, by decide, rfl⟩
      | 1, e =>
        cases e
        exact ⟨by decide, wAlso, D.also, m, hn2, X3 _ _ g4, la, ba, by decide, rfl⟩
      | i + 2, e => cases e
    refine ⟨_, rfl, ⟨_, (sq_lst ha3)⟩, for_on [a1, a2] V.ref L2.walk_list (fun i σ G => Ex Ga3 G ∧ ∃ v7 v8 v9, σ = [some (.ref t), some (.str (SX.S D.bits)), some (.int D.since), some (optV D.till), some (.ref g), some (.ref m), some (.str (SX.S (spD D i))), v7, v8, v9]) ⟨.refl _, _, _, _, rfl⟩ (fun i σ G z => sq_lst (z.1 _ _ ha3)) ?_ ?_⟩
    · rintro i b σ G hb ⟨XG, v7, v8, v9, rfl⟩
      obtain ⟨i2, w, ns, g0, hb1, hg0, ln, bn, lw, eD⟩ := item i b hb
      have hb2 := XG _ _ hb1
      have hg2 := XG _ _ hg0
      have lB := lT i
      have so := srtN_len ns
      generalize hB : spD D i = B at eD lB ⊢
      rw [eD]
      clear item hb eD hB
      refine ⟨_, _, rfl, sq_tup hb2, rfl, _, _, rfl, _, _, rfl, rfl, ?_⟩
      refine ⟨fun σ' G' => Ex G G' ∧ σ' = [some (.ref t), some (.str (SX.S D.bits)), some (.int D.since), some (optV D.till), some (.ref g), some (.ref m), some (.str (SX.S (if ns = [] then B else B ++ 32 :: w))), some (.str (SX.S (32 :: w))), some (.ref g0), v9], ?_, ?_⟩
      · refine ⟨_, rfl, by show 0 ≤ sizeLine; decide, fun e ne => ?_⟩
        have Y1 := ex_new (o := .lst []) ne
        refine ⟨.list (natD ns), .list [], .lst (sq_lst (Y1 _ _ hg2)) (dp_nat K _ ns), .lst (sq_lst upd_same) .nil, shaped_nat ns, rfl, _, rfl, ?_⟩
        cases ns with
        | nil => exact iteF ⟨Y1, rfl⟩
        | cons n r =>
          refine iteT ?_
          refine ⟨_, rfl, _, rfl, _, _, rfl, rfl, cat B (32 :: w) (by simp; omega), Y1, ?_⟩
          rw [SX.S_cat]
          rfl
      rintro σ' G' ⟨XG', rfl⟩
      have hg3 := XG' _ _ hg2
      refine ⟨_, rfl, g0, _, rfl, .inl (by rw [← nat_int]; exact sq_lst hg3), fun p1 np1 => ?_⟩
      rw [natV_srt]
      have Y2 := ex_new (o := .lst (natV (srtN ns))) np1
      have lC : (if ns = [] then B else B ++ 32 :: w).length ≤ 2010 := by
        split
        · omega
        · simp
          omega
      generalize hC : (if ns = [] then B else B ++ 32 :: w) = C at lC ⊢
      have bw : ∀ j, (spW (((srtN ns).take j).map TL.numL)).length ≤ 59 * j := fun j => by
        have l1 : ∀ l : List Nat, (∀ n ∈ l, n < 10 ^ 58) → (spW (l.map TL.numL)).length ≤ 59 * l.length := fun l h => by
          induction l with
          | nil => exact Nat.zero_le _
          | cons n r ih =>
            have h1 := TL.numL_len (k := 58) (by decide) (h n List.mem_cons_self)
            have h2 := ih fun x hx => h x (List.mem_cons_of_mem _ hx)
            unfold spW at h2 ⊢
            simp only [List.map_cons, List.flatMap_cons, List.length_append, List.length_cons]
            omega
        have h1 := l1 ((srtN ns).take j) fun n hn => bn n (List.mem_of_mem_take hn)
        have h2 : ((srtN ns).take j).length ≤ j := by rw [List.length_take]; omega
        omega
      refine ⟨p1, rfl, ⟨_, sq_lst upd_same⟩, for_on (srtN ns) (fun n : Nat => V.int n) L2.walk_list (fun j σ G2 => Ex (upd G' p1 (.lst (natV (srtN ns)))) G2 ∧ ∃ v, σ = [some (.ref t), some (.str (SX.S D.bits)), some (.int D.since), some (optV D.till), some (.ref g), some (.ref m), some (.str (SX.S (C ++ spW (((srtN ns).take j).map TL.numL)))), some (.str (SX.S (32 :: w))), some (.ref g0), v]) ⟨.refl _, v9, by rw [List.take_zero]; show _ = [some (.ref t), some (.str (SX.S D.bits)), some (.int D.since), some (optV D.till), some (.ref g), some (.ref m), some (.str (SX.S (C ++ []))), some (.str (SX.S (32 :: w))), some (.ref g0), v9]; rw [List.append_nil]⟩ (fun j σ G2 z => sq_lst (z.1 _ _ upd_same)) ?_ ?_⟩
      · rintro j n σ G2 hj ⟨X2, v, rfl⟩
        have nb := bn n (List.mem_of_getElem? hj)
        have nl : (TL.numL n).length ≤ 58 := TL.numL_len (by decide) nb
        have j8 : j < (srtN ns).length := (List.getElem?_eq_some_iff.mp hj).1
        have bj := bw j
        have et : spW (((srtN ns).take (j + 1)).map TL.numL) = spW (((srtN ns).take j).map TL.numL) ++ 32 :: TL.numL n := by
          rw [take_snoc hj, List.map_append]
          unfold spW
          rw [List.flatMap_append]
          simp
        rw [et]
        generalize spW (((srtN ns).take j).map TL.numL) = S1 at bj ⊢
        refine ⟨_, rfl, _, _, rfl, rfl, cat (C ++ S1) [32] (by simp; omega), _, rfl, _, rfl, big nb, ?_⟩
        rw [SX.num_S, show Str.ofString " " = SX.S [32] from rfl, SX.S_cat]
        refine ⟨_, _, rfl, rfl, cat _ _ (by simp; omega), X2, some (.int (n : Nat)), ?_⟩
        rw [SX.S_cat, show C ++ S1 ++ [32] ++ TL.numL n = C ++ (S1 ++ 32 :: TL.numL n) by simp]
        rfl
      · rintro σ G2 ⟨X2, v, rfl⟩
        refine ⟨((XG.trans XG').trans Y2).trans X2, some (.str (SX.S (32 :: w))), some (.ref g0), v, ?_⟩
        have e9 : C ++ spW (((srtN ns).take (srtN ns).length).map TL.numL) = B ++ spW (wList w (srtN ns)) := by
          rw [List.take_length, ← hC]
          unfold wList
          cases ns with
          | nil =>
            rw [if_pos rfl, if_pos (List.eq_nil_of_length_eq_zero (by rw [srtN_len]; rfl)), List.eq_nil_of_length_eq_zero (show (srtN []).length = 0 by rw [srtN_len]; rfl)]
            rfl
          | cons n r =>
            rw [if_neg nofun, if_neg (fun z => by have := srtN_len (n :: r); rw [z] at this; cases this)]
            unfold spW
            simp
        rw [e9]
    · rintro σ G ⟨XG, v7, v8, v9, rfl⟩
      exact ⟨_, rfl, q G (X3.trans XG)⟩
theorem ok__law_days_text {P : Program} {w : World} {K : PySem.W.Frag} {mg : Str → Option Value} {base : Heap} (T : Env K mg) : Fc P w K mg base 1 (He.ga K "_law_days_text") [] (sp__law_days_text K ) := by
  obtain ⟨fd, D, F⟩ := fb__law_days_text T
  exact F.all (D.bindsN fun _ _ _ _ _ _ us hl => match us, hl with | [_], _ => rfl)
end
section
def sp__law_row (K : PySem.W.Frag) : Sp := fun vs H Q _ => ∃ (N : Addr → Prop) (t : Addr) (c : CtD), vs = [.ref t] ∧ CtN N H c t ∧ c.tok ∧ ∀ H', Ex H H' → Q (.str (SX.S (rowTx c.card))) H'
theorem fb__law_row {P : Program} {w : World} {K : PySem.W.Frag} {mg : Str → Option Value} {base : Heap} (T : Env K mg) : ∃ fd, FunD K "_law_row" "_law_row" (defArgs s__law_row) (defBody s__law_row) (defScope s__law_row) [] [] (He.ga K "_law_row") fd ∧ Fb P w K mg base 60 (He.ga K "_law_row") fd ["_law_tree"] (sp__law_row K) := by
  obtain ⟨fd, F⟩ := T.f__law_row
  refine ⟨fd, F, fb_of F sc__law_row (fun vs H Q E h => ?_) (fun cdv A outer s H vs Q E hr h => ?_)⟩
  · obtain ⟨N, t, c, rfl, _⟩ := h
    rfl
  · obtain ⟨N, t, c, rfl, hT, hk, q⟩ := h
    refine ⟨_, (pss_cons (ps_set (i := 1) sc__law_row.nd rfl (Or.inl rfl) (pe_ix ix_tup (pv 0) pe_int (fun _ _ => rfl)))
      (pss_cons (ps_if (pt_cmpR op_eq (pv 1) pe_str (nomark _))
      (pss_one (ps_ret (pe_op op_add_str pe_str (c_call (ok__law_days_text T) (hr.mono (by decide)) T.g__law_days_text T.k__law_days_text takes0 (pa_cons (pe_ix ix_tup (pv 0) pe_int (fun _ _ => rfl)) pa_nil)))))
      pss_nil)
      (pss_cons (ps_if (pt_cmpR op_in_seq (pv 1) (pe_tup (pa_cons pe_str (pa_cons pe_str pa_nil))) (by rfl))
      (pss_one (ps_ret (pe_op op_add_str (pe_op op_add_str (pv 1) pe_str) (pe_orE (pe_callTy call_str_int (by rfl) T.n_str (by decide +kernel) (pa_cons (pe_ix ix_tup (pv 0) pe_int (fun _ _ => rfl)) pa_nil)) (pe_callTy SkE.call_str_str (by rfl) T.n_str (by decide +kernel) (pa_cons (pe_ix ix_tup (pv 0) pe_int (fun _ _ => rfl)) pa_nil))))))
      pss_nil)
      (pss_cons (ps_if (pt_cmpR op_eq (pv 1) pe_str (nomark _))
      (pss_one (ps_ret (pe_op op_add_str pe_str (pe_ix ix_tup (pv 0) pe_int (fun _ _ => rfl)))))
      pss_nil)
      (pss_cons (ps_if (pt_cmpR op_in_seq (pv 1) (pe_tup (pa_cons pe_str (pa_cons pe_str pa_nil))) (by rfl))
      (pss_one (ps_ret (pv 1)))
      pss_nil)
      (pss_cons (ps_set (i := 2) sc__law_row.nd rfl (Or.inl rfl) (pe_op op_add_str pe_str (c_call (all_sptext T 9) (hr.mono (by decide)) T.g__law_spread_text T.k__law_spread_text takes0 (pa_cons (pe_ix ix_tup (pv 0) pe_int (fun _ _ => rfl)) pa_nil))))
      (pss_cons (ps_if (pt_cmpR op_eq (pv 1) pe_str (nomark _))
      (pss_one (ps_set (i := 2) sc__law_row.nd rfl (Or.inl rfl) (pe_op op_add_str (pe_op op_add_str (pe_op op_add_str pe_str (c_call (ok__law_days_text T) (hr.mono (by decide)) T.g__law_days_text T.k__law_days_text takes0 (pa_cons (pe_ix ix_tup (pv 0) pe_int (fun _ _ => rfl)) pa_nil))) pe_str) (c_call (all_sptext T 9) (hr.mono (by decide)) T.g__law_spread_text T.k__law_spread_text takes0 (pa_cons (pe_ix ix_tup (pv 0) pe_int (fun _ _ => rfl)) pa_nil)))))
      pss_nil)
      (pss_cons (ps_if (pt_cmpR (op_neD hr.rm.units) (pe_ix ix_tup (pv 0) pe_int (fun _ _ => rfl)) (pe_lst pa_nil) (nomark _))
      (pss_one (ps_set (i := 2) sc__law_row.nd rfl (Or.inl rfl) (pe_op op_add_str (pe_op op_add_str (pv 2) pe_str) (pe_join pe_str (pe_callB (cr_sortedT K) (by rfl) T.n_sorted (by decide +kernel) (pa_cons (pe_ix ix_tup (pv 0) pe_int (fun _ _ => rfl)) pa_nil))))))
      pss_nil)
      (pss_one (ps_ret (pv 2))))))))))), ?_⟩
    have cat : ∀ (a b : List Nat), a.length + b.length ≤ 100000 → (SX.S a).length + (SX.S b).length ≤ sizeLine := fun a b h => sz_le (by rw [SX.S_len, SX.S_len]; omega)
    cases c with
    | once ps ws =>
      unfold CtN at hT
      obtain ⟨l, as, n, h1, n1, h2, h3, n2, h4⟩ := hT
      refine ⟨_, rfl, _, _, _, _, rfl, rfl, (sq_tup h1), rfl, _, rfl, rfl, _, rfl, _, rfl, (by decide), ?_⟩
      intro a1 na1
      have Xa1 := ex_new (o := HO.tup [V.str (Str.ofString "later"), V.str (Str.ofString "note")]) na1
      have ha1 : upd H a1 (HO.tup [V.str (Str.ofString "later"), V.str (Str.ofString "note")]) a1 = some (HO.tup [V.str (Str.ofString "later"), V.str (Str.ofString "note")]) := upd_same
      generalize upd H a1 (HO.tup [V.str (Str.ofString "later"), V.str (Str.ofString "note")]) = Ga1 at Xa1 ha1 ⊢
      refine ⟨_, _, rfl, (.inr (sq_tup ha1)), rfl, rfl, _, rfl, _, rfl, rfl, _, rfl, _, rfl, (by decide), ?_⟩
      intro a2 na2
      have Xa2 := ex_new (o := HO.tup [V.str (Str.ofString "join"), V.str (Str.ofString "less")]) na2
      have ha2 : upd Ga1 a2 (HO.tup [V.str (Str.ofString "join"), V.str (Str.ofString "less")]) a2 = some (HO.tup [V.str (Str.ofString "join"), V.str (Str.ofString "less")]) := upd_same
      generalize upd Ga1 a2 (HO.tup [V.str (Str.ofString "join"), V.str (Str.ofString "less")]) = Ga2 at Xa2 ha2 ⊢
      refine ⟨_, _, rfl, (.inr (sq_tup ha2)), rfl, rfl, _, rfl, _, rfl, _, _, _, _, rfl, rfl, (sq_tup (Xa2 _ _ (Xa1 _ _ h1))), rfl, _, _, _, _, rfl, (Xa2 _ _ (Xa1 _ _ h2)), ((h3.mono Xa1).mono Xa2), ?_⟩
      unfold CtD.tok at hk
      obtain ⟨⟨k1, k2, k3, k4, k5, k6⟩, kn⟩ := hk
      have rl := rowT_len k3
      refine ⟨by omega, k3, by omega, fun H1 X1 => ?_⟩
      have X01 := (Xa1.trans Xa2).trans X1
      rw [show Str.ofString "once " = SX.S [111, 110, 99, 101, 32] from rfl]
      refine ⟨_, _, rfl, rfl, cat _ _ (by simp; omega), ?_⟩
      rw [SX.S_cat]
      refine ⟨_, rfl, rfl, _, rfl, ?_⟩
      have h11 := X01 _ _ h1
      have h41 := X01 _ _ h4
      refine ⟨_, rfl, _, _, _, _, rfl, rfl, (sq_tup h11), rfl, (by decide), ?_⟩
      intro a3 na3
      have Xa3 := ex_new (o := HO.lst []) na3
      have ha3 : upd H1 a3 (HO.lst []) a3 = some (HO.lst []) := upd_same
      generalize upd H1 a3 (HO.lst []) = Ga3 at Xa3 ha3 ⊢
      have h42 := Xa3 _ _ h41
      refine ⟨_, _, .lst (sq_lst h42) (dp_strs _ _ ws), .lst (sq_lst ha3) .nil, shaped_str kn.1, rfl, _, rfl, ?_⟩
      have X02 := X01.trans Xa3
      have h12 := X02 _ _ h1
      have sw : Nms (srtS ws) := fun z hz => kn.1 z ((srtS_perm ws).mem_iff.mp hz)
      have lw := (srtS_perm ws).length_eq
      have l3 := kn.2.2
      have eR : rowTx (CtD.card (.once ps ws)) = ([111, 110, 99, 101, 32] ++ rowT (txtL ps)) ++ noteTx (srtS ws) := rfl
      rw [eR] at q
      have lB : (([111, 110, 99, 101, 32] ++ rowT (txtL ps))).length ≤ 90000 := by
        simp
        omega
      generalize ([111, 110, 99, 101, 32] ++ rowT (txtL ps)) = B at q lB ⊢
      by_cases c0 : ws = []
      · subst c0
        refine iteF ⟨_, rfl, ?_⟩
        have e0 : noteTx (srtS []) = [] := by
          unfold noteTx
          rw [if_pos (List.eq_nil_of_length_eq_zero (by rw [lw]; rfl))]
        rw [e0, List.append_nil] at q
        exact q _ X02
      · have nn : srtS ws ≠ [] := fun z => c0 (List.eq_nil_of_length_eq_zero (by rw [← lw, z]; rfl))
        have et : (!PyData.eqv (.list (strD ws)) (.list [])) = true := by
          cases ws with
          | nil => exact absurd rfl c0
          | cons w r => rfl
        rw [et]
        refine iteT ?_
        have nl := noteTx_len sw
        refine ⟨_, rfl, _, _, rfl, rfl, cat B [32, 110, 111, 116, 101, 32] (by show _ + 6 ≤ _; omega), ⟨_, rfl⟩, _, rfl, _, _, _, _, rfl, rfl, (sq_tup h12), rfl, n, ws, rfl, .inl (sq_lst h42), fun p np => ?_⟩
        have Xp := ex_new (o := HO.lst ((srtS ws).map V.str)) np
        have h2 := nms_sum _ sw
        refine ⟨_, p, srtS ws, rfl, rfl, .inl (sq_lst upd_same), ?_, ?_⟩
        · rw [show (Str.ofString " ").length = 1 from rfl]
          omega
        · rw [join_names, show Str.ofString " note " = SX.S [32, 110, 111, 116, 101, 32] from rfl, SX.S_cat]
          have en : noteTx (srtS ws) = [32, 110, 111, 116, 101, 32] ++ TL.joinL [32] ((srtS ws).map fun z => z.cps.toList) := by
            unfold noteTx
            rw [if_neg nn]
          rw [en] at q nl
          refine ⟨_, _, rfl, rfl, cat _ _ (by rw [List.length_append] at nl ⊢; have : ([32, 110, 111, 116, 101, 32] : List Nat).length = 6 := rfl; omega), ?_⟩
          rw [SX.S_cat, List.append_assoc]
          exact ⟨_, rfl, q _ (X02.trans Xp)⟩
    | every ps ws D =>
      unfold CtN at hT
      obtain ⟨l, as, n, x, g, m, h1, n1, h2, h3, n2, h4, h5, n3, n4⟩ := hT
      refine ⟨_, rfl, _, _, _, _, rfl, rfl, (sq_tup h1), rfl, _, rfl, rfl, _, rfl, _, rfl, (by decide), ?_⟩
      intro a1 na1
      have Xa1 := ex_new (o := HO.tup [V.str (Str.ofString "later"), V.str (Str.ofString "note")]) na1
      have ha1 : upd H a1 (HO.tup [V.str (Str.ofString "later"), V.str (Str.ofString "note")]) a1 = some (HO.tup [V.str (Str.ofString "later"), V.str (Str.ofString "note")]) := upd_same
      generalize upd H a1 (HO.tup [V.str (Str.ofString "later"), V.str (Str.ofString "note")]) = Ga1 at Xa1 ha1 ⊢
      refine ⟨_, _, rfl, (.inr (sq_tup ha1)), rfl, rfl, _, rfl, _, rfl, rfl, _, rfl, _, rfl, (by decide), ?_⟩
      intro a2 na2
      have Xa2 := ex_new (o := HO.tup [V.str (Str.ofString "join"), V.str (Str.ofString "less")]) na2
      have ha2 : upd Ga1 a2 (HO.tup [V.str (Str.ofString "join"), V.str (Str.ofString "less")]) a2 = some (HO.tup [V.str (Str.ofString "join"), V.str (Str.ofString "less")]) := upd_same
      generalize upd Ga1 a2 (HO.tup [V.str (Str.ofString "join"), V.str (Str.ofString "less")]) = Ga2 at Xa2 ha2 ⊢
      refine ⟨_, _, rfl, (.inr (sq_tup ha2)), rfl, rfl, _, rfl, _, rfl, _, _, _, _, rfl, rfl, (sq_tup (Xa2 _ _ (Xa1 _ _ h1))), rfl, _, _, _, _, rfl, (Xa2 _ _ (Xa1 _ _ h2)), ((h3.mono Xa1).mono Xa2), ?_⟩
      unfold CtD.tok at hk
      obtain ⟨⟨k1, k2, k3, k4, k5, k6⟩, kn, ⟨kd, kf⟩, _⟩ := hk
      have rl := rowT_len k3
      have dl := dtxt_len kd ⟨Nat.lt_trans kf.1 (by decide +kernel), fun t e => Nat.lt_trans (kf.2.1 t e) (by decide +kernel), fun t e => Nat.lt_trans (kf.2.2.1 t e) (by decide +kernel), fun t e => Nat.lt_trans (kf.2.2.2 t e) (by decide +kernel)⟩
      refine ⟨by omega, k3, by omega, fun H0 Z0 => ?_⟩
      have Z1 := (Xa1.trans Xa2).trans Z0
      rw [show Str.ofString "once " = SX.S [111, 110, 99, 101, 32] from rfl]
      refine ⟨_, _, rfl, rfl, cat _ _ (by simp; omega), ?_⟩
      rw [SX.S_cat]
      refine ⟨_, rfl, rfl, _, rfl, iteT ?_⟩
      have h10 := Z1 _ _ h1
      have h50 := h5.mono Z1
      refine ⟨_, rfl, _, _, _, _, rfl, rfl, (sq_tup h10), rfl, x, g, m, D, rfl, h50, kd, kf, fun H1 X1 => ?_⟩
      rw [show Str.ofString "every " = SX.S [101, 118, 101, 114, 121, 32] from rfl]
      refine ⟨_, _, rfl, rfl, cat _ _ (by simp; omega), ?_⟩
      rw [SX.S_cat, show Str.ofString " at " = SX.S [32, 97, 116, 32] from rfl]
      refine ⟨_, _, rfl, rfl, cat _ _ (by simp; omega), ?_⟩
      rw [SX.S_cat]
      refine ⟨_, rfl, _, _, _, _, rfl, rfl, (sq_tup (X1 _ _ h10)), rfl, N, l, as, ps, rfl, X1 _ _ (Z1 _ _ h2), (h3.mono Z1).mono X1, by omega, k3, by omega, fun H2 X2 => ?_⟩
      refine ⟨_, _, rfl, rfl, cat _ _ (by simp; omega), ?_⟩
      rw [SX.S_cat]
      have X01 := (Z1.trans X1).trans X2
      have h11 := X01 _ _ h1
      have h41 := X01 _ _ h4
      refine ⟨_, rfl, _, _, _, _, rfl, rfl, (sq_tup h11), rfl, (by decide), ?_⟩
      intro a3 na3
      have Xa3 := ex_new (o := HO.lst []) na3
      have ha3 : upd H2 a3 (HO.lst []) a3 = some (HO.lst []) := upd_same
      generalize upd H2 a3 (HO.lst []) = Ga3 at Xa3 ha3 ⊢
      have h42 := Xa3 _ _ h41
      refine ⟨_, _, .lst (sq_lst h42) (dp_strs _ _ ws), .lst (sq_lst ha3) .nil, shaped_str kn.1, rfl, _, rfl, ?_⟩
      have X02 := X01.trans Xa3
      have h12 := X02 _ _ h1
      have sw : Nms (srtS ws) := fun z hz => kn.1 z ((srtS_perm ws).mem_iff.mp hz)
      have lw := (srtS_perm ws).length_eq
      have l3 := kn.2.2
      have eR : rowTx (CtD.card (.every ps ws D)) = ([101, 118, 101, 114, 121, 32] ++ dtxt D ++ [32, 97, 116, 32] ++ rowT (txtL ps)) ++ noteTx (srtS ws) := rfl
      rw [eR] at q
      have lB : (([101, 118, 101, 114, 121, 32] ++ dtxt D ++ [32, 97, 116, 32] ++ rowT (txtL ps))).length ≤ 90000 := by
        simp
        omega
      generalize ([101, 118, 101, 114, 121, 32] ++ dtxt D ++ [32, 97, 116, 32] ++ rowT (txtL ps)) = B at q lB ⊢
      by_cases c0 : ws = []
      · subst c0
        refine iteF ⟨_, rfl, ?_⟩
        have e0 : noteTx (srtS []) = [] := by
          unfold noteTx
          rw [if_pos (List.eq_nil_of_length_eq_zero (by rw [lw]; rfl))]
        rw [e0, List.append_nil] at q
        exact q _ X02
      · have nn : srtS ws ≠ [] := fun z => c0 (List.eq_nil_of_length_eq_zero (by rw [← lw, z]; rfl))
        have et : (!PyData.eqv (.list (strD ws)) (.list [])) = true := by
          cases ws with
          | nil => exact absurd rfl c0
          | cons w r => rfl
        rw [et]
        refine iteT ?_
        have nl := noteTx_len sw
        refine ⟨_, rfl, _, _, rfl, rfl, cat B [32, 110, 111, 116, 101, 32] (by show _ + 6 ≤ _; omega), ⟨_, rfl⟩, _, rfl, _, _, _, _, rfl, rfl, (sq_tup h12), rfl, n, ws, rfl, .inl (sq_lst h42), fun p np => ?_⟩
        have Xp := ex_new (o := HO.lst ((srtS ws).map V.str)) np
        have h2 := nms_sum _ sw
        refine ⟨_, p, srtS ws, rfl, rfl, .inl (sq_lst upd_same), ?_, ?_⟩
        · rw [show (Str.ofString " ").length = 1 from rfl]
          omega
        · rw [join_names, show Str.ofString " note " = SX.S [32, 110, 111, 116, 101, 32] from rfl, SX.S_cat]
          have en : noteTx (srtS ws) = [32, 110, 111, 116, 101, 32] ++ TL.joinL [32] ((srtS ws).map fun z => z.cps.toList) := by
            unfold noteTx
            rw [if_neg nn]
          rw [en] at q nl
          refine ⟨_, _, rfl, rfl, cat _ _ (by rw [List.length_append] at nl ⊢; have : ([32, 110, 111, 116, 101, 32] : List Nat).length = 6 := rfl; omega), ?_⟩
          rw [SX.S_cat, List.append_assoc]
          exact ⟨_, rfl, q _ (X02.trans Xp)⟩
    | as_ z =>
      unfold CtN at hT
      refine ⟨_, rfl, _, _, _, _, rfl, rfl, (sq_tup hT), rfl, _, rfl, rfl, _, rfl, _, rfl, (by decide), ?_⟩
      intro a1 na1
      have Xa1 := ex_new (o := HO.tup [V.str (Str.ofString "later"), V.str (Str.ofString "note")]) na1
      have ha1 : upd H a1 (HO.tup [V.str (Str.ofString "later"), V.str (Str.ofString "note")]) a1 = some (HO.tup [V.str (Str.ofString "later"), V.str (Str.ofString "note")]) := upd_same
      generalize upd H a1 (HO.tup [V.str (Str.ofString "later"), V.str (Str.ofString "note")]) = Ga1 at Xa1 ha1 ⊢
      refine ⟨_, _, rfl, (.inr (sq_tup ha1)), rfl, rfl, _, rfl, _, rfl, rfl, _, rfl, _, rfl, _, _, _, _, rfl, rfl, (sq_tup (Xa1 _ _ hT)), rfl, _, _, rfl, rfl, ?_⟩
      unfold CtD.tok at hk
      have lz := (nm_facts hk).2.1
      have ez : SX.S z.cps.toList = z := S_of z
      refine ⟨by rw [← ez, show Str.ofString "as " = SX.S [97, 115, 32] from rfl]; exact cat [97, 115, 32] z.cps.toList (by show 3 + _ ≤ _; omega), ?_⟩
      rw [show Str.ofString "as " ++ z = SX.S ([97, 115, 32] ++ z.cps.toList) by rw [← SX.S_cat, ez]; rfl]
      exact q _ Xa1
    | join cs =>
      unfold CtN at hT
      obtain ⟨l, as, h1, n1, h2, h3⟩ := hT
      refine ⟨_, rfl, _, _, _, _, rfl, rfl, (sq_tup h1), rfl, _, rfl, rfl, _, rfl, _, rfl, (by decide), ?_⟩
      intro a1 na1
      have Xa1 := ex_new (o := HO.tup [V.str (Str.ofString "later"), V.str (Str.ofString "note")]) na1
      have ha1 : upd H a1 (HO.tup [V.str (Str.ofString "later"), V.str (Str.ofString "note")]) a1 = some (HO.tup [V.str (Str.ofString "later"), V.str (Str.ofString "note")]) := upd_same
      generalize upd H a1 (HO.tup [V.str (Str.ofString "later"), V.str (Str.ofString "note")]) = Ga1 at Xa1 ha1 ⊢
      refine ⟨_, _, rfl, (.inr (sq_tup ha1)), rfl, rfl, _, rfl, _, rfl, rfl, _, rfl, _, rfl, (by decide), ?_⟩
      intro a2 na2
      have Xa2 := ex_new (o := HO.tup [V.str (Str.ofString "join"), V.str (Str.ofString "less")]) na2
      have ha2 : upd Ga1 a2 (HO.tup [V.str (Str.ofString "join"), V.str (Str.ofString "less")]) a2 = some (HO.tup [V.str (Str.ofString "join"), V.str (Str.ofString "less")]) := upd_same
      generalize upd Ga1 a2 (HO.tup [V.str (Str.ofString "join"), V.str (Str.ofString "less")]) = Ga2 at Xa2 ha2 ⊢
      refine ⟨_, _, rfl, (.inr (sq_tup ha2)), rfl, rfl, _, rfl, _, rfl, ?_⟩
      try dsimp only [tNil]
      exact q _ (Xa1.trans Xa2)
    | less c d =>
      unfold CtN at hT
      obtain ⟨a, b, h1, h2, h3⟩ := hT
      refine ⟨_, rfl, _, _, _, _, rfl, rfl, (sq_tup h1), rfl, _, rfl, rfl, _, rfl, _, rfl, (by decide), ?_⟩
      intro a1 na1
      have Xa1 := ex_new (o := HO.tup [V.str (Str.ofString "later"), V.str (Str.ofString "note")]) na1
      have ha1 : upd H a1 (HO.tup [V.str (Str.ofString "later"), V.str (Str.ofString "note")]) a1 = some (HO.tup [V.str (Str.ofString "later"), V.str (Str.ofString "note")]) := upd_same
      generalize upd H a1 (HO.tup [V.str (Str.ofString "later"), V.str (Str.ofString "note")]) = Ga1 at Xa1 ha1 ⊢
      refine ⟨_, _, rfl, (.inr (sq_tup ha1)), rfl, rfl, _, rfl, _, rfl, rfl, _, rfl, _, rfl, (by decide), ?_⟩
      intro a2 na2
      have Xa2 := ex_new (o := HO.tup [V.str (Str.ofString "join"), V.str (Str.ofString "less")]) na2
      have ha2 : upd Ga1 a2 (HO.tup [V.str (Str.ofString "join"), V.str (Str.ofString "less")]) a2 = some (HO.tup [V.str (Str.ofString "join"), V.str (Str.ofString "less")]) := upd_same
      generalize upd Ga1 a2 (HO.tup [V.str (Str.ofString "join"), V.str (Str.ofString "less")]) = Ga2 at Xa2 ha2 ⊢
      refine ⟨_, _, rfl, (.inr (sq_tup ha2)), rfl, rfl, _, rfl, _, rfl, ?_⟩
      try dsimp only [tNil]
      exact q _ (Xa1.trans Xa2)
    | swap c D d =>
      unfold CtN at hT
      obtain ⟨a, x, g, m, b, h1, h2, h3, n1, n2, h4⟩ := hT
      refine ⟨_, rfl, _, _, _, _, rfl, rfl, (sq_tup h1), rfl, _, rfl, rfl, _, rfl, _, rfl, _, _, _, _, rfl, rfl, (sq_tup h1), rfl, _, _, _, _, rfl, h3, ?_⟩
      unfold CtD.tok at hk
      obtain ⟨k1, ⟨k2, k3⟩, k4⟩ := hk
      have dl := dtxt_len k2 ⟨Nat.lt_trans k3.1 (by decide +kernel), fun t e => Nat.lt_trans (k3.2.1 t e) (by decide +kernel), fun t e => Nat.lt_trans (k3.2.2.1 t e) (by decide +kernel), fun t e => Nat.lt_trans (k3.2.2.2 t e) (by decide +kernel)⟩
      refine ⟨k2, k3, fun H1 X1 => ?_⟩
      rw [show Str.ofString "swap " = SX.S [115, 119, 97, 112, 32] from rfl]
      refine ⟨_, _, rfl, rfl, cat _ _ (by simp; omega), ?_⟩
      rw [SX.S_cat]
      exact q H1 X1
    | later c m =>
      unfold CtN at hT
      obtain ⟨a, h1, h2⟩ := hT
      refine ⟨_, rfl, _, _, _, _, rfl, rfl, (sq_tup h1), rfl, _, rfl, rfl, _, rfl, _, rfl, (by decide), ?_⟩
      intro a1 na1
      have Xa1 := ex_new (o := HO.tup [V.str (Str.ofString "later"), V.str (Str.ofString "note")]) na1
      have ha1 : upd H a1 (HO.tup [V.str (Str.ofString "later"), V.str (Str.ofString "note")]) a1 = some (HO.tup [V.str (Str.ofString "later"), V.str (Str.ofString "note")]) := upd_same
      generalize upd H a1 (HO.tup [V.str (Str.ofString "later"), V.str (Str.ofString "note")]) = Ga1 at Xa1 ha1 ⊢
      refine ⟨_, _, rfl, (.inr (sq_tup ha1)), rfl, rfl, _, rfl, _, rfl, _, _, rfl, rfl, (by decide), ?_⟩
      try dsimp only [tNil]
      unfold CtD.tok at hk
      have nl := TL.numL_len (k := 6) (n := m) (by decide) (Nat.lt_of_le_of_lt hk.2 (by decide))
      refine .inl ⟨_, rfl, _, _, _, _, rfl, rfl, (sq_tup (Xa1 _ _ h1)), rfl, _, rfl, log_of (Nat.lt_of_le_of_lt hk.2 (by decide +kernel)), ?_⟩
      rw [SX.num_S, show Str.ofString "later" ++ Str.ofString " " = SX.S [108, 97, 116, 101, 114, 32] from rfl]
      refine ⟨_, _, rfl, rfl, cat _ _ (by simp; omega), ?_⟩
      rw [SX.S_cat]
      exact q _ Xa1
    | note c z =>
      unfold CtN at hT
      obtain ⟨a, h1, h2⟩ := hT
      refine ⟨_, rfl, _, _, _, _, rfl, rfl, (sq_tup h1), rfl, _, rfl, rfl, _, rfl, _, rfl, (by decide), ?_⟩
      intro a1 na1
      have Xa1 := ex_new (o := HO.tup [V.str (Str.ofString "later"), V.str (Str.ofString "note")]) na1
      have ha1 : upd H a1 (HO.tup [V.str (Str.ofString "later"), V.str (Str.ofString "note")]) a1 = some (HO.tup [V.str (Str.ofString "later"), V.str (Str.ofString "note")]) := upd_same
      generalize upd H a1 (HO.tup [V.str (Str.ofString "later"), V.str (Str.ofString "note")]) = Ga1 at Xa1 ha1 ⊢
      refine ⟨_, _, rfl, (.inr (sq_tup ha1)), rfl, rfl, _, rfl, _, rfl, _, _, rfl, rfl, (by decide), ?_⟩
      try dsimp only [tNil]
      unfold CtD.tok at hk
      have lz := (nm_facts hk.2).2.1
      have ez : SX.S z.cps.toList = z := S_of z
      refine .inr ⟨_, rfl, _, _, _, _, rfl, rfl, (sq_tup (Xa1 _ _ h1)), rfl, _, rfl, ?_⟩
      rw [show Str.ofString "note" ++ Str.ofString " " = SX.S [110, 111, 116, 101, 32] from rfl]
      refine ⟨_, _, rfl, rfl, by rw [← ez]; exact cat [110, 111, 116, 101, 32] z.cps.toList (by show 5 + _ ≤ _; omega), ?_⟩
      rw [show SX.S [110, 111, 116, 101, 32] ++ z = SX.S ([110, 111, 116, 101, 32] ++ z.cps.toList) by rw [← SX.S_cat, ez]]
      exact q _ Xa1
theorem ok__law_row {P : Program} {w : World} {K : PySem.W.Frag} {mg : Str → Option Value} {base : Heap} (T : Env K mg) : Fc P w K mg base 60 (He.ga K "_law_row") [] (sp__law_row K ) := by
  obtain ⟨fd, D, F⟩ := fb__law_row T
  exact F.all (D.bindsN fun _ _ _ _ _ _ us hl => match us, hl with | [_], _ => rfl)
end
section
def sp__law_inner (K : PySem.W.Frag) : Sp := fun vs H Q _ => ∃ (N : Addr → Prop) (t : Addr) (c : CtD), vs = [.ref t] ∧ CtN N H c t ∧ ∀ p as H', Ex H H' → H' p = some (.lst (as.map V.ref)) → CtsN N H' c.inn as → Q (.ref p) H'
theorem CtsN.one {N : Addr → Prop} {H : Hp} {c : CtD} {a : Addr} (h : CtN N H c a) : CtsN N H [c] [a] := by
  unfold CtsN
  exact ⟨a, [], rfl, h, by unfold CtsN; rfl⟩
theorem CtsN.two {N : Addr → Prop} {H : Hp} {c d : CtD} {a b : Addr} (h : CtN N H c a) (k : CtN N H d b) : CtsN N H [c, d] [a, b] := by
  unfold CtsN
  exact ⟨a, [b], rfl, h, .one k⟩
theorem CtsN.nil {N : Addr → Prop} {H : Hp} : CtsN N H [] [] := by
  unfold CtsN
  rfl
theorem fb__law_inner {P : Program} {w : World} {K : PySem.W.Frag} {mg : Str → Option Value} {base : Heap} (T : Env K mg) : ∃ fd, FunD K "_law_inner" "_law_inner" (defArgs s__law_inner) (defBody s__law_inner) (defScope s__law_inner) [] [] (He.ga K "_law_inner") fd ∧ Fb P w K mg base 1 (He.ga K "_law_inner") fd ["_law_tree"] (sp__law_inner K) := by
  obtain ⟨fd, F⟩ := T.f__law_inner
  refine ⟨fd, F, fb_of F sc__law_inner (fun vs H Q E h => ?_) (fun cdv A outer s H vs Q E hr h => ?_)⟩
  · obtain ⟨N, t, c, rfl, _⟩ := h
    rfl
  · obtain ⟨N, t, c, rfl, hT, q⟩ := h
    refine ⟨_, (pss_cons (ps_if (pt_cmpR op_eq (pe_ix ix_tup (pv 0) pe_int (fun _ _ => rfl)) pe_str (nomark _))
      (pss_one (ps_ret (pe_ix ix_tup (pv 0) pe_int (fun _ _ => rfl))))
      pss_nil)
      (pss_cons (ps_if (pt_cmpR op_in_seq (pe_ix ix_tup (pv 0) pe_int (fun _ _ => rfl)) (pe_tup (pa_cons pe_str (pa_cons pe_str pa_nil))) (by rfl))
      (pss_one (ps_ret (pe_lst (pa_cons (pe_ix ix_tup (pv 0) pe_int (fun _ _ => rfl)) pa_nil))))
      pss_nil)
      (pss_cons (ps_if (pt_cmpR op_eq (pe_ix ix_tup (pv 0) pe_int (fun _ _ => rfl)) pe_str (nomark _))
      (pss_one (ps_ret (pe_lst (pa_cons (pe_ix ix_tup (pv 0) pe_int (fun _ _ => rfl)) (pa_cons (pe_ix ix_tup (pv 0) pe_int (fun _ _ => rfl)) pa_nil)))))
      pss_nil)
      (pss_cons (ps_if (pt_cmpR op_eq (pe_ix ix_tup (pv 0) pe_int (fun _ _ => rfl)) pe_str (nomark _))
      (pss_one (ps_ret (pe_lst (pa_cons (pe_ix ix_tup (pv 0) pe_int (fun _ _ => rfl)) (pa_cons (pe_ix ix_tup (pv 0) pe_int (fun _ _ => rfl)) pa_nil)))))
      pss_nil)
      (pss_one (ps_ret (pe_lst pa_nil))))))), ?_⟩
    cases c with
    | once ps ws =>
      unfold CtN at hT
      obtain ⟨l, as, n, h1, n1, h2, h3, n2, h4⟩ := hT
      refine ⟨_, rfl, _, _, _, _, rfl, rfl, (sq_tup h1), rfl, rfl, _, rfl, _, rfl, _, _, _, _, rfl, rfl, (sq_tup h1), rfl, (by decide), ?_⟩
      intro a1 na1
      have Xa1 := ex_new (o := HO.tup [V.str (Str.ofString "later"), V.str (Str.ofString "note")]) na1
      have ha1 : upd H a1 (HO.tup [V.str (Str.ofString "later"), V.str (Str.ofString "note")]) a1 = some (HO.tup [V.str (Str.ofString "later"), V.str (Str.ofString "note")]) := upd_same
      generalize upd H a1 (HO.tup [V.str (Str.ofString "later"), V.str (Str.ofString "note")]) = Ga1 at Xa1 ha1 ⊢
      refine ⟨_, _, rfl, (.inr (sq_tup ha1)), rfl, rfl, _, rfl, _, rfl, _, _, _, _, rfl, rfl, (sq_tup (Xa1 _ _ h1)), rfl, rfl, _, rfl, _, rfl, _, _, _, _, rfl, rfl, (sq_tup (Xa1 _ _ h1)), rfl, rfl, _, rfl, (by decide), ?_⟩
      intro a2 na2
      have Xa2 := ex_new (o := HO.lst []) na2
      have ha2 : upd Ga1 a2 (HO.lst []) a2 = some (HO.lst []) := upd_same
      generalize upd Ga1 a2 (HO.lst []) = Ga2 at Xa2 ha2 ⊢
      try dsimp only [tNil]
      exact q a2 [] _ (Xa1.trans Xa2) ha2 .nil
    | every ps ws D =>
      unfold CtN at hT
      obtain ⟨l, as, n, x, g, m, h1, n1, h2, h3, n2, h4, h5, n3, n4⟩ := hT
      refine ⟨_, rfl, _, _, _, _, rfl, rfl, (sq_tup h1), rfl, rfl, _, rfl, _, rfl, _, _, _, _, rfl, rfl, (sq_tup h1), rfl, (by decide), ?_⟩
      intro a1 na1
      have Xa1 := ex_new (o := HO.tup [V.str (Str.ofString "later"), V.str (Str.ofString "note")]) na1
      have ha1 : upd H a1 (HO.tup [V.str (Str.ofString "later"), V.str (Str.ofString "note")]) a1 = some (HO.tup [V.str (Str.ofString "later"), V.str (Str.ofString "note")]) := upd_same
      generalize upd H a1 (HO.tup [V.str (Str.ofString "later"), V.str (Str.ofString "note")]) = Ga1 at Xa1 ha1 ⊢
      refine ⟨_, _, rfl, (.inr (sq_tup ha1)), rfl, rfl, _, rfl, _, rfl, _, _, _, _, rfl, rfl, (sq_tup (Xa1 _ _ h1)), rfl, rfl, _, rfl, _, rfl, _, _, _, _, rfl, rfl, (sq_tup (Xa1 _ _ h1)), rfl, rfl, _, rfl, (by decide), ?_⟩
      intro a2 na2
      have Xa2 := ex_new (o := HO.lst []) na2
      have ha2 : upd Ga1 a2 (HO.lst []) a2 = some (HO.lst []) := upd_same
      generalize upd Ga1 a2 (HO.lst []) = Ga2 at Xa2 ha2 ⊢
      try dsimp only [tNil]
      exact q a2 [] _ (Xa1.trans Xa2) ha2 .nil
    | as_ z =>
      unfold CtN at hT
      refine ⟨_, rfl, _, _, _, _, rfl, rfl, (sq_tup hT), rfl, rfl, _, rfl, _, rfl, _, _, _, _, rfl, rfl, (sq_tup hT), rfl, (by decide), ?_⟩
      intro a1 na1
      have Xa1 := ex_new (o := HO.tup [V.str (Str.ofString "later"), V.str (Str.ofString "note")]) na1
      have ha1 : upd H a1 (HO.tup [V.str (Str.ofString "later"), V.str (Str.ofString "note")]) a1 = some (HO.tup [V.str (Str.ofString "later"), V.str (Str.ofString "note")]) := upd_same
      generalize upd H a1 (HO.tup [V.str (Str.ofString "later"), V.str (Str.ofString "note")]) = Ga1 at Xa1 ha1 ⊢
      refine ⟨_, _, rfl, (.inr (sq_tup ha1)), rfl, rfl, _, rfl, _, rfl, _, _, _, _, rfl, rfl, (sq_tup (Xa1 _ _ hT)), rfl, rfl, _, rfl, _, rfl, _, _, _, _, rfl, rfl, (sq_tup (Xa1 _ _ hT)), rfl, rfl, _, rfl, (by decide), ?_⟩
      intro a2 na2
      have Xa2 := ex_new (o := HO.lst []) na2
      have ha2 : upd Ga1 a2 (HO.lst []) a2 = some (HO.lst []) := upd_same
      generalize upd Ga1 a2 (HO.lst []) = Ga2 at Xa2 ha2 ⊢
      try dsimp only [tNil]
      exact q a2 [] _ (Xa1.trans Xa2) ha2 .nil
    | join cs =>
      unfold CtN at hT
      obtain ⟨l, as, h1, n1, h2, h3⟩ := hT
      refine ⟨_, rfl, _, _, _, _, rfl, rfl, (sq_tup h1), rfl, rfl, _, rfl, _, rfl, _, _, _, _, rfl, rfl, (sq_tup h1), rfl, ?_⟩
      try dsimp only [tNil]
      exact q l as H (.refl H) h2 h3
    | less c d =>
      unfold CtN at hT
      obtain ⟨a, b, h1, h2, h3⟩ := hT
      refine ⟨_, rfl, _, _, _, _, rfl, rfl, (sq_tup h1), rfl, rfl, _, rfl, _, rfl, _, _, _, _, rfl, rfl, (sq_tup h1), rfl, (by decide), ?_⟩
      intro a1 na1
      have Xa1 := ex_new (o := HO.tup [V.str (Str.ofString "later"), V.str (Str.ofString "note")]) na1
      have ha1 : upd H a1 (HO.tup [V.str (Str.ofString "later"), V.str (Str.ofString "note")]) a1 = some (HO.tup [V.str (Str.ofString "later"), V.str (Str.ofString "note")]) := upd_same
      generalize upd H a1 (HO.tup [V.str (Str.ofString "later"), V.str (Str.ofString "note")]) = Ga1 at Xa1 ha1 ⊢
      refine ⟨_, _, rfl, (.inr (sq_tup ha1)), rfl, rfl, _, rfl, _, rfl, _, _, _, _, rfl, rfl, (sq_tup (Xa1 _ _ h1)), rfl, rfl, _, rfl, _, rfl, _, _, _, _, rfl, rfl, (sq_tup (Xa1 _ _ h1)), rfl, _, rfl, _, _, _, _, rfl, rfl, (sq_tup (Xa1 _ _ h1)), rfl, (by show 2 ≤ sizeLine; decide), ?_⟩
      intro a2 na2
      have Xa2 := ex_new (o := HO.lst [V.ref a, V.ref b]) na2
      have ha2 : upd Ga1 a2 (HO.lst [V.ref a, V.ref b]) a2 = some (HO.lst [V.ref a, V.ref b]) := upd_same
      generalize upd Ga1 a2 (HO.lst [V.ref a, V.ref b]) = Ga2 at Xa2 ha2 ⊢
      try dsimp only [tNil]
      exact q a2 [a, b] _ (Xa1.trans Xa2) ha2 (.two (h2.mono (Xa1.trans Xa2)) (h3.mono (Xa1.trans Xa2)))
    | swap c D d =>
      unfold CtN at hT
      obtain ⟨a, x, g, m, b, h1, h2, h3, n1, n2, h4⟩ := hT
      refine ⟨_, rfl, _, _, _, _, rfl, rfl, (sq_tup h1), rfl, rfl, _, rfl, _, rfl, _, _, _, _, rfl, rfl, (sq_tup h1), rfl, (by decide), ?_⟩
      intro a1 na1
      have Xa1 := ex_new (o := HO.tup [V.str (Str.ofString "later"), V.str (Str.ofString "note")]) na1
      have ha1 : upd H a1 (HO.tup [V.str (Str.ofString "later"), V.str (Str.ofString "note")]) a1 = some (HO.tup [V.str (Str.ofString "later"), V.str (Str.ofString "note")]) := upd_same
      generalize upd H a1 (HO.tup [V.str (Str.ofString "later"), V.str (Str.ofString "note")]) = Ga1 at Xa1 ha1 ⊢
      refine ⟨_, _, rfl, (.inr (sq_tup ha1)), rfl, rfl, _, rfl, _, rfl, _, _, _, _, rfl, rfl, (sq_tup (Xa1 _ _ h1)), rfl, rfl, _, rfl, _, rfl, _, _, _, _, rfl, rfl, (sq_tup (Xa1 _ _ h1)), rfl, rfl, _, rfl, _, rfl, _, _, _, _, rfl, rfl, (sq_tup (Xa1 _ _ h1)), rfl, _, rfl, _, _, _, _, rfl, rfl, (sq_tup (Xa1 _ _ h1)), rfl, (by show 2 ≤ sizeLine; decide), ?_⟩
      intro a2 na2
      have Xa2 := ex_new (o := HO.lst [V.ref a, V.ref b]) na2
      have ha2 : upd Ga1 a2 (HO.lst [V.ref a, V.ref b]) a2 = some (HO.lst [V.ref a, V.ref b]) := upd_same
      generalize upd Ga1 a2 (HO.lst [V.ref a, V.ref b]) = Ga2 at Xa2 ha2 ⊢
      try dsimp only [tNil]
      exact q a2 [a, b] _ (Xa1.trans Xa2) ha2 (.two (h2.mono (Xa1.trans Xa2)) (h4.mono (Xa1.trans Xa2)))
    | later c m =>
      unfold CtN at hT
      obtain ⟨a, h1, h2⟩ := hT
      refine ⟨_, rfl, _, _, _, _, rfl, rfl, (sq_tup h1), rfl, rfl, _, rfl, _, rfl, _, _, _, _, rfl, rfl, (sq_tup h1), rfl, (by decide), ?_⟩
      intro a1 na1
      have Xa1 := ex_new (o := HO.tup [V.str (Str.ofString "later"), V.str (Str.ofString "note")]) na1
      have ha1 : upd H a1 (HO.tup [V.str (Str.ofString "later"), V.str (Str.ofString "note")]) a1 = some (HO.tup [V.str (Str.ofString "later"), V.str (Str.ofString "note")]) := upd_same
      generalize upd H a1 (HO.tup [V.str (Str.ofString "later"), V.str (Str.ofString "note")]) = Ga1 at Xa1 ha1 ⊢
      refine ⟨_, _, rfl, (.inr (sq_tup ha1)), rfl, rfl, _, rfl, _, rfl, _, _, _, _, rfl, rfl, (sq_tup (Xa1 _ _ h1)), rfl, (by show 1 ≤ sizeLine; decide), ?_⟩
      intro a2 na2
      have Xa2 := ex_new (o := HO.lst [V.ref a]) na2
      have ha2 : upd Ga1 a2 (HO.lst [V.ref a]) a2 = some (HO.lst [V.ref a]) := upd_same
      generalize upd Ga1 a2 (HO.lst [V.ref a]) = Ga2 at Xa2 ha2 ⊢
      try dsimp only [tNil]
      exact q a2 [a] _ (Xa1.trans Xa2) ha2 (.one (h2.mono (Xa1.trans Xa2)))
    | note c z =>
      unfold CtN at hT
      obtain ⟨a, h1, h2⟩ := hT
      refine ⟨_, rfl, _, _, _, _, rfl, rfl, (sq_tup h1), rfl, rfl, _, rfl, _, rfl, _, _, _, _, rfl, rfl, (sq_tup h1), rfl, (by decide), ?_⟩
      intro a1 na1
      have Xa1 := ex_new (o := HO.tup [V.str (Str.ofString "later"), V.str (Str.ofString "note")]) na1
      have ha1 : upd H a1 (HO.tup [V.str (Str.ofString "later"), V.str (Str.ofString "note")]) a1 = some (HO.tup [V.str (Str.ofString "later"), V.str (Str.ofString "note")]) := upd_same
      generalize upd H a1 (HO.tup [V.str (Str.ofString "later"), V.str (Str.ofString "note")]) = Ga1 at Xa1 ha1 ⊢
      refine ⟨_, _, rfl, (.inr (sq_tup ha1)), rfl, rfl, _, rfl, _, rfl, _, _, _, _, rfl, rfl, (sq_tup (Xa1 _ _ h1)), rfl, (by show 1 ≤ sizeLine; decide), ?_⟩
      intro a2 na2
      have Xa2 := ex_new (o := HO.lst [V.ref a]) na2
      have ha2 : upd Ga1 a2 (HO.lst [V.ref a]) a2 = some (HO.lst [V.ref a]) := upd_same
      generalize upd Ga1 a2 (HO.lst [V.ref a]) = Ga2 at Xa2 ha2 ⊢
      try dsimp only [tNil]
      exact q a2 [a] _ (Xa1.trans Xa2) ha2 (.one (h2.mono (Xa1.trans Xa2)))
theorem ok__law_inner {P : Program} {w : World} {K : PySem.W.Frag} {mg : Str → Option Value} {base : Heap} (T : Env K mg) : Fc P w K mg base 1 (He.ga K "_law_inner") [] (sp__law_inner K ) := by
  obtain ⟨fd, D, F⟩ := fb__law_inner T
  exact F.all (D.bindsN fun _ _ _ _ _ _ us hl => match us, hl with | [_], _ => rfl)
end
section
theorem paired_imp {α β : Type} {F G : α → β → Prop} (k : ∀ a b, F a b → G a b) {as : List α} {bs : List β} (h : Paired F as bs) : Paired G as bs := by
  induction h with
  | nil => exact .nil
  | cons h1 _ ih => exact .cons (k _ _ h1) ih
theorem paired_snoc {α β : Type} {F : α → β → Prop} {a : α} {b : β} {as : List α} {bs : List β} (h : Paired F as bs) (k : F a b) : Paired F (as ++ [a]) (bs ++ [b]) := by
  induction h with
  | nil => exact .cons k .nil
  | cons h1 _ ih => exact .cons h1 ih
theorem paired_len {α β : Type} {F : α → β → Prop} {as : List α} {bs : List β} (h : Paired F as bs) : as.length = bs.length := by
  induction h with
  | nil => rfl
  | cons _ _ ih => rw [List.length_cons, List.length_cons, ih]
end
section
/-- tuples of how deep, and a row's text -/
def RwsAt (H : Hp) (as : List Addr) (rs : List (Nat × List Nat)) : Prop := Paired (fun a r => H a = some (.tup [.int (r.1 : Nat), .str (SX.S r.2)])) as rs
theorem RwsAt.mono {H H' : Hp} {as : List Addr} {rs : List (Nat × List Nat)} (h : RwsAt H as rs) (e : Ex H H') : RwsAt H' as rs := paired_imp (fun _ _ z => e _ _ z) h
mutual
def rowsD (n : Nat) : CtD → List (Nat × List Nat)
  | .once ps ws => [(n, rowTx (CtD.card (.once ps ws)))]
  | .every ps ws D => [(n, rowTx (CtD.card (.every ps ws D)))]
  | .as_ z => [(n, rowTx (CtD.card (.as_ z)))]
  | .join cs => (n, rowTx (CtD.card (.join cs))) :: rowsDL (n + 1) cs
  | .less c d => (n, rowTx (CtD.card (.less c d))) :: (rowsD (n + 1) c ++ rowsD (n + 1) d)
  | .swap c D d => (n, rowTx (CtD.card (.swap c D d))) :: (rowsD (n + 1) c ++ rowsD (n + 1) d)
  | .later c m => (n, rowTx (CtD.card (.later c m))) :: rowsD (n + 1) c
  | .note c z => (n, rowTx (CtD.card (.note c z))) :: rowsD (n + 1) c
def rowsDL (n : Nat) : List CtD → List (Nat × List Nat)
  | [] => []
  | c :: cs => rowsD n c ++ rowsDL n cs
end
theorem rowsD_eq (n : Nat) (c : CtD) : rowsD n c = (n, rowTx c.card) :: rowsDL (n + 1) c.inn := by
  cases c <;> simp [rowsD, rowsDL, CtD.inn]
theorem rowsDL_app (n : Nat) (cs ds : List CtD) : rowsDL n (cs ++ ds) = rowsDL n cs ++ rowsDL n ds := by
  induction cs with
  | nil => simp [rowsDL]
  | cons x r ih => simp [rowsDL, ih, List.append_assoc]
theorem paired_app {α β : Type} {F : α → β → Prop} {as cs : List α} {bs ds : List β} (h : Paired F as bs) (k : Paired F cs ds) : Paired F (as ++ cs) (bs ++ ds) := by
  induction h with
  | nil => exact k
  | cons h1 _ ih => exact .cons h1 ih
mutual
theorem rowsD_len {n : Nat} : ∀ c : CtD, (rowsD n c).length = c.card.wt
  | .once ps ws => by simp [rowsD, CtD.card, CardD.wt]
  | .every ps ws D => by simp [rowsD, CtD.card, CardD.wt]
  | .as_ z => by simp [rowsD, CtD.card, CardD.wt]
  | .join cs => by
    rw [rowsD, List.length_cons, rowsDL_len cs, CtD.card, CardD.wt]
    omega
  | .less c d => by
    rw [rowsD, List.length_cons, List.length_append, rowsD_len c, rowsD_len d, CtD.card, CardD.wt]
    omega
  | .swap c D d => by
    rw [rowsD, List.length_cons, List.length_append, rowsD_len c, rowsD_len d, CtD.card, CardD.wt]
    omega
  | .later c m => by
    rw [rowsD, List.length_cons, rowsD_len c, CtD.card, CardD.wt]
    omega
  | .note c z => by
    rw [rowsD, List.length_cons, rowsD_len c, CtD.card, CardD.wt]
    omega
theorem rowsDL_len {n : Nat} : ∀ cs : List CtD, (rowsDL n cs).length = wtL (cardsC cs)
  | [] => by simp [rowsDL, cardsC, wtL]
  | c :: cs => by
    rw [rowsDL, List.length_append, rowsD_len c, rowsDL_len cs, cardsC, wtL]
end
theorem CtD.inn_lt {c d : CtD} (h : d ∈ c.inn) : d.card.wt < c.card.wt := inner_wt (by rw [c.inn_card, cardsC_map]; exact List.mem_map_of_mem h)
def sp__law_rows (K : PySem.W.Frag) (d : Nat) : Sp := fun vs H Q _ => ∃ (N : Addr → Prop) (t : Addr) (c : CtD) (n : Nat), vs = [.ref t, .int (n : Nat)] ∧ CtN N H c t ∧ c.tok ∧ c.card.wt ≤ d ∧ c.card.wt ≤ 60 ∧ ∀ p as H', Ex H H' → H p = none → H' p = some (.lst (as.map V.ref)) → RwsAt H' as (rowsD n c) → Q (.ref p) H'
theorem fb__law_rows {P : Program} {w : World} {K : PySem.W.Frag} {mg : Str → Option Value} {base : Heap} (T : Env K mg) {d L : Nat} (hL : 65 ≤ L) (r__law_rows : Fc P w K mg base L (He.ga K "_law_rows") [] (sp__law_rows K d)) : ∃ fd, FunD K "_law_rows" "_law_rows" (defArgs s__law_rows) (defBody s__law_rows) (defScope s__law_rows) [] [] (He.ga K "_law_rows") fd ∧ Fb P w K mg base (L + 1) (He.ga K "_law_rows") fd ["_law_tree", "_law_deep"] (sp__law_rows K (d + 1)) := by
  obtain ⟨fd, F⟩ := T.f__law_rows
  refine ⟨fd, F, fb_of F sc__law_rows (fun vs H Q E h => ?_) (fun cdv A outer s H vs Q E hr h => ?_)⟩
  · obtain ⟨N, t, c, n, rfl, _⟩ := h
    rfl
  · obtain ⟨N, t, c, n, rfl, hT, hk, hw, hw6, q⟩ := h
    refine ⟨_, (pss_cons (ps_set (i := 2) sc__law_rows.nd rfl (Or.inl rfl) (pe_lst (pa_cons (pe_tup (pa_cons (pv 1) (pa_cons (c_call (ok__law_row T) (hr.mono (by omega)) T.g__law_row T.k__law_row takes0 (pa_cons (pv 0) pa_nil)) pa_nil))) pa_nil)))
      (pss_cons (ps_for (passes_of rfl) rfl (pi_list (c_call (ok__law_inner T) (hr.mono (by omega)) T.g__law_inner T.k__law_inner takes0 (pa_cons (pv 0) pa_nil))) (pg_name (i := 3) sc__law_rows.nd rfl (Or.inl rfl))
      (pss_one (ps_set (i := 2) sc__law_rows.nd rfl (Or.inl rfl) (pe_op op_cat (pv 2) (c_call r__law_rows (hr.mono (by omega)) T.g__law_rows T.k__law_rows takes0 (pa_cons (pv 3) (pa_cons (pe_op op_add (pv 1) pe_int) pa_nil)))))))
      (pss_one (ps_ret (pv 2))))), ?_⟩
    refine ⟨_, rfl, _, rfl, N, t, c, rfl, hT, hk, fun H1 X1 => ?_⟩
    refine ⟨(by show 2 ≤ sizeLine; decide), ?_⟩
    intro a1 na1
    have Xa1 := ex_new (o := HO.tup [V.int (↑n : Int), V.str (SX.S (rowTx (CtD.card c)))]) na1
    have ha1 : upd H1 a1 (HO.tup [V.int (↑n : Int), V.str (SX.S (rowTx (CtD.card c)))]) a1 = some (HO.tup [V.int (↑n : Int), V.str (SX.S (rowTx (CtD.card c)))]) := upd_same
    generalize upd H1 a1 (HO.tup [V.int (↑n : Int), V.str (SX.S (rowTx (CtD.card c)))]) = Ga1 at Xa1 ha1 ⊢
    refine ⟨(by show 1 ≤ sizeLine; decide), ?_⟩
    intro a2 na2
    have Xa2 := ex_new (o := HO.lst [V.ref a1]) na2
    have ha2 : upd Ga1 a2 (HO.lst [V.ref a1]) a2 = some (HO.lst [V.ref a1]) := upd_same
    generalize upd Ga1 a2 (HO.lst [V.ref a1]) = Ga2 at Xa2 ha2 ⊢
    refine ⟨_, rfl, _, _, _, rfl, (((hT.mono X1).mono Xa1).mono Xa2), ?_⟩
    intro p as G0 X0 hp hC
    have hl := hC.len
    have ew : c.card.wt = 1 + wtL (cardsC c.inn) := by rw [c.card.wt_eq, c.inn_card]
    have X20 := ((X1.trans Xa1).trans Xa2).trans X0
    have na20 : H a2 = none := ex_fresh (X1.trans Xa1) na2
    refine ⟨p, rfl, ⟨_, sq_lst hp⟩, for_on as V.ref L2.walk_list (fun i σ G => Ex G0 G ∧ ∃ f bs v, σ = [some (.ref t), some (.int (n : Nat)), some (.ref f), v] ∧ H f = none ∧ G f = some (.lst (bs.map V.ref)) ∧ RwsAt G bs ((n, rowTx c.card) :: rowsDL (n + 1) (c.inn.take i))) ⟨.refl _, a2, [a1], _, rfl, na20, X0 _ _ ha2, by rw [List.take_zero]; exact .cons (X0 _ _ (Xa2 _ _ ha1)) .nil⟩ (fun i σ G z => sq_lst (z.1 _ _ hp)) ?_ ?_⟩
    · rintro i a σ G ha ⟨XG, f, bs, v, rfl, nf, gf, hR⟩
      obtain ⟨c', ec, hc⟩ := hC.get ha
      have m2 := List.mem_of_getElem? ec
      have w2 := CtD.inn_lt m2
      refine ⟨_, rfl, _, rfl, _, rfl, _, _, rfl, rfl, N, a, c', n + 1, rfl, hc.mono XG, CtD.inn_tok hk m2, by omega, by omega, fun r2 cs2 G2 X2 nr2 hr2 hR2 => ?_⟩
      have l1 := paired_len hR
      have l2 := paired_len hR2
      rw [rowsD_len] at l2
      rw [List.length_cons, rowsDL_len] at l1
      have l3 : wtL (cardsC (c.inn.take i)) ≤ wtL (cardsC c.inn) := by
        rw [cardsC_map, cardsC_map, List.map_take]
        exact wtL_take _ _
      have ft := X2 _ _ gf
      refine ⟨f, r2, _, _, rfl, rfl, ft, hr2, (by rw [List.length_map, List.length_map, sizeLine_eq]; omega), fun g ng => ?_⟩
      have Xg := ex_new (o := HO.lst (bs.map V.ref ++ cs2.map V.ref)) ng
      refine ⟨(XG.trans X2).trans Xg, g, bs ++ cs2, _, rfl, ex_fresh ((X20.trans XG).trans X2) ng, by rw [upd_same, List.map_append], ?_⟩
      rw [take_snoc ec, rowsDL_app]
      have e9 : rowsDL (n + 1) [c'] = rowsD (n + 1) c' := by simp [rowsDL]
      rw [e9]
      exact paired_app (RwsAt.mono hR (X2.trans Xg)) (RwsAt.mono hR2 Xg)
    · rintro σ G ⟨XG, f, bs, v, rfl, nf, gf, hR⟩
      rw [hl, List.take_length, ← rowsD_eq] at hR
      exact ⟨_, rfl, q f bs G (X20.trans XG) nf gf hR⟩
theorem ok__law_rows {P : Program} {w : World} {K : PySem.W.Frag} {mg : Str → Option Value} {base : Heap} (T : Env K mg) {d L : Nat} (hL : 65 ≤ L) (r__law_rows : Fc P w K mg base L (He.ga K "_law_rows") [] (sp__law_rows K d)) : Fc P w K mg base (L + 1) (He.ga K "_law_rows") [] (sp__law_rows K (d + 1)) := by
  obtain ⟨fd, D, F⟩ := fb__law_rows T hL r__law_rows
  exact F.all (D.bindsN fun _ _ _ _ _ _ us hl => match us, hl with | [_, _], _ => rfl)
theorem all_lrows {P : Program} {w : World} {K : PySem.W.Frag} {mg : Str → Option Value} {base : Heap} (T : Env K mg) : ∀ d, Fc P w K mg base (65 + d) (He.ga K "_law_rows") [] (sp__law_rows K d)
  | 0 => fc_no fun vs H Q E h => by
    obtain ⟨N, t, c, n, _, _, _, h, _⟩ := h
    have := c.card.wt_pos
    omega
  | d + 1 => ok__law_rows T (Nat.le_add_right 65 _) (all_lrows T d)
end
section
theorem fold_app (a : Array Nat) : ∀ (n : Nat) (b : Array Nat), ((List.replicate n a).foldl (· ++ ·) b).toList = b.toList ++ (List.replicate n a.toList).flatten
  | 0, b => by simp
  | n + 1, b => by
    rw [List.replicate_succ, List.foldl_cons, fold_app a n, List.replicate_succ, List.flatten_cons, Array.toList_append, List.append_assoc]
theorem mul_S (l : List Nat) (n : Nat) : Txt.mul (SX.S l) (n : Int) = SX.S (List.replicate n l).flatten := by
  unfold Txt.mul
  rcases Nat.eq_zero_or_pos n with rfl | hn
  · rfl
  rw [if_neg (by omega)]
  split
  · rename_i h
    rcases Bool.or_eq_true_iff.mp h with h | h
    · have : n = 1 := by
        have := eq_of_beq h
        omega
      subst this
      simp
    · have h0 : l = [] := by
        have := eq_of_beq h
        rw [SX.S_len] at this
        exact List.length_eq_zero_iff.mp this
      subst h0
      have : (List.replicate n ([] : List Nat)).flatten = [] := by simp
      rw [this]
  · refine TL.ext_tl ?_
    show ((List.replicate ((n : Int)).toNat (SX.S l).cps).foldl (· ++ ·) #[]).toList = (List.replicate n l).flatten
    rw [fold_app]
    simp [SX.S]
end
section
abbrev RunD := Nat × Nat × Nat
def runV (r : RunD) : HO := .tup [.int (r.1 : Nat), .int (r.2.1 : Nat), .int (r.2.2 : Nat)]
def RunsL (H : Hp) (as : List Addr) (rs : List RunD) : Prop := Paired (fun a r => H a = some (runV r)) as rs
def RunsAt (H : Hp) (p : Addr) (rs : List RunD) : Prop := ∃ as, H p = some (.lst (as.map V.ref)) ∧ RunsL H as rs
theorem RunsL.imp {H H' : Hp} {as : List Addr} {rs : List RunD} (k : ∀ b o, (∀ ys, o ≠ .lst ys) → H b = some o → H' b = some o) (h : RunsL H as rs) : RunsL H' as rs := by
  unfold RunsL at h ⊢
  induction h with
  | nil => exact .nil
  | cons h1 _ ih => exact .cons (k _ _ nofun h1) ih
theorem RunsL.mono {H H' : Hp} {as : List Addr} {rs : List RunD} (h : RunsL H as rs) (e : Ex H H') : RunsL H' as rs := h.imp fun _ _ _ z => e _ _ z
theorem RunsAt.mono {H H' : Hp} {p : Addr} {rs : List RunD} (h : RunsAt H p rs) (e : Ex H H') : RunsAt H' p rs := let ⟨as, h1, h2⟩ := h; ⟨as, e _ _ h1, h2.mono e⟩
theorem paired_get {α β : Type} {F : α → β → Prop} {as : List α} {bs : List β} {i : Nat} {a : α} (h : Paired F as bs) (e : as[i]? = some a) : ∃ b, bs[i]? = some b ∧ F a b := by
  induction h generalizing i with
  | nil => cases e
  | cons h1 _ ih =>
    cases i with
    | zero =>
      cases e
      exact ⟨_, rfl, h1⟩
    | succ i => exact ih e
end
section
/-- rows as they stand in a text -/
def wrow (r : Nat × List Nat) : List Nat := List.replicate (2 * r.1) 32 ++ r.2 ++ [10]
def wrows (rs : List (Nat × List Nat)) : List Nat := (rs.map wrow).flatten
theorem wrow_len (r : Nat × List Nat) : (wrow r).length = 2 * r.1 + r.2.length + 1 := by
  unfold wrow
  rw [List.length_append, List.length_append, List.length_replicate]
  rfl
theorem two_blanks : ∀ n : Nat, (List.replicate n [32, 32]).flatten = List.replicate (2 * n) 32
  | 0 => rfl
  | n + 1 => by
    rw [List.replicate_succ, List.flatten_cons, two_blanks n, show 2 * (n + 1) = 2 * n + 1 + 1 by omega, List.replicate_succ, List.replicate_succ]
    rfl
theorem blanks2 (n : Nat) : List.replicate (2 * n) 32 ++ [32, 32] = List.replicate (2 * (n + 1)) 32 := by
  rw [show 2 * (n + 1) = 2 * n + 2 by omega]
  exact List.replicate_append_replicate (n := 2 * n) (m := 2) (a := 32)
def rowB (r : Nat × List Nat) : List Nat := List.replicate (2 * r.1) 32 ++ r.2
mutual
theorem rows_same (n : Nat) : ∀ c : CtD, rowsTx (List.replicate (2 * n) 32) c.card = (rowsD n c).map rowB
  | .once ps ws => by simp [rowsD, CtD.card, rowsTx, rowB]
  | .every ps ws D => by simp [rowsD, CtD.card, rowsTx, rowB]
  | .as_ z => by simp [rowsD, CtD.card, rowsTx, rowB]
  | .join cs => by
    rw [rowsD, CtD.card, rowsTx, blanks2, rowsL_same (n + 1) cs, List.map_cons]
    rfl
  | .less c d => by
    rw [rowsD, CtD.card, rowsTx, blanks2, rows_same (n + 1) c, rows_same (n + 1) d, List.map_cons, List.map_append]
    rfl
  | .swap c D d => by
    rw [rowsD, CtD.card, rowsTx, blanks2, rows_same (n + 1) c, rows_same (n + 1) d, List.map_cons, List.map_append]
    rfl
  | .later c m => by
    rw [rowsD, CtD.card, rowsTx, blanks2, rows_same (n + 1) c, List.map_cons]
    rfl
  | .note c z => by
    rw [rowsD, CtD.card, rowsTx, blanks2, rows_same (n + 1) c, List.map_cons]
    rfl
theorem rowsL_same (n : Nat) : ∀ cs : List CtD, rowsTxL (List.replicate (2 * n) 32) (cardsC cs) = (rowsDL n cs).map rowB
  | [] => by simp [rowsDL, cardsC, rowsTxL]
  | c :: cs => by
    rw [rowsDL, cardsC, rowsTxL, rows_same n c, rowsL_same n cs, List.map_append]
end
/-- what the law writes is the card's text -/
theorem written_same (c : CtD) : wrows (rowsD 0 c) = cardTx c.card := by
  have h := rows_same 0 c
  unfold wrows cardTx
  rw [show (List.replicate (2 * 0) 32 : List Nat) = [] from rfl] at h
  rw [h, List.map_map]
  rfl
def sp__law_written (K : PySem.W.Frag) : Sp := fun vs H Q _ => ∃ (p : Addr) (as : List Addr) (rs : List (Nat × List Nat)), vs = [.ref p] ∧ H p = some (.lst (as.map V.ref)) ∧ RwsAt H as rs ∧ rs.length ≤ 200 ∧ (∀ r ∈ rs, r.1 ≤ 100 ∧ r.2.length ≤ 71000) ∧ ∀ H', Ex H H' → Q (.str (SX.S (wrows rs))) H'
theorem fb__law_written {P : Program} {w : World} {K : PySem.W.Frag} {mg : Str → Option Value} {base : Heap} (T : Env K mg) : ∃ fd, FunD K "_law_written" "_law_written" (defArgs s__law_written) (defBody s__law_written) (defScope s__law_written) [] [] (He.ga K "_law_written") fd ∧ Fb P w K mg base 1 (He.ga K "_law_written") fd ["_law_rows_here"] (sp__law_written K) := by
  obtain ⟨fd, F⟩ := T.f__law_written
  refine ⟨fd, F, fb_of F sc__law_written (fun vs H Q E h => ?_) (fun cdv A outer s H vs Q E hr h => ?_)⟩
  · obtain ⟨p, as, rs, rfl, _⟩ := h
    rfl
  · obtain ⟨p, as, rs, rfl, hp, hR, hl, hb, q⟩ := h
    refine ⟨_, (pss_one (ps_ret (pe_join pe_str (pe_lc (own := [("_law_deep", 1), ("_law_row_here", 2)]) (by rfl) sc__law_written.nd (pi_list (pv 0)) (blkOk_by (own := [("_law_deep", 1), ("_law_row_here", 2)]) (N := ["_law_rows_here", "_law_deep", "_law_row_here"]) (sc := defScope s__law_written) (by decide +kernel)) (fun _ _ _ _ _ => (pg_tupK K (n := 2) rfl (pgs_cons (pg_name (i := 1) sc__law_written.nd rfl (Or.inl rfl)) (pgs_cons (pg_name (i := 2) sc__law_written.nd rfl (Or.inl rfl)) pgs_nil)))) (fun _ _ _ _ _ => pts_nil) (fun _ _ _ _ _ => (pe_op op_add_str (pe_op op_add_str (pe_op op_repS pe_str (pv 1)) (pv 2)) pe_str)))))), ?_⟩
    have ll := paired_len hR
    refine ⟨⟨_, rfl⟩, _, rfl, p, rfl, ⟨_, sq_lst hp⟩, fun A nA => lc_fm L2.walk_list (fun i => (rs[i]?).map fun r => V.str (SX.S (wrow r))) (fun H' => Ex H H') (fun H' z e => ex_mut e nA) (.refl _) (by rw [List.length_map]; omega) (fun H' e => sq_lst (e _ _ hp)) (fun i x H2 H3 acc N hi e hD la y k => ?_) fun H3 X3 d3 => ?_⟩
    · obtain ⟨rfl, y⟩ := y
      rw [List.getElem?_map] at y
      obtain ⟨b, hb1, rfl⟩ := Option.map_eq_some_iff.mp y
      obtain ⟨r, hr1, hr2⟩ := paired_get hR hb1
      have hr3 := e _ _ hr2
      have m := List.mem_of_getElem? hr1
      obtain ⟨b1, b2⟩ := hb r m
      have k2 := fun H4 (X4 : Ex H3 H4) => k H4 (e.trans X4) (X4 _ _ hD)
      rw [hr1] at k2
      refine ⟨_, _, rfl, (sq_tup hr3), rfl, _, _, rfl, _, _, rfl, rfl, rfl, _, rfl, _, _, rfl, rfl, (by decide), (by omega), (by omega), _, rfl, _, _, rfl, rfl, ?_⟩
      rw [show Str.ofString "  " = SX.S [32, 32] from rfl, mul_S, two_blanks]
      have e0 : (List.replicate (2 * r.1) 32).length = 2 * r.1 := List.length_replicate
      have cat : ∀ (a b : List Nat), a.length + b.length ≤ 100000 → (SX.S a).length + (SX.S b).length ≤ sizeLine := fun a b h => sz_le (by rw [SX.S_len, SX.S_len]; omega)
      refine ⟨cat _ _ (by omega), ?_⟩
      rw [SX.S_cat, show Str.ofString "\n" = SX.S [10] from rfl]
      refine ⟨_, _, rfl, rfl, cat _ _ (by rw [List.length_append]; show _ + 1 ≤ _; omega), ?_⟩
      rw [SX.S_cat]
      exact ⟨acc, hD, la, k2 H3 (.refl _)⟩
    · rw [List.length_map, ll, range_opt rs (fun r => V.str (SX.S (wrow r)))] at d3
      have e1 : rs.map (fun r => V.str (SX.S (wrow r))) = ((rs.map wrow).map SX.S).map V.str := by
        rw [List.map_map, List.map_map]
        rfl
      rw [e1] at d3
      have h9 := sum_le (k := 71201) (ls := rs.map wrow) fun l hl => by
        obtain ⟨r, hr, rfl⟩ := List.mem_map.mp hl
        obtain ⟨b1, b2⟩ := hb r hr
        rw [wrow_len]
        omega
      refine ⟨_, A, _, rfl, rfl, .inl (sq_lst d3), ?_, ?_⟩
      · rw [SX.lens, show (Str.ofString "").length = 0 from rfl, Nat.mul_zero]
        rw [List.length_map] at h9
        omega
      · rw [show Str.ofString "" = SX.S [] from rfl, SX.join_S, joinL_nil]
        exact q H3 X3
theorem ok__law_written {P : Program} {w : World} {K : PySem.W.Frag} {mg : Str → Option Value} {base : Heap} (T : Env K mg) : Fc P w K mg base 1 (He.ga K "_law_written") [] (sp__law_written K ) := by
  obtain ⟨fd, D, F⟩ := fb__law_written T
  exact F.all (D.bindsN fun _ _ _ _ _ _ us hl => match us, hl with | [_], _ => rfl)
end
section
theorem joinL_ones : ∀ l : List Nat, TL.joinL [] (l.map fun c => [c]) = l
  | [] => rfl
  | [c] => rfl
  | c :: d :: r => by
    show [c] ++ [] ++ TL.joinL [] ((d :: r).map fun c => [c]) = _
    rw [joinL_ones (d :: r)]
    rfl
theorem join_signs (l : List Nat) : Txt.join (Str.ofString "") (l.map fun c => SX.S [c]) = SX.S l := by
  have e := SX.join_S [] (l.map fun c => [c])
  rw [List.map_map, joinL_ones] at e
  exact e
end
section
theorem lt_100 {n : Nat} (h : n < 100000) : n < 10 ^ 100 := Nat.lt_of_lt_of_le h (Nat.le_trans (show 100000 ≤ 10 ^ 5 by decide) (Nat.pow_le_pow_right (by decide) (by decide)))
end
section
theorem abc_at (d : Nat) (h : d < 26) : atI (Str.ofString "abcdefghijklmnopqrstuvwxyz").cps.toList (d : Int) = some (97 + d) := by
  have z : ∀ d ∈ List.range 26, atI (Str.ofString "abcdefghijklmnopqrstuvwxyz").cps.toList ((d : Nat) : Int) = some (97 + d) := by decide +kernel
  exact z d (List.mem_range.mpr h)
theorem lens_one : ∀ l : List Nat, ((l.map (fun c => SX.S [c])).map (·.length)).sum = l.length
  | [] => rfl
  | c :: r => by
    have := lens_one r
    show 1 + ((r.map (fun c => SX.S [c])).map (·.length)).sum = r.length + 1
    omega
def tenN : List Str := ["note", "at", "as", "join", "from", "to", "not", "also", "once", "x"]
theorem tenN_ok : ∀ z ∈ tenN, nmN z.cps.toList = true := by decide +kernel
def sp__law_name (K : PySem.W.Frag) : Sp := fun vs H Q _ => ∃ p : Addr, vs = [.ref p] ∧ PotN 0 H p ∧ ∀ (z : Str) H', nmN z.cps.toList = true → PotOnN 0 H H' p → Q (.str z) H'
theorem fb__law_name {P : Program} {w : World} {K : PySem.W.Frag} {mg : Str → Option Value} {base : Heap} (T : Env K mg) : ∃ fd, FunD K "_law_name" "_law_name" (defArgs s__law_name) (defBody s__law_name) (defScope s__law_name) [] [] (He.ga K "_law_name") fd ∧ Fb P w K mg base 2 (He.ga K "_law_name") fd ["_law_pot_here"] (sp__law_name K) := by
  obtain ⟨fd, F⟩ := T.f__law_name
  refine ⟨fd, F, fb_of F sc__law_name (fun vs H Q E h => ?_) (fun cdv A outer s H vs Q E hr h => ?_)⟩
  · obtain ⟨p, rfl, _⟩ := h
    rfl
  · obtain ⟨p, rfl, hp, q⟩ := h
    refine ⟨_, (pss_cons (ps_set (i := 1) sc__law_name.nd rfl (Or.inl rfl) (c_call (ok__law_draw T) (hr.mono (by decide)) T.g__law_draw T.k__law_draw takes0 (pa_cons (pv 0) (pa_cons pe_int pa_nil))))
      (pss_cons (ps_if (pt_cmpR op_eq (pv 1) pe_int (nomark _))
      (pss_one (ps_ret (pe_ix ix_list (pe_lst (pa_cons pe_str (pa_cons pe_str (pa_cons pe_str (pa_cons pe_str (pa_cons pe_str (pa_cons pe_str (pa_cons pe_str (pa_cons pe_str (pa_cons pe_str (pa_cons pe_str pa_nil))))))))))) (c_call (ok__law_draw T) (hr.mono (by decide)) T.g__law_draw T.k__law_draw takes0 (pa_cons (pv 0) (pa_cons pe_int pa_nil))) (fun _ _ => rfl))))
      pss_nil)
      (pss_one (ps_ret (pe_join pe_str (pe_lc (own := [("_law_k", 2)]) (by rfl) sc__law_name.nd (pi_range1 (by rfl) T.n_range (pa_cons (pe_op op_add pe_int (c_call (ok__law_draw T) (hr.mono (by decide)) T.g__law_draw T.k__law_draw takes0 (pa_cons (pv 0) (pa_cons pe_int pa_nil)))) pa_nil)) (blkOk_by (own := [("_law_k", 2)]) (N := ["_law_pot_here", "_law_way", "_law_k"]) (sc := defScope s__law_name) (by decide +kernel)) (fun _ _ _ _ _ => (pg_name (i := 2) sc__law_name.nd rfl (Or.inl rfl))) (fun _ _ _ _ _ => pts_nil) (fun _ _ _ _ _ => (pe_ix ix_str pe_str (c_call (ok__law_draw T) (hr.mono (by decide)) T.g__law_draw T.k__law_draw takes0 (pa_cons (pv 0) (pa_cons pe_int pa_nil))) (fun _ _ => rfl))))))))), ?_⟩
    refine ⟨_, rfl, p, 8, rfl, hp, by decide, lt_100 (by decide), fun w H1 w8 P1 => ?_⟩
    have w8 : w < 8 := w8
    refine ⟨_, rfl, rfl, _, rfl, ?_⟩
    by_cases c : w = 7
    · subst c
      refine iteT ?_
      refine ⟨by show 10 ≤ sizeLine; decide, fun l nl => ?_⟩
      have Xl := ex_new (o := HO.lst (tenN.map V.str)) nl
      have hl : upd H1 l (HO.lst (tenN.map V.str)) l = some (HO.lst (tenN.map V.str)) := upd_same
      have P2 := P1.ex2 Xl
      have lp := P1.1.not nl
      refine ⟨_, rfl, p, 10, rfl, P2.1, by decide, lt_100 (by decide), fun d H2 d10 P3 => ?_⟩
      have d10 : d < 10 := d10
      obtain ⟨x, hx, ex⟩ := at_mem (xs := tenN.map V.str) (i := (d : Int)) (by omega) (by rw [List.length_map]; show (d : Int) < 10; omega)
      obtain ⟨z, hz, rfl⟩ := List.mem_map.mp hx
      exact ⟨l, _, _, _, rfl, rfl, sq_lst (P3.2 _ _ lp hl), ex, q z H2 (tenN_ok z hz) (P2.trans P3)⟩
    · rw [decide_eq_false (show ¬ V.int ((w : Nat) : Int) = V.int 7 from fun z => c (by injection z with z; omega))]
      refine iteF ?_
      refine ⟨⟨_, rfl⟩, _, rfl, p, 8, rfl, P1.1, by decide, lt_100 (by decide), fun s0 H3 s8 P3 => ?_⟩
      have s8 : s0 < 8 := s8
      have P1 := P1.trans P3
      clear P3
      obtain ⟨s, hs⟩ : ∃ s, s = s0 + 1 := ⟨_, rfl⟩
      have s1 : 1 ≤ s := by omega
      have s2 : s ≤ 8 := by omega
      refine ⟨_, _, rfl, rfl, _, rfl, (by omega), (by omega), fun D nD => ?_⟩
      rw [show (1 : Int) + ((s0 : Nat) : Int) = ((s : Nat) : Int) by omega]
      have Dp : D ≠ p := P1.1.not nD
      have nD0 : H D = none := P1.fresh nD
      refine lc_any (n := ((s : Nat) : Int).toNat) (J := Itr 0 ((s : Nat) : Int).toNat) L2.walk_range (fun i acc G => PotOnN 0 H G p ∧ ∃ l : List Nat, acc = l.map (fun c => V.str (SX.S [c])) ∧ l.length = i ∧ ∀ c ∈ l, 97 ≤ c ∧ c < 123) (fun i acc G l e => ⟨e.1.upd nD0 Dp, e.2⟩) ⟨P1, [], rfl, rfl, nofun⟩ (by omega) (fun i acc G e => ?_) (fun _ _ _ _ => trivial) (fun i x H2 H3 acc N hi e hD la y k _ => ?_) (fun acc H2 e hD => ?_)
      · obtain ⟨_, l, rfl, hl, _⟩ := e
        simp [hl]
      · obtain ⟨rfl, rfl⟩ := y
        obtain ⟨P2, l, rfl, hl, ha⟩ := e
        refine ⟨rfl, _, rfl, p, 26, rfl, P2.1, by decide, by decide +kernel, fun c H5 c1 P5 => ?_⟩
        have hD5 := P5.2 _ _ Dp hD
        refine ⟨_, _, _, rfl, rfl, by decide, abc_at c (by omega), _, hD5, la, ?_⟩
        exact k _ H5 hD5 ⟨P2.trans P5, l ++ [97 + c], by simp, by simp [hl], fun x hx => (List.mem_append.mp hx).elim (ha x) fun z => by
          rw [List.mem_singleton.mp z]
          omega⟩
      · obtain ⟨P2, l, rfl, hl, ha⟩ := e
        refine ⟨_, _, l.map (fun c => SX.S [c]), rfl, rfl, .inl (sq_lst (by rw [hD, List.map_map]; rfl)), ?_, ?_⟩
        · rw [lens_one, List.length_map]
          have z : (Str.ofString "").length = 0 := rfl
          rw [z]
          omega
        rw [join_signs]
        refine q (SX.S l) H2 ?_ P2
        show nmN l = true
        unfold nmN
        rw [decide_eq_true (by omega), decide_eq_true (by omega), Bool.true_and, Bool.true_and, List.all_eq_true]
        exact fun c hc => by
          have := ha c hc
          rw [decide_eq_true (by omega), decide_eq_true (by omega)]
          rfl
theorem ok__law_name {P : Program} {w : World} {K : PySem.W.Frag} {mg : Str → Option Value} {base : Heap} (T : Env K mg) : Fc P w K mg base 2 (He.ga K "_law_name") [] (sp__law_name K ) := by
  obtain ⟨fd, D, F⟩ := fb__law_name T
  exact F.all (D.bindsN fun _ _ _ _ _ _ us hl => match us, hl with | [_], _ => rfl)
end
section
def sp__law_notes (K : PySem.W.Frag) : Sp := fun vs H Q _ => ∃ p : Addr, vs = [.ref p] ∧ PotN 0 H p ∧ ∀ (l : Addr) (ws : List Str) H', NtsOk ws → H l = none → l ≠ p → H' l = some (.lst (ws.map V.str)) → PotOnN 0 H H' p → Q (.ref l) H'
theorem fb__law_notes {P : Program} {w : World} {K : PySem.W.Frag} {mg : Str → Option Value} {base : Heap} (T : Env K mg) : ∃ fd, FunD K "_law_notes" "_law_notes" (defArgs s__law_notes) (defBody s__law_notes) (defScope s__law_notes) [] [] (He.ga K "_law_notes") fd ∧ Fb P w K mg base 3 (He.ga K "_law_notes") fd ["_law_pot_here"] (sp__law_notes K) := by
  obtain ⟨fd, F⟩ := T.f__law_notes
  refine ⟨fd, F, fb_of F sc__law_notes (fun vs H Q E h => ?_) (fun cdv A outer s H vs Q E hr h => ?_)⟩
  · obtain ⟨p, rfl, _⟩ := h
    rfl
  · obtain ⟨p, rfl, hp, q⟩ := h
    refine ⟨_, (pss_cons (ps_set (i := 1) sc__law_notes.nd rfl (Or.inl rfl) (pe_lst pa_nil))
      (pss_cons (ps_for (passes_of rfl) rfl (pi_range1 (by rfl) T.n_range (pa_cons (c_call (ok__law_draw T) (hr.mono (by decide)) T.g__law_draw T.k__law_draw takes0 (pa_cons (pv 0) (pa_cons pe_int pa_nil))) pa_nil)) (pg_name (i := 2) sc__law_notes.nd rfl (Or.inl rfl))
      (pss_cons (ps_set (i := 3) sc__law_notes.nd rfl (Or.inl rfl) (c_call (ok__law_name T) (hr.mono (by decide)) T.g__law_name T.k__law_name takes0 (pa_cons (pv 0) pa_nil)))
      (pss_one (ps_if (pt_cmpR op_notIn_seq (pv 3) (pv 1) (by rfl))
      (pss_one (ps_expr (pe_bm PySem.F.plainAttrs_list PySem.F.slot_list_append PySem.F.type_list_append mt_append (pv 1) (pa_cons (pv 3) pa_nil))))
      pss_nil))))
      (pss_one (ps_ret (pv 1))))), ?_⟩
    refine ⟨by show 0 ≤ sizeLine; decide, fun l nl => ?_⟩
    have lp := hp.not nl
    have P0 := hp.refl.ex2 (ex_new (o := HO.lst []) nl)
    refine ⟨_, rfl, p, 4, rfl, P0.1, by decide, lt_100 (by decide), fun m H1 m4 P1 => ?_⟩
    have m4 : m < 4 := m4
    have P01 := P0.trans P1
    have hl1 := P1.2 _ _ lp (upd_same)
    refine ⟨_, rfl, by omega, by omega, for_range (fun i σ G => PotOnN 0 H G p ∧ ∃ ws v2 v3, σ = [some (.ref p), some (.ref l), v2, v3] ∧ G l = some (.lst (ws.map V.str)) ∧ Nms ws ∧ ws.Nodup ∧ ws.length ≤ i) ⟨P01, [], _, _, rfl, hl1, nofun, List.nodup_nil, Nat.le_refl _⟩ ?_ ?_⟩
    · rintro i σ G hi ⟨PG, ws, v2, v3, rfl, gl, hw, nd, lw⟩
      refine ⟨_, rfl, p, rfl, PG.1, fun z G2 hz P2 => ?_⟩
      have PG2 := PG.trans P2
      have gl2 := P2.2 _ _ lp gl
      refine ⟨_, rfl, _, rfl, l, _, rfl, .inl (sq_lst gl2), rfl, flat_strs _, _, rfl, ?_⟩
      rw [if_pos rfl, inV_str]
      by_cases c : z ∈ ws
      · rw [decide_eq_true c]
        exact iteF ⟨PG2, ws, _, _, rfl, gl2, hw, nd, by omega⟩
      · rw [decide_eq_false c]
        refine iteT ?_
        refine ⟨_, rfl, (.inl ⟨rfl, ⟨_, (sq_lst gl2)⟩⟩), _, rfl, l, _, _, rfl, rfl, gl2, sz_lt (by rw [List.length_map]; omega), ?_⟩
        refine ⟨PG2.upd nl lp, ws ++ [z], _, _, rfl, by rw [upd_same, List.map_append]; rfl, fun y hy => (List.mem_append.mp hy).elim (hw y) fun hy => by rw [List.mem_singleton.mp hy]; exact hz, List.nodup_append.mpr ⟨nd, List.pairwise_singleton _ _, fun x hx y hy e => c (by rw [← List.mem_singleton.mp hy, ← e]; exact hx)⟩, by rw [List.length_append]; show _ + 1 ≤ _; omega⟩
    · rintro σ G ⟨PG, ws, v2, v3, rfl, gl, hw, nd, lw⟩
      exact ⟨_, rfl, q l ws G ⟨hw, nd, by omega⟩ nl lp gl PG⟩
theorem ok__law_notes {P : Program} {w : World} {K : PySem.W.Frag} {mg : Str → Option Value} {base : Heap} (T : Env K mg) : Fc P w K mg base 3 (He.ga K "_law_notes") [] (sp__law_notes K ) := by
  obtain ⟨fd, D, F⟩ := fb__law_notes T
  exact F.all (D.bindsN fun _ _ _ _ _ _ us hl => match us, hl with | [_], _ => rfl)
end
section
theorem fb__law_means {P : Program} {w : World} {K : PySem.W.Frag} {mg : Str → Option Value} {base : Heap} (T : Env K mg) {d L : Nat} (hL : 40 ≤ L) (r__law_means : Fc P w K mg base L (He.ga K "_law_means") [] (sp__law_means K d)) : ∃ fd, FunD K "_law_means" "_law_means" (defArgs s__law_means) (defBody s__law_means) (defScope s__law_means) [] [] (He.ga K "_law_means") fd ∧ Fb P w K mg base (L + 1) (He.ga K "_law_means") fd ["_law_parts"] (sp__law_means K (d + 1)) := by
  obtain ⟨fd, F⟩ := T.f__law_means
  refine ⟨fd, F, fb_of F sc__law_means (fun vs H Q E h => ?_) (fun cdv A outer s H vs Q E hr h => ?_)⟩
  · obtain ⟨N, p, as, ts, rfl, _⟩ := h
    rfl
  · obtain ⟨N, p, as, ts, rfl, hp, hA, hn, hok, hl, q⟩ := h
    refine ⟨_, (pss_cons (ps_set (i := 1) sc__law_means.nd rfl (Or.inl rfl) (pe_lst pa_nil))
      (pss_cons (ps_for (passes_of rfl) rfl (pi_list (pv 0)) (pg_name (i := 2) sc__law_means.nd rfl (Or.inr rfl))
      (pss_one (ps_if (pt_cmpR op_eq (pe_ix ix_tup (pv 2) pe_int (fun _ _ => rfl)) pe_str (nomark _))
      (pss_one (ps_expr (pe_bm PySem.F.plainAttrs_list PySem.F.slot_list_append PySem.F.type_list_append mt_append (pv 1) (pa_cons (pe_ix ix_tup (pv 2) pe_int (fun _ _ => rfl)) pa_nil))))
      (pss_cons (ps_set (i := 3) sc__law_means.nd rfl (Or.inl rfl) (c_call r__law_means (hr.mono (by omega)) T.g__law_means T.k__law_means takes0 (pa_cons (pe_ix ix_tup (pv 2) pe_int (fun _ _ => rfl)) pa_nil)))
      (pss_one (ps_for (passes_of rfl) rfl (pi_range1 (by rfl) T.n_range (pa_cons (pe_ix ix_tup (pv 2) pe_int (fun _ _ => rfl)) pa_nil)) (pg_name (i := 4) sc__law_means.nd rfl (Or.inr rfl))
      (pss_one (ps_set (i := 1) sc__law_means.nd rfl (Or.inl rfl) (pe_op op_cat (pv 1) (pe_lc (own := [("_law_moment_here", 5)]) (by rfl) sc__law_means.nd (pi_list (pv 3)) (blkOk_by (own := [("_law_moment_here", 5)]) (N := ["_law_parts", "_law_found", "_law_part", "_law_inner_here", "_law_k", "_law_moment_here"]) (sc := defScope s__law_means) (by decide +kernel)) (fun _ _ _ _ _ => (pg_name (i := 5) sc__law_means.nd rfl (Or.inl rfl))) (fun _ _ _ _ _ => pts_nil) (fun _ _ _ _ _ => (pe_op op_add (pv 5) (pe_op op_mul (pv 4) (pe_ix (ix_tupK K) (pv 2) pe_int (fun _ _ => rfl)))))))))))))))
      (pss_one (ps_ret (pv 1))))), ?_⟩
    refine ⟨by show 0 ≤ sizeLine; decide, fun f nf => ?_⟩
    have X0 := ex_new (o := .lst []) nf
    have hl1 := hA.len
    refine ⟨_, rfl, p, rfl, ⟨_, sq_lst (X0 _ _ hp)⟩, for_on as V.ref L2.walk_list (fun i σ H' => Ex H H' ∧ ∃ f v2 v3 v4 v5, H f = none ∧ σ = [some (.ref p), some (.ref f), v2, v3, v4, v5] ∧ H' f = some (.lst (natV (momsL (ts.take i))))) ⟨X0, _, _, _, _, _, nf, rfl, upd_same⟩ (fun i σ H' z => sq_lst (z.1 _ _ hp)) ?_ ?_⟩
    · rintro i a σ H2 hx ⟨X2, f, v2, v3, v4, v5, nf, rfl, hf⟩
      obtain ⟨t, ht, hS⟩ := hA.get hx
      have htm := List.mem_of_getElem? ht
      have eT := momsL_take ht
      have bT := momsL_take_len ts (i + 1)
      rw [eT, List.length_append] at bT
      have hS2 := hS.mono X2
      have hok1 := okL_mem hok htm
      have nm := nestL_mem htm
      cases t with
      | «at» n =>
        unfold LtAt at hS2
        refine ⟨_, rfl, _, _, _, _, rfl, rfl, (sq_tup hS2), rfl, rfl, _, rfl, ?_⟩
        refine iteT ?_
        refine ⟨_, rfl, (.inl ⟨rfl, ⟨_, (sq_lst hf)⟩⟩), _, rfl, _, _, _, _, rfl, rfl, (sq_tup hS2), rfl, _, _, _, rfl, rfl, hf, ?_⟩
        refine ⟨sz_lt (by rw [natV_len]; omega), ex_mut X2 nf, f, _, _, _, _, nf, rfl, ?_⟩
        rw [upd_same, eT, at_moms]
        unfold natV
        rw [List.map_append]
        rfl
      | ov ps m s_ =>
        unfold LtAt at hS2
        obtain ⟨r, bs, hS2, hN, hr2, hB⟩ := hS2
        refine ⟨_, rfl, _, _, _, _, rfl, rfl, (sq_tup hS2), rfl, rfl, _, rfl, ?_⟩
        refine iteF ?_
        obtain ⟨o1, m2, hm, hml, hl2, hpl, hokL⟩ := ov_facts hok1
        refine ⟨_, rfl, _, _, _, _, rfl, rfl, (sq_tup hS2), rfl, _, _, _, _, rfl, hr2, hB, by rw [Tr.nest] at nm; omega, hokL, by omega, fun u H3 X3 nu hu => ?_⟩
        rw [Tr.moms] at eT bT
        generalize momsL ps = ns at *
        have X03 := X2.trans X3
        have hS3 := X3 _ _ hS2
        have hf3 := X3 _ _ hf
        refine ⟨_, rfl, _, _, _, _, rfl, rfl, (sq_tup hS3), rfl, _, rfl, (by omega), (by omega), ?_⟩
        refine for_range (fun j σ H' => Ex H H' ∧ Ex H3 H' ∧ ∃ f v4 v5, H f = none ∧ σ = [some (.ref p), some (.ref f), some (.ref a), some (.ref u), v4, v5] ∧ H' f = some (.lst (natV (momsL (ts.take i) ++ overN ns j s_)))) ⟨X03, .refl _, f, _, _, nf, rfl, by simpa [overN] using hf3⟩ ?_ ?_
        · rintro j σ H4 hj ⟨X4, X34, f4, v4', v5', nf4, rfl, hf4⟩
          have hS4 := X34 _ _ hS3
          have hu4 := X34 _ _ hu
          refine ⟨_, rfl, _, rfl, _, rfl, ⟨_, (sq_lst hu4)⟩, ?_⟩
          have ll : (overN ns j s_).length = j * ns.length := overN_len ns j s_
          have l2 : j * ns.length ≤ m * ns.length := Nat.mul_le_mul_right _ (by omega)
          have l3 : (overN ns m s_).length = m * ns.length := overN_len ns m s_
          intro A nA
          refine lc_on ns (fun n : Nat => V.int n) L2.walk_list (fun n => some (.int ((n + j * s_ : Nat) : Int))) (fun H' => Ex H4 H') (fun H' z e => ex_mut e nA) (.refl _) (by omega) (fun H' e => sq_lst (e _ _ hu4)) (fun y n H5 acc N hn X5 hD la k => ?_) fun H5 X5 d5 => ?_
          · have hS5 := X5 _ _ hS4
            refine ⟨rfl, _, rfl, _, rfl, _, rfl, a, _, _, _, rfl, rfl, sq_tup hS5, rfl, _, _, rfl, rfl, .inl ⟨by omega, by omega⟩, _, _, rfl, rfl, acc, hD, la, ?_⟩
            have e : ((n : Nat) : Int) + (0 + ((j : Nat) : Int)) * ((s_ : Nat) : Int) = ((n + j * s_ : Nat) : Int) := by simp
            show N (upd H5 A (.lst (acc ++ [.int (((n : Nat) : Int) + (0 + ((j : Nat) : Int)) * ((s_ : Nat) : Int))])))
            rw [e]
            exact k H5 X5 hD
          · have ed : ns.filterMap (fun n => some (V.int ((n + j * s_ : Nat) : Int))) = natV (ns.map fun n => n + j * s_) := by
              unfold natV
              rw [List.filterMap_eq_map', List.map_map]
              rfl
            rw [ed] at d5
            refine ⟨f4, A, _, _, rfl, rfl, X5 _ _ hf4, d5, sz_le (by rw [natV_len, natV_len, List.length_map, List.length_append, ll]; omega), fun g ng => ?_⟩
            have X6 := X5.trans (ex_new (o := .lst (natV (momsL (ts.take i) ++ overN ns j s_) ++ natV (ns.map fun n => n + j * s_))) ng)
            refine ⟨X4.trans X6, X34.trans X6, g, _, _, ex_fresh (X4.trans X5) ng, rfl, ?_⟩
            rw [upd_same, overN_succ]
            unfold natV
            rw [← List.map_append, List.append_assoc]
        · rintro σ H4 ⟨X4, X34, f4, v4', v5', nf4, rfl, hf4⟩
          rw [show ((m : Nat) : Int).toNat = m by omega] at hf4
          exact ⟨X4, f4, _, _, _, _, nf4, rfl, by rw [eT]; exact hf4⟩
    · rintro σ H2 ⟨X2, f, v2, v3, v4, v5, nf, rfl, hf⟩
      rw [List.take_of_length_le (by omega)] at hf
      exact ⟨_, rfl, q f H2 X2 nf hf⟩
theorem ok__law_means {P : Program} {w : World} {K : PySem.W.Frag} {mg : Str → Option Value} {base : Heap} (T : Env K mg) {d L : Nat} (hL : 40 ≤ L) (r__law_means : Fc P w K mg base L (He.ga K "_law_means") [] (sp__law_means K d)) : Fc P w K mg base (L + 1) (He.ga K "_law_means") [] (sp__law_means K (d + 1)) := by
  obtain ⟨fd, D, F⟩ := fb__law_means T hL r__law_means
  exact F.all (D.bindsN fun _ _ _ _ _ _ us hl => match us, hl with | [_], _ => rfl)
theorem all__law_means {P : Program} {w : World} {K : PySem.W.Frag} {mg : Str → Option Value} {base : Heap} (T : Env K mg) : ∀ d, Fc P w K mg base (40 + 1 * d) (He.ga K "_law_means") [] (sp__law_means K d)
  | 0 => fc_no fun vs H Q E h => by
    obtain ⟨_, _, _, _, _, _, _, h, _⟩ := h
    omega
  | d + 1 => ok__law_means T (Nat.le_add_right 40 _) (all__law_means T d)
end
section
theorem cut_dropV (xs : List V) (n : Nat) : cutV xs (some (n : Int)) none = xs.drop n := by
  unfold cutV
  rw [HT.sIx_none, HT.sIx_nat]
  by_cases h : n ≤ xs.length
  · rw [Nat.min_eq_left h]
    exact List.take_of_length_le (by rw [List.length_drop]; exact Nat.le_refl _)
  · rw [Nat.min_eq_right (by omega), List.drop_of_length_le (Nat.le_refl _), List.drop_of_length_le (by omega), List.take_nil]
theorem cut_takeV (xs : List V) (n : Nat) : cutV xs none (some (n : Int)) = xs.take n := by
  unfold cutV
  rw [HT.sIx_none, HT.sIx_nat, List.drop_zero, Nat.sub_zero]
  by_cases h : n ≤ xs.length
  · rw [Nat.min_eq_left h]
  · rw [Nat.min_eq_right (by omega), List.take_of_length_le (Nat.le_refl _), List.take_of_length_le (by omega)]
end
section
/-- a part that begins at n -/
def PtOk (t : Tr) (n : Nat) : Prop := t.ok ∧ t.nest ≤ 2 ∧ t.fit ∧ t.pcs ≤ 5 ∧ t.moms.headD 0 = n ∧ t.moms.length ≤ 20 ∧ t.moms.getLastD 0 ≤ n + 1000
theorem pt_ov {ps : List Tr} {m s n : Nat} (h0 : ps ≠ []) (hk : okL_ ps) (hm : 2 ≤ m) (hm4 : m ≤ 4) (hs : 1 ≤ s) (hs2 : s ≤ 200) (hn : nestL ps ≤ 1) (hf : fitL ps) (hp : pcsL ps ≤ 4) (hh : (momsL ps).headD 0 = n) (hl : (momsL ps).length ≤ 4) (hw : (momsL ps).Pairwise (· < ·)) (hla : (momsL ps).getLastD 0 < s + n) : PtOk (.ov ps m s) n := by
  have ne := momsL_ne hk h0
  have ml : m * (momsL ps).length ≤ 4 * 4 := Nat.mul_le_mul hm4 hl
  refine ⟨?_, ?_, ?_, ?_, ?_, ?_, ?_⟩
  · unfold Tr.ok
    exact ⟨h0, hm, hs, by omega, by rw [hh]; exact hla, hw, hk⟩
  · unfold Tr.nest
    omega
  · unfold Tr.fit
    exact ⟨Nat.lt_of_le_of_lt hm4 (by decide +kernel), Nat.lt_of_le_of_lt hs2 (by decide +kernel), hf⟩
  · unfold Tr.pcs
    omega
  · rw [Tr.moms, overN_head ne m (by omega), hh]
  · rw [Tr.moms, overN_len]
    omega
  · rw [Tr.moms, overN_last ne (by omega)]
    have : (m - 1) * s ≤ 3 * 200 := Nat.mul_le_mul (by omega) hs2
    omega
theorem fit_at {n : Nat} (h : n < 10 ^ 60 + 3000) : (Tr.at n).fit := by
  unfold Tr.fit
  exact Nat.lt_trans h (by decide +kernel)
theorem pt_three {n d m s : Nat} (hn : n < 10 ^ 60 + 2000) (d9 : d < 9) (m3 : m < 3) (s9 : s < 90) : PtOk (.ov [.ov [.at n] 2 10, .at (n + 11 + d)] (2 + m) (20 + s)) n := by
  have e1 : (Tr.ov [.at n] 2 10).moms = [n, n + 10] := by
    rw [Tr.moms]
    simp [overN, momsL, Tr.moms, List.range_succ]
  have em : momsL [.ov [.at n] 2 10, .at (n + 11 + d)] = [n, n + 10, n + 11 + d] := by
    show (Tr.ov [.at n] 2 10).moms ++ ((Tr.at (n + 11 + d)).moms ++ []) = _
    rw [e1, at_moms]
    rfl
  have o1 : (Tr.ov [.at n] 2 10).ok := by
    unfold Tr.ok
    refine ⟨nofun, by omega, by omega, ?_, ?_, ?_, okL_one (at_ok n)⟩ <;> rw [momsL_one, at_moms]
    · show 2 * 1 ≤ 1440
      omega
    · show n < 10 + n
      omega
    · exact List.pairwise_singleton _ _
  refine pt_ov nofun ?_ (by omega) (by omega) (by omega) (by omega) ?_ ?_ ?_ ?_ ?_ ?_ ?_
  · unfold okL_
    exact ⟨o1, okL_one (at_ok _)⟩
  · simp [nestL, Tr.nest]
  · unfold fitL fitL fitL
    refine ⟨?_, fit_at (by omega), trivial⟩
    unfold Tr.fit fitL fitL
    exact ⟨by decide +kernel, by decide +kernel, fit_at (by omega), trivial⟩
  · simp [pcsL, Tr.pcs]
  · rw [em]
    rfl
  · rw [em]
    exact Nat.le_of_ble_eq_true rfl
  · rw [em]
    simp
    omega
  · rw [em]
    show n + 11 + d < 20 + s + n
    omega
theorem pt_one {n m s : Nat} (hn : n < 10 ^ 60 + 2000) (m3 : m < 3) (s9 : s < 90) : PtOk (.ov [.at n] (2 + m) (10 + s)) n := by
  have em : momsL [.at n] = [n] := by rw [momsL_one, at_moms]
  refine pt_ov nofun (okL_one (at_ok n)) (by omega) (by omega) (by omega) (by omega) ?_ ?_ ?_ ?_ ?_ ?_ ?_
  · simp [nestL, Tr.nest]
  · unfold fitL fitL
    exact ⟨fit_at (by omega), trivial⟩
  · simp [pcsL, Tr.pcs]
  · rw [em]
    rfl
  · rw [em]
    exact Nat.le_of_ble_eq_true rfl
  · rw [em]
    exact List.pairwise_singleton _ _
  · rw [em]
    show n < 10 + s + n
    omega
theorem pt_two {n d m s : Nat} (hn : n < 10 ^ 60 + 2000) (d9 : d < 9) (m3 : m < 3) (s9 : s < 90) : PtOk (.ov [.at n, .at (n + 1 + d)] (2 + m) (10 + s)) n := by
  have em : momsL [.at n, .at (n + 1 + d)] = [n, n + 1 + d] := by
    show (Tr.at n).moms ++ ((Tr.at (n + 1 + d)).moms ++ []) = _
    rw [at_moms, at_moms]
    rfl
  refine pt_ov nofun ?_ (by omega) (by omega) (by omega) (by omega) ?_ ?_ ?_ ?_ ?_ ?_ ?_
  · unfold okL_
    exact ⟨at_ok n, okL_one (at_ok _)⟩
  · simp [nestL, Tr.nest]
  · unfold fitL fitL fitL
    exact ⟨fit_at (by omega), fit_at (by omega), trivial⟩
  · simp [pcsL, Tr.pcs]
  · rw [em]
    rfl
  · rw [em]
    exact Nat.le_of_ble_eq_true rfl
  · rw [em]
    simp
    omega
  · rw [em]
    show n + 1 + d < 10 + s + n
    omega
theorem fitL_snoc {t : Tr} : ∀ {ts : List Tr}, fitL ts → t.fit → fitL (ts ++ [t])
  | [], _, h => by
    show fitL [t]
    unfold fitL fitL
    exact ⟨h, trivial⟩
  | x :: r, h, k => by
    show fitL (x :: (r ++ [t]))
    unfold fitL at h ⊢
    exact ⟨h.1, fitL_snoc h.2 k⟩
def sp__law_spread (K : PySem.W.Frag) : Sp := fun vs H Q _ => ∃ (p : Addr) (b : Nat), vs = [.ref p, .int (b : Nat)] ∧ PotN 0 H p ∧ b < 10 ^ 60 ∧ ∀ (l : Addr) (as : List Addr) (ps : List Tr) H', SpsOk ps → (∀ n ∈ momsL ps, b ≤ n ∧ n < b + 1440) → H l = none → l ≠ p → H' l = some (.lst (as.map V.ref)) → LtsAt (NewN H p) H' ps as → PotOnN 0 H H' p → Q (.ref l) H'
theorem fb__law_spread {P : Program} {w : World} {K : PySem.W.Frag} {mg : Str → Option Value} {base : Heap} (T : Env K mg) : ∃ fd, FunD K "_law_spread" "_law_spread" (defArgs s__law_spread) (defBody s__law_spread) (defScope s__law_spread) [] [] (He.ga K "_law_spread") fd ∧ Fb P w K mg base 60 (He.ga K "_law_spread") fd ["_law_pot_here", "_law_by"] (sp__law_spread K) := by
  obtain ⟨fd, F⟩ := T.f__law_spread
  refine ⟨fd, F, fb_of F sc__law_spread (fun vs H Q E h => ?_) (fun cdv A outer s H vs Q E hr h => ?_)⟩
  · obtain ⟨p, b, rfl, _⟩ := h
    rfl
  · obtain ⟨p, b, rfl, hp, hb, q⟩ := h
    refine ⟨_, (pss_cons (ps_set (i := 2) sc__law_spread.nd rfl (Or.inl rfl) (pe_lst pa_nil))
      (pss_cons (ps_set (i := 3) sc__law_spread.nd rfl (Or.inl rfl) (c_call (ok__law_draw T) (hr.mono (by decide)) T.g__law_draw T.k__law_draw takes0 (pa_cons (pv 0) (pa_cons pe_int pa_nil))))
      (pss_cons (ps_for (passes_of rfl) rfl (pi_range1 (by rfl) T.n_range (pa_cons (c_call (ok__law_draw T) (hr.mono (by decide)) T.g__law_draw T.k__law_draw takes0 (pa_cons (pv 0) (pa_cons pe_int pa_nil))) pa_nil)) (pg_name (i := 4) sc__law_spread.nd rfl (Or.inl rfl))
      (pss_cons (ps_set (i := 5) sc__law_spread.nd rfl (Or.inl rfl) (c_call (ok__law_draw T) (hr.mono (by decide)) T.g__law_draw T.k__law_draw takes0 (pa_cons (pv 0) (pa_cons pe_int pa_nil))))
      (pss_cons (ps_set (i := 6) sc__law_spread.nd rfl (Or.inl rfl) (pe_tup (pa_cons pe_str (pa_cons (pe_op op_add (pv 1) (pv 3)) pa_nil))))
      (Evl.pss_cut (ps_if (pt_cmpR op_eq (pv 5) pe_int (nomark _))
      (pss_cons (ps_set (i := 7) sc__law_spread.nd rfl (Or.inl rfl) (pe_lst (pa_cons (pe_tup (pa_cons pe_str (pa_cons (pe_lst (pa_cons (pv 6) pa_nil)) (pa_cons pe_int (pa_cons pe_int pa_nil))))) (pa_cons (pe_tup (pa_cons pe_str (pa_cons (pe_op op_add (pe_op op_add (pe_op op_add (pv 1) (pv 3)) pe_int) (c_call (ok__law_draw T) (hr.mono (by decide)) T.g__law_draw T.k__law_draw takes0 (pa_cons (pv 0) (pa_cons pe_int pa_nil)))) pa_nil))) pa_nil))))
      (pss_one (ps_set (i := 6) sc__law_spread.nd rfl (Or.inl rfl) (pe_tup (pa_cons pe_str (pa_cons (pv 7) (pa_cons (pe_op op_add pe_int (c_call (ok__law_draw T) (hr.mono (by decide)) T.g__law_draw T.k__law_draw takes0 (pa_cons (pv 0) (pa_cons pe_int pa_nil)))) (pa_cons (pe_op op_add pe_int (c_call (ok__law_draw T) (hr.mono (by decide)) T.g__law_draw T.k__law_draw takes0 (pa_cons (pv 0) (pa_cons pe_int pa_nil)))) pa_nil))))))))
      pss_nil)
      (Evl.pss_cut (ps_if (pt_cmpR op_eq (pv 5) pe_int (nomark _))
      (pss_cons (ps_set (i := 7) sc__law_spread.nd rfl (Or.inl rfl) (pe_slice sl_list (pe_lst (pa_cons (pv 6) (pa_cons (pe_tup (pa_cons pe_str (pa_cons (pe_op op_add (pe_op op_add (pe_op op_add (pv 1) (pv 3)) pe_int) (c_call (ok__law_draw T) (hr.mono (by decide)) T.g__law_draw T.k__law_draw takes0 (pa_cons (pv 0) (pa_cons pe_int pa_nil)))) pa_nil))) pa_nil))) po_none (po_some (pe_op op_add pe_int (c_call (ok__law_draw T) (hr.mono (by decide)) T.g__law_draw T.k__law_draw takes0 (pa_cons (pv 0) (pa_cons pe_int pa_nil)))))))
      (pss_one (ps_set (i := 6) sc__law_spread.nd rfl (Or.inl rfl) (pe_tup (pa_cons pe_str (pa_cons (pv 7) (pa_cons (pe_op op_add pe_int (c_call (ok__law_draw T) (hr.mono (by decide)) T.g__law_draw T.k__law_draw takes0 (pa_cons (pv 0) (pa_cons pe_int pa_nil)))) (pa_cons (pe_op op_add pe_int (c_call (ok__law_draw T) (hr.mono (by decide)) T.g__law_draw T.k__law_draw takes0 (pa_cons (pv 0) (pa_cons pe_int pa_nil)))) pa_nil))))))))
      pss_nil)
      (pss_cons (ps_set (i := 8) sc__law_spread.nd rfl (Or.inl rfl) (pe_op op_sub (pe_ix ix_list (c_call (all__law_means T 9) (hr.mono (by decide)) T.g__law_means T.k__law_means takes0 (pa_cons (pe_lst (pa_cons (pv 6) pa_nil)) pa_nil)) (pe_un un_neg pe_int) (fun _ _ => rfl)) (pv 1)))
      (pss_one (ps_if (pt_cmpR op_lt (pv 8) pe_int (nomark _))
      (pss_cons (ps_expr (pe_bm PySem.F.plainAttrs_list PySem.F.slot_list_append PySem.F.type_list_append mt_append (pv 2) (pa_cons (pv 6) pa_nil)))
      (pss_one (ps_set (i := 3) sc__law_spread.nd rfl (Or.inl rfl) (pe_op op_add (pe_op op_add (pv 8) pe_int) (c_call (ok__law_draw T) (hr.mono (by decide)) T.g__law_draw T.k__law_draw takes0 (pa_cons (pv 0) (pa_cons pe_int pa_nil)))))))
      pss_nil))))))))
      (pss_one (ps_ret (pv 2)))))), ?_⟩
    refine ⟨by show 0 ≤ sizeLine; decide, fun f nf => ?_⟩
    have fp := hp.not nf
    have P0 := hp.refl.ex2 (ex_new (o := HO.lst []) nf)
    refine ⟨_, rfl, p, 300, rfl, P0.1, by decide, lt_100 (by decide), fun g0 H1 g3 P1 => ?_⟩
    have g3 : g0 < 300 := g3
    have P01 := P0.trans P1
    have hf1 := P1.2 _ _ fp upd_same
    refine ⟨_, rfl, p, 4, rfl, P01.1, by decide, lt_100 (by decide), fun m H2 m4 P2 => ?_⟩
    have m4 : m < 4 := m4
    have P02 := P01.trans P2
    have hf2 := P2.2 _ _ fp hf1
    refine ⟨_, rfl, by omega, by omega, for_range (fun i σ G => PotOnN 0 H G p ∧ ∃ (as : List Addr) (ps : List Tr) (g : Nat) (v4 v5 v6 v7 v8 : Option V), σ = [some (.ref p), some (.int (b : Nat)), some (.ref f), some (.int (g : Nat)), v4, v5, v6, v7, v8] ∧ G f = some (.lst (as.map V.ref)) ∧ LtsAt (fun x => NewN H p x ∧ x ≠ f) G ps as ∧ okL_ ps ∧ nestL ps ≤ 2 ∧ fitL ps ∧ pcsL ps ≤ 5 * i ∧ ps.length ≤ i ∧ (momsL ps).length ≤ 20 * i ∧ (momsL ps).Pairwise (· < ·) ∧ (∀ n ∈ momsL ps, b ≤ n ∧ n < b + g ∧ n < b + 1440) ∧ g ≤ 1440 + 200) ⟨P02, [], [], g0, _, _, _, _, _, rfl, hf2, by unfold LtsAt; rfl, by unfold okL_; trivial, Nat.zero_le _, by unfold fitL; trivial, Nat.zero_le _, Nat.zero_le _, Nat.zero_le _, List.Pairwise.nil, nofun, by omega⟩ ?_ ?_⟩
    · rintro i σ G hi ⟨PG, as, ps, g, v4, v5, v6, v7, v8, rfl, gf, hA, k1, k2, k3, k4, k5, k6, k7, k8, k9⟩
      refine ⟨_, rfl, p, 4, rfl, PG.1, by decide, lt_100 (by decide), fun w G1 w4 Q1 => ?_⟩
      have w4 : w < 4 := w4
      have R1 := PG.trans Q1
      refine ⟨_, rfl, _, rfl, _, _, rfl, rfl, by show 2 ≤ sizeLine; decide, fun t0 nt0 => ?_⟩
      have gf1 := Q1.2 _ _ fp gf
      have hA1 := hA.on PG.1.pot Q1.on
      have X0 := ex_new (o := HO.tup [V.str "at", V.int (((b : Nat) : Int) + ((g : Nat) : Int))]) nt0
      have h0 : upd G1 t0 (HO.tup [V.str "at", V.int (((b : Nat) : Int) + ((g : Nat) : Int))]) t0 = some (HO.tup [V.str "at", V.int (((b : Nat) : Int) + ((g : Nat) : Int))]) := upd_same
      have R2 := R1.ex2 X0
      have gf2 := X0 _ _ gf1
      have hA2 := hA1.mono X0
      generalize upd G1 t0 (HO.tup [V.str "at", V.int (((b : Nat) : Int) + ((g : Nat) : Int))]) = G2 at X0 h0 R2 gf2 hA2 ⊢
      have new : ∀ {F : Hp} {x : Addr}, PotOnN 0 G2 F p → F x = none → NewN H p x ∧ x ≠ f := fun P n => ⟨⟨(R2.trans P).fresh n, P.1.not n⟩, (ne_of_none (P.2 _ _ fp gf2) n).symm⟩
      obtain ⟨n, hn⟩ : ∃ n, n = b + g := ⟨_, rfl⟩
      have h0 : G2 t0 = some (HO.tup [V.str "at", V.int (n : Nat)]) := by
        rw [h0, hn, show ((b : Nat) : Int) + ((g : Nat) : Int) = ((b + g : Nat) : Int) by omega]
      have n60 : n < 10 ^ 60 + 2000 := by omega
      refine ⟨fun σ' F => PotOnN 0 G2 F p ∧ ∃ (t : Addr) (T : Tr) (v7 : Option V), σ' = [some (.ref p), some (.int (b : Nat)), some (.ref f), some (.int (g : Nat)), some (.int (0 + (i : Nat))), some (.int (w : Nat)), some (.ref t), v7, v8] ∧ LtAt (fun x => NewN H p x ∧ x ≠ f) F T t ∧ PtOk T n ∧ (w ≠ 3 → T = .at n), ?_, ?_⟩
      · refine ⟨_, rfl, rfl, _, rfl, ?_⟩
        by_cases c : w = 3
        · subst c
          refine iteT ?_
          refine ⟨_, rfl, (by show 1 ≤ sizeLine; decide), ?_⟩
          intro a1 na1
          have Xa1 := ex_new (o := HO.lst [V.ref t0]) na1
          have ha1 : upd G2 a1 (HO.lst [V.ref t0]) a1 = some (HO.lst [V.ref t0]) := upd_same
          generalize upd G2 a1 (HO.lst [V.ref t0]) = Ga1 at Xa1 ha1 ⊢
          refine ⟨(by show 4 ≤ sizeLine; decide), ?_⟩
          intro a2 na2
          have Xa2 := ex_new (o := HO.tup [V.str (Str.ofString "over"), V.ref a1, V.int 2, V.int 10]) na2
          have ha2 : upd Ga1 a2 (HO.tup [V.str (Str.ofString "over"), V.ref a1, V.int 2, V.int 10]) a2 = some (HO.tup [V.str (Str.ofString "over"), V.ref a1, V.int 2, V.int 10]) := upd_same
          generalize upd Ga1 a2 (HO.tup [V.str (Str.ofString "over"), V.ref a1, V.int 2, V.int 10]) = Ga2 at Xa2 ha2 ⊢
          have S2 := R2.1.refl.ex2 (Xa1.trans Xa2)
          refine ⟨_, rfl, _, rfl, _, _, rfl, rfl, _, _, rfl, rfl, _, rfl, _, _, rfl, S2.1, by decide, lt_100 (by decide), fun d G3 d9 Q3 => ?_⟩
          have d9 : d < 9 := d9
          have S3 := S2.trans Q3
          have na1p := R2.1.not na1
          have na1f := (ne_of_none gf2 na1).symm
          have h03 := Q3.2 _ _ (R1.1.not nt0) (Xa2 _ _ (Xa1 _ _ h0))
          have ha13 := Q3.2 _ _ na1p (Xa2 _ _ ha1)
          refine ⟨_, _, rfl, rfl, by show 2 ≤ sizeLine; decide, fun a3 na3 => ?_⟩
          have Xa3 := ex_new (o := HO.tup [V.str (Str.ofString "at"), V.int (((b : Nat) : Int) + ((g : Nat) : Int) + 11 + ((d : Nat) : Int))]) na3
          have ha3 : upd G3 a3 (HO.tup [V.str (Str.ofString "at"), V.int (((b : Nat) : Int) + ((g : Nat) : Int) + 11 + ((d : Nat) : Int))]) a3 = some (HO.tup [V.str (Str.ofString "at"), V.int (((b : Nat) : Int) + ((g : Nat) : Int) + 11 + ((d : Nat) : Int))]) := upd_same
          generalize upd G3 a3 (HO.tup [V.str (Str.ofString "at"), V.int (((b : Nat) : Int) + ((g : Nat) : Int) + 11 + ((d : Nat) : Int))]) = G4 at Xa3 ha3 ⊢
          have S4 := S3.ex2 Xa3
          have na2p := (R2.ex2 Xa1).1.not na2
          have ha24 := Xa3 _ _ (Q3.2 _ _ na2p ha2)
          have hin : LtAt (fun x => NewN H p x ∧ x ≠ f) G4 (.ov [.at n] 2 10) a2 := by
            unfold LtAt
            exact ⟨a1, [t0], ha24, new R2.1.refl na1, Xa3 _ _ ha13, lts_one (by unfold LtAt; exact Xa3 _ _ h03)⟩
          have hat : LtAt (fun x => NewN H p x ∧ x ≠ f) G4 (.at (n + 11 + d)) a3 := by
            unfold LtAt
            rw [ha3, hn, show ((b : Nat) : Int) + ((g : Nat) : Int) + 11 + ((d : Nat) : Int) = ((b + g + 11 + d : Nat) : Int) by omega]
          have hps : LtsAt (fun x => NewN H p x ∧ x ≠ f) G4 [.ov [.at n] 2 10, .at (n + 11 + d)] [a2, a3] := by
            unfold LtsAt
            exact ⟨a2, [a3], rfl, hin, lts_one hat⟩
          refine ⟨by show 2 ≤ sizeLine; decide, fun a4 na4 => ?_⟩
          have Xa4 := ex_new (o := HO.lst [V.ref a2, V.ref a3]) na4
          have ha4 : upd G4 a4 (HO.lst [V.ref a2, V.ref a3]) a4 = some (HO.lst ([a2, a3].map V.ref)) := upd_same
          have S5 := S4.ex2 Xa4
          have hps := hps.mono Xa4
          have na4n := new S4 na4
          generalize upd G4 a4 (HO.lst [V.ref a2, V.ref a3]) = G5 at Xa4 ha4 S5 hps ⊢
          refine ⟨_, rfl, _, rfl, p, 3, rfl, S5.1, by decide, lt_100 (by decide), fun m3 G6 m33 Q6 => ?_⟩
          have m33 : m3 < 3 := m33
          have S6 := S5.trans Q6
          refine ⟨_, _, rfl, rfl, _, rfl, p, 90, rfl, S6.1, by decide, lt_100 (by decide), fun s9 G7 s90 Q7 => ?_⟩
          have s90 : s9 < 90 := s90
          have S7 := S6.trans Q7
          have hps := (hps.on S5.1.pot Q6.on).on S6.1.pot Q7.on
          have ha4 := Q7.2 _ _ na4n.1.2 (Q6.2 _ _ na4n.1.2 ha4)
          refine ⟨_, _, rfl, rfl, by show 4 ≤ sizeLine; decide, fun a5 na5 => ?_⟩
          have Xa5 := ex_new (o := HO.tup [V.str (Str.ofString "over"), V.ref a4, V.int (2 + ((m3 : Nat) : Int)), V.int (20 + ((s9 : Nat) : Int))]) na5
          have ha5 : upd G7 a5 (HO.tup [V.str (Str.ofString "over"), V.ref a4, V.int (2 + ((m3 : Nat) : Int)), V.int (20 + ((s9 : Nat) : Int))]) a5 = some (HO.tup [V.str (Str.ofString "over"), V.ref a4, V.int (2 + ((m3 : Nat) : Int)), V.int (20 + ((s9 : Nat) : Int))]) := upd_same
          have S8 := S7.ex2 Xa5
          generalize upd G7 a5 (HO.tup [V.str (Str.ofString "over"), V.ref a4, V.int (2 + ((m3 : Nat) : Int)), V.int (20 + ((s9 : Nat) : Int))]) = G8 at Xa5 ha5 S8 ⊢
          refine ⟨S8, a5, .ov [.ov [.at n] 2 10, .at (n + 11 + d)] (2 + m3) (20 + s9), _, rfl, ?_, ?_, fun h => absurd rfl h⟩
          · unfold LtAt
            refine ⟨a4, [a2, a3], ?_, na4n, Xa5 _ _ ha4, hps.mono Xa5⟩
            rw [ha5, show (2 : Int) + ((m3 : Nat) : Int) = ((2 + m3 : Nat) : Int) by omega, show (20 : Int) + ((s9 : Nat) : Int) = ((20 + s9 : Nat) : Int) by omega]
          · exact pt_three n60 d9 m33 s90
        · rw [decide_eq_false (show ¬ V.int ((w : Nat) : Int) = V.int 3 from fun z => c (by injection z with z; omega))]
          refine iteF ⟨R2.1.refl, t0, .at n, _, rfl, by unfold LtAt; exact h0, ⟨at_ok n, by rw [at_nest]; exact Nat.zero_le _, fit_at (by omega), by unfold Tr.pcs; decide, by rw [at_moms]; rfl, by rw [at_moms]; exact Nat.le_of_ble_eq_true rfl, by rw [at_moms]; show n ≤ n + 1000; omega⟩, fun _ => rfl⟩
      rintro σ' F ⟨PF, t, T, v7, rfl, hT, hP, hw3⟩
      refine ⟨fun σ' F => PotOnN 0 G2 F p ∧ ∃ (t : Addr) (T : Tr) (v7 : Option V), σ' = [some (.ref p), some (.int (b : Nat)), some (.ref f), some (.int (g : Nat)), some (.int (0 + (i : Nat))), some (.int (w : Nat)), some (.ref t), v7, v8] ∧ LtAt (fun x => NewN H p x ∧ x ≠ f) F T t ∧ PtOk T n, ?_, ?_⟩
      · refine ⟨_, rfl, rfl, _, rfl, ?_⟩
        by_cases c : w = 2
        · subst c
          refine iteT ?_
          obtain rfl := hw3 (by decide)
          refine ⟨_, rfl, _, rfl, _, rfl, _, _, rfl, rfl, _, _, rfl, rfl, _, rfl, _, _, rfl, PF.1, by decide, lt_100 (by decide), fun d G3 d9 Q3 => ?_⟩
          have d9 : d < 9 := d9
          have S3 := PF.trans Q3
          have hT := hT.on PF.1.pot Q3.on
          refine ⟨_, _, rfl, rfl, by show 2 ≤ sizeLine; decide, fun a3 na3 => ?_⟩
          have Xa3 := ex_new (o := HO.tup [V.str (Str.ofString "at"), V.int (((b : Nat) : Int) + ((g : Nat) : Int) + 1 + ((d : Nat) : Int))]) na3
          have ha3 : upd G3 a3 (HO.tup [V.str (Str.ofString "at"), V.int (((b : Nat) : Int) + ((g : Nat) : Int) + 1 + ((d : Nat) : Int))]) a3 = some (HO.tup [V.str (Str.ofString "at"), V.int (((b : Nat) : Int) + ((g : Nat) : Int) + 1 + ((d : Nat) : Int))]) := upd_same
          have S4 := S3.ex2 Xa3
          have hT := hT.mono Xa3
          generalize upd G3 a3 (HO.tup [V.str (Str.ofString "at"), V.int (((b : Nat) : Int) + ((g : Nat) : Int) + 1 + ((d : Nat) : Int))]) = G4 at Xa3 ha3 S4 hT ⊢
          have hat : LtAt (fun x => NewN H p x ∧ x ≠ f) G4 (.at (n + 1 + d)) a3 := by
            unfold LtAt
            rw [ha3, hn, show ((b : Nat) : Int) + ((g : Nat) : Int) + 1 + ((d : Nat) : Int) = ((b + g + 1 + d : Nat) : Int) by omega]
          have hps : LtsAt (fun x => NewN H p x ∧ x ≠ f) G4 [.at n, .at (n + 1 + d)] [t, a3] := by
            unfold LtsAt
            exact ⟨t, [a3], rfl, hT, lts_one hat⟩
          refine ⟨by show 2 ≤ sizeLine; decide, fun a4 na4 => ?_⟩
          have Xa4 := ex_new (o := HO.lst [V.ref t, V.ref a3]) na4
          have ha4 : upd G4 a4 (HO.lst [V.ref t, V.ref a3]) a4 = some (HO.lst ([t, a3].map V.ref)) := upd_same
          have S5 := S4.ex2 Xa4
          have hps := hps.mono Xa4
          have na4n := new S4 na4
          generalize upd G4 a4 (HO.lst [V.ref t, V.ref a3]) = G5 at Xa4 ha4 S5 hps ⊢
          dsimp only [tNoPart]
          refine ⟨_, rfl, p, 2, rfl, S5.1, by decide, lt_100 (by decide), fun d2 G6 d22 Q6 => ?_⟩
          have d22 : d2 < 2 := d22
          have S6 := S5.trans Q6
          have hps := hps.on S5.1.pot Q6.on
          have ha4 := Q6.2 _ _ na4n.1.2 ha4
          refine ⟨_, _, rfl, rfl, _, rfl, a4, _, rfl, sq_lst ha4, fun a5 na5 => ?_⟩
          obtain ⟨as2, ps2, ec, hps2, hq⟩ : ∃ (as2 : List Addr) (ps2 : List Tr), cutV ([t, a3].map V.ref) none (some (1 + ((d2 : Nat) : Int))) = as2.map V.ref ∧ LtsAt (fun x => NewN H p x ∧ x ≠ f) G6 ps2 as2 ∧ ∀ m s : Nat, m < 3 → s < 90 → PtOk (.ov ps2 (2 + m) (10 + s)) n := by
            rw [show (1 : Int) + ((d2 : Nat) : Int) = ((1 + d2 : Nat) : Int) by omega, cut_takeV]
            rcases (by omega : d2 = 0 ∨ d2 = 1) with rfl | rfl
            · refine ⟨[t], [.at n], rfl, ?_, fun m s hm hs => pt_one n60 hm hs⟩
              unfold LtsAt at hps
              obtain ⟨_, _, e, h1, _⟩ := hps
              cases e
              exact lts_one h1
            · exact ⟨[t, a3], [.at n, .at (n + 1 + d)], rfl, hps, fun m s hm hs => pt_two n60 d9 hm hs⟩
          rw [ec]
          have Xa5 := ex_new (o := HO.lst (as2.map V.ref)) na5
          have ha5 : upd G6 a5 (HO.lst (as2.map V.ref)) a5 = some (HO.lst (as2.map V.ref)) := upd_same
          have S7 := S6.ex2 Xa5
          have hps2 := hps2.mono Xa5
          have na5n := new S6 na5
          generalize upd G6 a5 (HO.lst (as2.map V.ref)) = G7 at Xa5 ha5 S7 hps2 ⊢
          refine ⟨_, rfl, _, rfl, p, 3, rfl, S7.1, by decide, lt_100 (by decide), fun m3 G8 m33 Q8 => ?_⟩
          have m33 : m3 < 3 := m33
          have S8 := S7.trans Q8
          refine ⟨_, _, rfl, rfl, _, rfl, p, 90, rfl, S8.1, by decide, lt_100 (by decide), fun s9 G9 s90 Q9 => ?_⟩
          have s90 : s9 < 90 := s90
          have S9 := S8.trans Q9
          have hps2 := (hps2.on S7.1.pot Q8.on).on S8.1.pot Q9.on
          have ha5 := Q9.2 _ _ na5n.1.2 (Q8.2 _ _ na5n.1.2 ha5)
          refine ⟨_, _, rfl, rfl, by show 4 ≤ sizeLine; decide, fun a6 na6 => ?_⟩
          have Xa6 := ex_new (o := HO.tup [V.str (Str.ofString "over"), V.ref a5, V.int (2 + ((m3 : Nat) : Int)), V.int (10 + ((s9 : Nat) : Int))]) na6
          have ha6 : upd G9 a6 (HO.tup [V.str (Str.ofString "over"), V.ref a5, V.int (2 + ((m3 : Nat) : Int)), V.int (10 + ((s9 : Nat) : Int))]) a6 = some (HO.tup [V.str (Str.ofString "over"), V.ref a5, V.int (2 + ((m3 : Nat) : Int)), V.int (10 + ((s9 : Nat) : Int))]) := upd_same
          have Sa := S9.ex2 Xa6
          generalize upd G9 a6 (HO.tup [V.str (Str.ofString "over"), V.ref a5, V.int (2 + ((m3 : Nat) : Int)), V.int (10 + ((s9 : Nat) : Int))]) = Ga at Xa6 ha6 Sa ⊢
          refine ⟨Sa, a6, .ov ps2 (2 + m3) (10 + s9), _, rfl, ?_, hq m3 s9 m33 s90⟩
          unfold LtAt
          refine ⟨a5, as2, ?_, na5n, Xa6 _ _ ha5, hps2.mono Xa6⟩
          rw [ha6, show (2 : Int) + ((m3 : Nat) : Int) = ((2 + m3 : Nat) : Int) by omega, show (10 : Int) + ((s9 : Nat) : Int) = ((10 + s9 : Nat) : Int) by omega]
        · rw [decide_eq_false (show ¬ V.int ((w : Nat) : Int) = V.int 2 from fun z => c (by injection z with z; omega))]
          exact iteF ⟨PF, t, T, _, rfl, hT, hP⟩
      rintro σ' F ⟨PF, t, T, v7, rfl, hT, hP⟩
      refine ⟨_, rfl, (by show 1 ≤ sizeLine; decide), ?_⟩
      intro a1 na1
      have Xa1 := ex_new (o := HO.lst [V.ref t]) na1
      have ha1 : upd F a1 (HO.lst [V.ref t]) a1 = some (HO.lst [V.ref t]) := upd_same
      generalize upd F a1 (HO.lst [V.ref t]) = Ga1 at Xa1 ha1 ⊢
      obtain ⟨p1, p2, p3, p4, p5, p6, p7⟩ := hP
      have gF := Xa1 _ _ (PF.2 _ _ fp gf2)
      have hTa := hT.mono Xa1
      have hAa := (hA2.on R2.1.pot PF.on).mono Xa1
      have S1 := PF.ex2 Xa1
      dsimp only [tNil]
      refine ⟨_, a1, [t], [T], rfl, ha1, lts_one hTa, by rw [nestL_one]; omega, okL_one p1, by rw [momsL_one]; omega, fun u Gb Xb nu hu => ?_⟩
      rw [momsL_one] at hu
      have mne := moms_ne p1
      have srt1 := sorted_moms p1
      obtain ⟨L, hL⟩ : ∃ L, L = T.moms.getLastD 0 := ⟨_, rfl⟩
      have nL : n ≤ L := by
        have h1 := le_lastD srt1 _ (headD_mem mne)
        omega
      have gFb := Xb _ _ gF
      have hTb := hTa.mono Xb
      have hAb := hAa.mono Xb
      have S2 := S1.ex2 Xb
      refine ⟨_, rfl, u, _, _, _, rfl, rfl, sq_lst hu, at_lastN mne, _, rfl, _, _, rfl, rfl, ?_⟩
      rw [← hL]
      refine ⟨_, rfl, _, _, rfl, rfl, _, rfl, ?_⟩
      by_cases c : L - b < 1440
      · rw [decide_eq_true (show ((L : Nat) : Int) - ((b : Nat) : Int) < 1440 by omega)]
        refine iteT ?_
        refine ⟨_, rfl, (.inl ⟨rfl, ⟨_, (sq_lst gFb)⟩⟩), _, rfl, f, _, _, rfl, rfl, gFb, sz_lt (by rw [List.length_map, hAb.len]; omega), ?_⟩
        have Ru := (R2.trans S2).upd (o := HO.lst (as.map V.ref ++ [V.ref t])) nf fp
        have hAc := (hAb.snoc hTb).keep (keeps_put (o := HO.lst (as.map V.ref ++ [V.ref t])) gFb fun x hx => hx.2)
        have gFc : upd Gb f (HO.lst (as.map V.ref ++ [V.ref t])) f = some (HO.lst ((as ++ [t]).map V.ref)) := by rw [upd_same, List.map_append]; rfl
        generalize upd Gb f (HO.lst (as.map V.ref ++ [V.ref t])) = Gc at Ru hAc gFc ⊢
        refine ⟨_, rfl, _, _, rfl, rfl, _, rfl, p, 200, rfl, Ru.1, by decide, lt_100 (by decide), fun d Gd d20 Qd => ?_⟩
        have d20 : d < 200 := d20
        refine ⟨_, _, rfl, rfl, Ru.trans Qd, as ++ [t], ps ++ [T], L - b + 1 + d, some (.int (0 + (i : Nat))), some (.int (w : Nat)), some (.ref t), v7, some (.int (((L : Nat) : Int) - ((b : Nat) : Int))), ?_, Qd.2 _ _ fp gFc, hAc.on Ru.1.pot Qd.on, okL_snoc k1 p1, ?_, fitL_snoc k3 p3, ?_, ?_, ?_, ?_, ?_, by omega⟩
        · show _ = [some (V.ref p), some (V.int (b : Nat)), some (V.ref f), some (V.int ((L - b + 1 + d : Nat) : Int)), some (V.int (0 + (i : Nat))), some (V.int (w : Nat)), some (V.ref t), v7, some (V.int (((L : Nat) : Int) - ((b : Nat) : Int)))]
          rw [show ((L - b + 1 + d : Nat) : Int) = ((L : Nat) : Int) - ((b : Nat) : Int) + 1 + ((d : Nat) : Int) by omega]
          rfl
        · rw [nestL_app, nestL_one]
          omega
        · rw [pcsL_app, pcsL_one]
          omega
        · rw [List.length_append]
          show _ + 1 ≤ _
          omega
        · rw [momsL_snoc, List.length_append]
          omega
        · rw [momsL_snoc]
          refine List.pairwise_append.mpr ⟨k7, srt1, fun x hx y hy => ?_⟩
          have h1 := (k8 x hx).2.1
          have h2 := headD_le srt1 y hy
          omega
        · intro x hx
          rw [momsL_snoc] at hx
          rcases List.mem_append.mp hx with hx | hx
          · have := k8 x hx
            omega
          · have h1 := headD_le srt1 x hx
            have h2 := le_lastD srt1 x hx
            omega
      · rw [decide_eq_false (show ¬ ((L : Nat) : Int) - ((b : Nat) : Int) < 1440 by omega)]
        exact iteF ⟨R2.trans S2, as, ps, g, _, _, _, _, _, rfl, gFb, hAb, k1, k2, k3, by omega, by omega, by omega, k7, k8, k9⟩
    · rintro σ G ⟨PG, as, ps, g, v4, v5, v6, v7, v8, rfl, gf, hA, k1, k2, k3, k4, k5, k6, k7, k8, k9⟩
      refine ⟨_, rfl, ?_⟩
      have e3 : ((m : Nat) : Int).toNat ≤ 3 := by omega
      refine q f as ps G ⟨k1, k2, k3, by omega, ?_, k7⟩ (fun n hn => ⟨(k8 n hn).1, (k8 n hn).2.2⟩) nf fp gf (hA.imp fun x h => h.1) PG
      unfold sprB
      rw [ris_of k1 k7, decide_eq_true (by omega)]
      rfl
theorem ok__law_spread {P : Program} {w : World} {K : PySem.W.Frag} {mg : Str → Option Value} {base : Heap} (T : Env K mg) : Fc P w K mg base 60 (He.ga K "_law_spread") [] (sp__law_spread K ) := by
  obtain ⟨fd, D, F⟩ := fb__law_spread T
  exact F.all (D.bindsN fun _ _ _ _ _ _ us hl => match us, hl with | [_, _], _ => rfl)
end
section
theorem natV_drop (ns : List Nat) (n : Nat) : (natV ns).drop n = natV (ns.drop n) := by
  unfold natV
  rw [List.map_drop]
theorem natV_take (ns : List Nat) (n : Nat) : (natV ns).take n = natV (ns.take n) := by
  unfold natV
  rw [List.map_take]
end
section
def sp__law_days (K : PySem.W.Frag) : Sp := fun vs H Q _ => ∃ (p : Addr) (b : Nat), vs = [.ref p, .int (b : Nat)] ∧ PotN 0 H p ∧ 1 ≤ b ∧ b ≤ 10 ^ 56 ∧ ∀ (t g l : Addr) (D : DaysD) H', DysOk D → SomeAt H' t g l D → H t = none → t ≠ p → H g = none → g ≠ p → H l = none → l ≠ p → PotOnN 0 H H' p → Q (.ref t) H'
theorem fb__law_days {P : Program} {w : World} {K : PySem.W.Frag} {mg : Str → Option Value} {base : Heap} (T : Env K mg) : ∃ fd, FunD K "_law_days" "_law_days" (defArgs s__law_days) (defBody s__law_days) (defScope s__law_days) [] [] (He.ga K "_law_days") fd ∧ Fb P w K mg base 2 (He.ga K "_law_days") fd ["_law_pot_here", "_law_size"] (sp__law_days K) := by
  obtain ⟨fd, F⟩ := T.f__law_days
  refine ⟨fd, F, fb_of F sc__law_days (fun vs H Q E h => ?_) (fun cdv A outer s H vs Q E hr h => ?_)⟩
  · obtain ⟨p, b, rfl, _⟩ := h
    rfl
  · obtain ⟨p, b, rfl, hp, hb1, hb, q⟩ := h
    refine ⟨_, (Evl.pss_cut (ps_set (i := 2) sc__law_days.nd rfl (Or.inl rfl) (pe_join pe_str (pe_lc (own := [("_law_k", 7)]) (by rfl) sc__law_days.nd (pi_range1 (by rfl) T.n_range (pa_cons (pe_op op_add pe_int (c_call (ok__law_draw T) (hr.mono (by decide)) T.g__law_draw T.k__law_draw takes0 (pa_cons (pv 0) (pa_cons pe_int pa_nil)))) pa_nil)) (blkOk_by (own := [("_law_k", 7)]) (N := ["_law_pot_here", "_law_size", "_law_ring", "_law_since", "_law_ends", "_law_till", "_law_days_here", "_law_k", "_law_near", "_law_day", "_law_cut"]) (sc := defScope s__law_days) (by decide +kernel)) (fun _ _ _ _ _ => (pg_name (i := 7) sc__law_days.nd rfl (Or.inl rfl))) (fun _ _ _ _ _ => pts_nil) (fun _ _ _ _ _ => (pe_ix ix_str pe_str (c_call (ok__law_draw T) (hr.mono (by decide)) T.g__law_draw T.k__law_draw takes0 (pa_cons (pv 0) (pa_cons pe_int pa_nil))) (fun _ _ => rfl))))))
      (pss_cons (ps_set (i := 3) sc__law_days.nd rfl (Or.inl rfl) (c_call (ok__law_draw T) (hr.mono (by decide)) T.g__law_draw T.k__law_draw takes0 (pa_cons (pv 0) (pa_cons (pe_ix ix_list (pe_lst (pa_cons pe_int (pa_cons (pv 1) pa_nil))) (c_call (ok__law_draw T) (hr.mono (by decide)) T.g__law_draw T.k__law_draw takes0 (pa_cons (pv 0) (pa_cons pe_int pa_nil))) (fun _ _ => rfl)) pa_nil))))
      (pss_cons (ps_set (i := 4) sc__law_days.nd rfl (Or.inl rfl) (c_call (ok__law_draw T) (hr.mono (by decide)) T.g__law_draw T.k__law_draw takes0 (pa_cons (pv 0) (pa_cons pe_int pa_nil))))
      (pss_cons (ps_set (i := 5) sc__law_days.nd rfl (Or.inl rfl) pe_non)
      (Evl.pss_cut (ps_if (pt_cmpR op_eq (pv 4) pe_int (nomark _))
      (pss_one (ps_set (i := 5) sc__law_days.nd rfl (Or.inl rfl) (pe_op op_add (pv 3) (c_call (ok__law_draw T) (hr.mono (by decide)) T.g__law_draw T.k__law_draw takes0 (pa_cons (pv 0) (pa_cons (pv 1) pa_nil))))))
      pss_nil)
      (pss_cons (ps_set (i := 6) sc__law_days.nd rfl (Or.inl rfl) (pe_lst pa_nil))
      (pss_cons (ps_for (passes_of rfl) rfl (pi_range1 (by rfl) T.n_range (pa_cons (c_call (ok__law_draw T) (hr.mono (by decide)) T.g__law_draw T.k__law_draw takes0 (pa_cons (pv 0) (pa_cons pe_int pa_nil))) pa_nil)) (pg_name (i := 7) sc__law_days.nd rfl (Or.inl rfl))
      (pss_cons (ps_set (i := 8) sc__law_days.nd rfl (Or.inl rfl) (c_call (ok__law_draw T) (hr.mono (by decide)) T.g__law_draw T.k__law_draw takes0 (pa_cons (pv 0) (pa_cons pe_int pa_nil))))
      (pss_cons (ps_set (i := 9) sc__law_days.nd rfl (Or.inl rfl) (pe_ix ix_list (pe_lst (pa_cons (c_call (ok__law_draw T) (hr.mono (by decide)) T.g__law_draw T.k__law_draw takes0 (pa_cons (pv 0) (pa_cons (pv 1) pa_nil))) (pa_cons (pe_op op_add (pv 3) (c_call (ok__law_draw T) (hr.mono (by decide)) T.g__law_draw T.k__law_draw takes0 (pa_cons (pv 0) (pa_cons pe_int pa_nil)))) pa_nil))) (pv 8) (fun _ _ => rfl)))
      (pss_one (ps_if (pt_cmpR op_notIn_seq (pv 9) (pv 6) (by rfl))
      (pss_one (ps_expr (pe_bm PySem.F.plainAttrs_list PySem.F.slot_list_append PySem.F.type_list_append mt_append (pv 6) (pa_cons (pv 9) pa_nil))))
      pss_nil)))))
      (pss_cons (ps_set (i := 10) sc__law_days.nd rfl (Or.inl rfl) (c_call (ok__law_draw T) (hr.mono (by decide)) T.g__law_draw T.k__law_draw takes0 (pa_cons (pv 0) (pa_cons pe_int pa_nil))))
      (pss_one (ps_ret (pe_tup (pa_cons (pv 2) (pa_cons (pv 3) (pa_cons (pv 5) (pa_cons (pe_slice sl_list (pv 6) po_none (po_some (pv 10))) (pa_cons (pe_slice sl_list (pv 6) (po_some (pv 10)) po_none) pa_nil)))))))))))))))), ?_⟩
    have b100 : b < 10 ^ 100 := Nat.lt_of_le_of_lt hb (by decide +kernel)
    refine ⟨fun σ' G => PotOnN 0 H G p ∧ ∃ bits : List Nat, sgn bits = true ∧ σ' = [some (.ref p), some (.int (b : Nat)), some (.str (SX.S bits)), none, none, none, none, none, none, none, none], ?_, ?_⟩
    · refine ⟨⟨_, rfl⟩, _, rfl, p, 7, rfl, hp, by decide, lt_100 (by decide), fun s0 G0 s7 P0 => ?_⟩
      have s7 : s0 < 7 := s7
      obtain ⟨nb, hnb⟩ : ∃ nb, nb = s0 + 1 := ⟨_, rfl⟩
      refine ⟨_, _, rfl, rfl, _, rfl, by omega, by omega, fun A nA => ?_⟩
      rw [show (1 : Int) + ((s0 : Nat) : Int) = ((nb : Nat) : Int) by omega]
      have Ap : A ≠ p := P0.1.not nA
      have nA0 : H A = none := P0.fresh nA
      refine lc_any (n := ((nb : Nat) : Int).toNat) (J := Itr 0 ((nb : Nat) : Int).toNat) L2.walk_range (fun i acc G => PotOnN 0 H G p ∧ ∃ l : List Nat, acc = l.map (fun c => V.str (SX.S [c])) ∧ l.length = i ∧ l.all (fun c => c == 48 || c == 49) = true) (fun i acc G l e => ⟨e.1.upd nA0 Ap, e.2⟩) ⟨P0, [], rfl, rfl, rfl⟩ (by omega) (fun i acc G e => ?_) (fun _ _ _ _ => trivial) (fun i x H2 H3 acc N hi e hD la y k _ => ?_) (fun acc G2 e hD => ?_)
      · obtain ⟨_, l, rfl, hl, _⟩ := e
        simp [hl]
      · obtain ⟨rfl, rfl⟩ := y
        obtain ⟨P2, l, rfl, hl, ha⟩ := e
        refine ⟨rfl, _, rfl, p, 2, rfl, P2.1, by decide, lt_100 (by decide), fun d H4 d3 P4 => ?_⟩
        have d3 : d < 2 := d3
        have hD4 := P4.2 _ _ Ap hD
        rcases (by omega : d = 0 ∨ d = 1) with rfl | rfl
        · refine ⟨_, _, 48, rfl, rfl, by show 2 ≤ sizeLine; decide, rfl, _, hD4, la, ?_⟩
          exact k _ H4 hD4 ⟨P2.trans P4, l ++ [48], by simp, by simp [hl], by simp [ha]⟩
        · refine ⟨_, _, 49, rfl, rfl, by show 2 ≤ sizeLine; decide, rfl, _, hD4, la, ?_⟩
          exact k _ H4 hD4 ⟨P2.trans P4, l ++ [49], by simp, by simp [hl], by simp [ha]⟩
      · obtain ⟨P2, bits, rfl, hl, hb01⟩ := e
        refine ⟨_, _, bits.map (fun c => SX.S [c]), rfl, rfl, .inl (sq_lst (by rw [hD, List.map_map]; rfl)), ?_, ?_⟩
        · have : ∀ l : List Nat, ((l.map (fun c => SX.S [c])).map (·.length)).sum = l.length := fun l => by
            induction l with
            | nil => rfl
            | cons c r ih =>
              show 1 + ((r.map (fun c => SX.S [c])).map (·.length)).sum = r.length + 1
              omega
          rw [this, List.length_map]
          have z : (Str.ofString "").length = 0 := rfl
          rw [z]
          omega
        rw [join_signs]
        refine ⟨P2, bits, ?_, rfl⟩
        unfold sgn
        rw [hb01, decide_eq_true (by omega)]
        rfl
    rintro σ' G0 ⟨P0, bits, hsg, rfl⟩
    refine ⟨_, rfl, _, rfl, by show 2 ≤ sizeLine; decide, fun a1 na1 => ?_⟩
    have Xa1 := ex_new (o := HO.lst [V.int 1, V.int (b : Nat)]) na1
    have ha1 : upd G0 a1 (HO.lst [V.int 1, V.int (b : Nat)]) a1 = some (HO.lst [V.int 1, V.int (b : Nat)]) := upd_same
    have P1 := P0.ex2 Xa1
    have a1p := P0.1.not na1
    refine ⟨_, rfl, p, 2, rfl, P1.1, by decide, lt_100 (by decide), fun d G1 d3 Q1 => ?_⟩
    have d3 : d < 2 := d3
    obtain ⟨m, es, m1, mb⟩ : ∃ m : Nat, atI [V.int 1, V.int (b : Nat)] (d : Nat) = some (.int (m : Nat)) ∧ 1 ≤ m ∧ m ≤ 10 ^ 56 := by
      rcases (by omega : d = 0 ∨ d = 1) with rfl | rfl
      · exact ⟨1, rfl, by omega, Nat.one_le_pow _ _ (by decide)⟩
      · exact ⟨b, rfl, hb1, hb⟩
    have P2 := P1.trans Q1
    refine ⟨a1, _, _, _, rfl, rfl, sq_lst (Q1.2 _ _ a1p ha1), es, p, m, rfl, P2.1, by omega, Nat.lt_of_le_of_lt mb (by decide +kernel), fun s G2 sm Q2 => ?_⟩
    have P3 := P2.trans Q2
    refine ⟨_, rfl, p, 2, rfl, P3.1, by decide, lt_100 (by decide), fun e0 G3 e2 Q3 => ?_⟩
    have e2 : e0 < 2 := e2
    have P4 := P3.trans Q3
    refine ⟨fun σ' G => PotOnN 0 H G p ∧ ∃ o : Option Nat, (∀ u, o = some u → s ≤ u ∧ u < s + 10 ^ 56) ∧ σ' = [some (.ref p), some (.int (b : Nat)), some (.str (SX.S bits)), some (.int (s : Nat)), some (.int (e0 : Nat)), some (optV o), none, none, none, none, none], ?_, ?_⟩
    · refine ⟨_, rfl, rfl, _, rfl, ?_⟩
      by_cases c : e0 = 1
      · subst c
        refine iteT ?_
        refine ⟨_, rfl, _, rfl, _, rfl, p, b, rfl, P4.1, hb1, b100, fun k1 G5 k1b Q5 => ?_⟩
        refine ⟨_, _, rfl, rfl, P4.trans Q5, some (s + k1), fun u e => by cases e; omega, ?_⟩
        show _ = [some (V.ref p), some (V.int (b : Nat)), some (V.str (SX.S bits)), some (V.int (s : Nat)), some (V.int ((1 : Nat) : Int)), some (V.int ((s + k1 : Nat) : Int)), none, none, none, none, none]
        rw [show ((s + k1 : Nat) : Int) = ((s : Nat) : Int) + ((k1 : Nat) : Int) by omega]
        rfl
      · rw [decide_eq_false (show ¬ V.int ((e0 : Nat) : Int) = V.int 1 from fun z => c (by injection z with z; omega))]
        exact iteF ⟨P4, none, nofun, rfl⟩
    rintro σ' G4 ⟨P5, o, ho, rfl⟩
    have sb : s < 10 ^ 56 := by omega
    refine ⟨by show 0 ≤ sizeLine; decide, fun f nf => ?_⟩
    have fp := P5.1.not nf
    have nf0 := P5.fresh nf
    have P6 := P5.ex2 (ex_new (o := HO.lst []) nf)
    refine ⟨_, rfl, p, 5, rfl, P6.1, by decide, lt_100 (by decide), fun m5 G5 m5b Q5 => ?_⟩
    have m5b : m5 < 5 := m5b
    have hf5 := Q5.2 _ _ fp upd_same
    have P7 := P6.trans Q5
    refine ⟨_, rfl, by omega, by omega, for_range (fun i σ G => PotOnN 0 H G p ∧ ∃ l v7 v8 v9, σ = [some (.ref p), some (.int (b : Nat)), some (.str (SX.S bits)), some (.int (s : Nat)), some (.int (e0 : Nat)), some (optV o), some (.ref f), v7, v8, v9, none] ∧ G f = some (.lst (natV l)) ∧ l.Nodup ∧ l.length ≤ i ∧ ∀ x ∈ l, x < 10 ^ 57) ⟨P7, [], _, _, _, rfl, hf5, List.nodup_nil, Nat.le_refl _, nofun⟩ ?_ ?_⟩
    · rintro i σ G hi ⟨PG, l, v7, v8, v9, rfl, gf, nd, ll, lb⟩
      refine ⟨_, rfl, p, 2, rfl, PG.1, by decide, lt_100 (by decide), fun nr G6 nr2 Q6 => ?_⟩
      have nr2 : nr < 2 := nr2
      have R1 := PG.trans Q6
      refine ⟨_, rfl, _, rfl, p, b, rfl, R1.1, hb1, b100, fun x1 G7 x1b Q7 => ?_⟩
      have R2 := R1.trans Q7
      refine ⟨_, rfl, _, rfl, p, 9, rfl, R2.1, by decide, lt_100 (by decide), fun x2 G8 x2b Q8 => ?_⟩
      have x2b : x2 < 9 := x2b
      have R3 := R2.trans Q8
      refine ⟨_, _, rfl, rfl, by show 2 ≤ sizeLine; decide, fun a3 na3 => ?_⟩
      have X3 := ex_new (o := HO.lst [V.int (x1 : Nat), V.int ((s : Nat) + (x2 : Nat))]) na3
      have h3 : upd G8 a3 (HO.lst [V.int (x1 : Nat), V.int ((s : Nat) + (x2 : Nat))]) a3 = some (HO.lst [V.int (x1 : Nat), V.int ((s : Nat) + (x2 : Nat))]) := upd_same
      have gf9 := X3 _ _ (Q8.2 _ _ fp (Q7.2 _ _ fp (Q6.2 _ _ fp gf)))
      have R4 := R3.ex2 X3
      generalize upd G8 a3 (HO.lst [V.int (x1 : Nat), V.int ((s : Nat) + (x2 : Nat))]) = G9 at X3 h3 gf9 R4 ⊢
      obtain ⟨y, ey, yb⟩ : ∃ y : Nat, atI [V.int (x1 : Nat), V.int ((s : Nat) + (x2 : Nat))] (nr : Nat) = some (.int (y : Nat)) ∧ y < 10 ^ 57 := by
        have e57 : (10 : Nat) ^ 56 + 10 < 10 ^ 57 := by decide +kernel
        rcases (by omega : nr = 0 ∨ nr = 1) with rfl | rfl
        · exact ⟨x1, rfl, by omega⟩
        · exact ⟨s + x2, rfl, by omega⟩
      refine ⟨_, rfl, a3, _, _, _, rfl, rfl, sq_lst h3, ey, ?_⟩
      refine ⟨_, rfl, _, rfl, f, _, rfl, .inl (sq_lst gf9), rfl, flat_nat _, _, rfl, ?_⟩
      rw [if_pos rfl, inV_nat]
      by_cases c : y ∈ l
      · rw [decide_eq_true c]
        exact iteF ⟨R4, l, _, _, _, rfl, gf9, nd, by omega, lb⟩
      · rw [decide_eq_false c]
        refine iteT ?_
        refine ⟨_, rfl, (.inl ⟨rfl, ⟨_, (sq_lst gf9)⟩⟩), _, rfl, f, _, _, rfl, rfl, gf9, sz_lt (by rw [natV_len]; omega), ?_⟩
        exact ⟨R4.upd nf0 fp, l ++ [y], _, _, _, rfl, by rw [upd_same]; exact congrArg (fun z => some (HO.lst z)) (natV_snoc _ _), List.nodup_append.mpr ⟨nd, List.pairwise_singleton _ _, fun x hx z hz e => c (by rw [← List.mem_singleton.mp hz, ← e]; exact hx)⟩, by rw [List.length_append]; show _ + 1 ≤ _; omega, fun x hx => (List.mem_append.mp hx).elim (lb x) fun z => by rw [List.mem_singleton.mp z]; exact yb⟩
    · rintro σ G ⟨PG, l, v7, v8, v9, rfl, gf, nd, ll, lb⟩
      refine ⟨_, rfl, p, 5, rfl, PG.1, by decide, lt_100 (by decide), fun ct G6 ct5 Q6 => ?_⟩
      have R1 := PG.trans Q6
      have gf6 := Q6.2 _ _ fp gf
      refine ⟨_, rfl, _, rfl, _, rfl, _, rfl, _, rfl, _, rfl, _, _, rfl, (sq_lst gf6), ?_⟩
      intro a2 na2
      have Xa2 := ex_new (o := HO.lst (cutV (natV l) none (some (↑ct : Int)))) na2
      have ha2 : upd G6 a2 (HO.lst (cutV (natV l) none (some (↑ct : Int)))) a2 = some (HO.lst (cutV (natV l) none (some (↑ct : Int)))) := upd_same
      generalize upd G6 a2 (HO.lst (cutV (natV l) none (some (↑ct : Int)))) = Ga2 at Xa2 ha2 ⊢
      refine ⟨_, rfl, _, rfl, _, rfl, _, _, rfl, (sq_lst (Xa2 _ _ gf6)), ?_⟩
      intro a3 na3
      have Xa3 := ex_new (o := HO.lst (cutV (natV l) (some (↑ct : Int)) none)) na3
      have ha3 : upd Ga2 a3 (HO.lst (cutV (natV l) (some (↑ct : Int)) none)) a3 = some (HO.lst (cutV (natV l) (some (↑ct : Int)) none)) := upd_same
      generalize upd Ga2 a3 (HO.lst (cutV (natV l) (some (↑ct : Int)) none)) = Ga3 at Xa3 ha3 ⊢
      refine ⟨(by show 5 ≤ sizeLine; decide), ?_⟩
      intro a4 na4
      have Xa4 := ex_new (o := HO.tup [V.str (SX.S bits), V.int (↑s : Int), optV o, V.ref a2, V.ref a3]) na4
      have ha4 : upd Ga3 a4 (HO.tup [V.str (SX.S bits), V.int (↑s : Int), optV o, V.ref a2, V.ref a3]) a4 = some (HO.tup [V.str (SX.S bits), V.int (↑s : Int), optV o, V.ref a2, V.ref a3]) := upd_same
      generalize upd Ga3 a4 (HO.tup [V.str (SX.S bits), V.int (↑s : Int), optV o, V.ref a2, V.ref a3]) = Ga4 at Xa4 ha4 ⊢
      have e2 : cutV (natV l) none (some ((ct : Nat) : Int)) = natV (l.take ct) := by rw [cut_takeV, natV_take]
      have e3 : cutV (natV l) (some ((ct : Nat) : Int)) none = natV (l.drop ct) := by rw [cut_dropV, natV_drop]
      have hg := Xa4 _ _ (Xa3 _ _ ha2)
      have hm := Xa4 _ _ ha3
      rw [e2] at hg
      rw [e3] at hm
      have R2 := R1.ex2 Xa2
      have R3 := R2.ex2 Xa3
      have nd2 := nd
      rw [← List.take_append_drop ct l] at nd2
      obtain ⟨n1, n2, n3⟩ := List.nodup_append.mp nd2
      have t1 : (l.take ct).length ≤ 8 := by rw [List.length_take]; omega
      have t2 : (l.drop ct).length ≤ 8 := by rw [List.length_drop]; omega
      have e58 : 2 * (10 : Nat) ^ 57 < 10 ^ 58 := by decide +kernel
      have e57 : 10 * (10 : Nat) ^ 56 = 10 ^ 57 := by decide +kernel
      refine q a4 a2 a3 ⟨bits, s, o, l.take ct, l.drop ct⟩ _ ⟨⟨hsg, fun u e => (ho u e).1, t1, t2, n1, n2, fun x hx hy => ?_⟩, ⟨?_, fun u e => ?_, fun x hx => ?_, fun x hx => ?_⟩⟩ ⟨ha4, hg, hm⟩ (R3.fresh na4) (R3.1.not na4) (R1.fresh na2) (R1.1.not na2) (R2.fresh na3) (R2.1.not na3) (R3.ex2 Xa4)
      · first
        | exact n3 x hx x hy rfl
        | exact n3 x hy x hx rfl
      · show s < 10 ^ 58
        omega
      · have := (ho u e).2
        omega
      · have := lb x (List.mem_of_mem_take hx)
        omega
      · have := lb x (List.mem_of_mem_drop hx)
        omega
theorem ok__law_days {P : Program} {w : World} {K : PySem.W.Frag} {mg : Str → Option Value} {base : Heap} (T : Env K mg) : Fc P w K mg base 2 (He.ga K "_law_days") [] (sp__law_days K ) := by
  obtain ⟨fd, D, F⟩ := fb__law_days T
  exact F.all (D.bindsN fun _ _ _ _ _ _ us hl => match us, hl with | [_, _], _ => rfl)
end
section
/-- a pot p and a list l of one number: both change while a card is drawn -/
def PotR (p l : Addr) (k : Int) (H H' : Hp) : Prop := PotN 0 H' p ∧ H' l = some (.lst [.int k]) ∧ ∀ b o, b ≠ p → b ≠ l → H b = some o → H' b = some o
section
variable {p l b r t g m : Addr} {k j : Int} {H0 H H' H1 H2 G : Hp} {o : HO} {N : Addr → Prop} {D : DaysD}
theorem PotR.draw (a : PotR p l k H H1) (P : PotOnN 0 H1 H2 p) (lp : l ≠ p) : PotR p l k H H2 := ⟨P.1, P.2 _ _ lp a.2.1, fun b o n1 n2 e => P.2 _ _ n1 (a.2.2 b o n1 n2 e)⟩
theorem PotR.trans (a : PotR p l k H H1) (b : PotR p l j H1 H2) : PotR p l j H H2 := ⟨b.1, b.2.1, fun x o n1 n2 e => b.2.2 x o n1 n2 (a.2.2 x o n1 n2 e)⟩
theorem PotR.ex2 (a : PotR p l k H H1) (e : Ex H1 H2) : PotR p l k H H2 := ⟨a.1.ex e, e _ _ a.2.1, fun x o n1 n2 h => e _ _ (a.2.2 x o n1 n2 h)⟩
theorem PotR.not (a : PotR p l k H H1) (n : H1 b = none) : b ≠ p ∧ b ≠ l := ⟨a.1.not n, fun z => by rw [z, a.2.1] at n; cases n⟩
theorem PotR.fresh (a : PotR p l k H H1) (n : H1 b = none) : H b = none := by
  obtain ⟨n1, n2⟩ := a.not n
  cases e : H b with
  | none => rfl
  | some o =>
    rw [a.2.2 b o n1 n2 e] at n
    cases n
theorem PotR.lists (z : PotR p l j H0 H) (a : PotR p l k H H') : ∀ b o, (∀ ys, o ≠ .lst ys) → H b = some o → H' b = some o := fun b o ho e => a.2.2 b o (fun q => by
  obtain ⟨x, y, c, h, _⟩ := z.1
  rw [q, h] at e
  cases e
  exact ho _ rfl) (fun q => by
  rw [q, z.2.1] at e
  cases e
  exact ho _ rfl) e
theorem PotR.one (a : PotR p l k H G) (lp : l ≠ p) : PotR p l j H (upd G l (.lst [.int j])) := ⟨a.1.oth lp, upd_same, fun b o n1 n2 e => by rw [upd_ne n2]; exact a.2.2 b o n1 n2 e⟩
theorem PotR.upd (a : PotR p l k H G) (n : H r = none) (rp : r ≠ p) (rl : r ≠ l) : PotR p l k H (upd G r o) := ⟨a.1.oth rp, by rw [upd_ne (Ne.symm rl)]; exact a.2.1, fun b o n1 n2 e => by rw [upd_ne (ne_of_none e n)]; exact a.2.2 b o n1 n2 e⟩
theorem PotR.keep (z : PotR p l j H0 H) (np : ∀ b, N b → b ≠ p ∧ b ≠ l) (a : PotR p l k H H') : keepsA N N H H' := ⟨fun b xs e => z.lists a b _ nofun e, fun b xs nb e => ⟨nb, a.2.2 b _ (np b nb).1 (np b nb).2 e⟩⟩
theorem PotR.pot (lp : l ≠ p) (hl : H l = some (.lst [.int k])) (a : PotOnN 0 H H' p) : PotR p l k H H' := ⟨a.1, a.2 _ _ lp hl, fun b o n _ e => a.2 b o n e⟩
end
theorem PotOnN.keepA {p : Addr} {H H' : Hp} {N : Addr → Prop} (P : PotOnN 0 H H' p) (hp : PotN 0 H p) (np : ∀ b, N b → b ≠ p) : keepsA N N H H' := ⟨fun b xs e => P.2 b _ (fun w => by
  obtain ⟨_, _, _, h, _⟩ := hp
  rw [w, h] at e
  cases e) e, fun b xs nb e => ⟨nb, P.2 b _ (np b nb) e⟩⟩
theorem keepsA_any {f : Addr} {H : Hp} {N : Addr → Prop} {o : HO} (hf : H f = none ∨ ∃ zs, H f = some (.lst zs)) (n : ∀ b, N b → b ≠ f) : keepsA N N H (upd H f o) :=
  ⟨fun b xs z => by
    rw [upd_ne (fun w => by
      rw [w] at z
      rcases hf with h | ⟨_, h⟩
      · rw [h] at z
        cases z
      · rw [h] at z
        cases z)]
    exact z, fun b as nb z => ⟨nb, by rw [upd_ne (n b nb)]; exact z⟩⟩
theorem CtsN.snoc {N : Addr → Prop} {H : Hp} {c : CtD} {a : Addr} (h2 : CtN N H c a) : ∀ {cs : List CtD} {as : List Addr}, CtsN N H cs as → CtsN N H (cs ++ [c]) (as ++ [a])
  | [], as, h => by
    unfold CtsN at h
    subst h
    unfold CtsN
    exact ⟨a, [], rfl, h2, by unfold CtsN; rfl⟩
  | x :: cs, as, h => by
    unfold CtsN at h
    obtain ⟨b, r, rfl, h1, h3⟩ := h
    rw [List.cons_append]
    unfold CtsN
    exact ⟨b, r ++ [a], rfl, h1, CtsN.snoc h2 h3⟩
theorem toks_snoc {c : CtD} (h2 : c.tok) : ∀ {cs : List CtD}, toks cs → toks (cs ++ [c])
  | [], h => by
    show toks [c]
    unfold toks
    exact ⟨h2, by unfold toks; trivial⟩
  | x :: cs, h => by
    unfold toks at h
    rw [List.cons_append]
    unfold toks
    exact ⟨h.1, toks_snoc h2 h.2⟩
theorem wtLc : ∀ cs ds : List CardD, wtL (cs ++ ds) = wtL cs + wtL ds
  | [], ds => by
    show wtL ds = 0 + _
    omega
  | c :: cs, ds => by
    show c.wt + wtL (cs ++ ds) = c.wt + wtL cs + _
    rw [wtLc cs ds]
    omega
/-- what a draw of a card tells of the room: at most so many cards -/
def sp__law_card (K : PySem.W.Frag) (d : Nat) : Sp := fun vs H Q _ => ∃ (p l : Addr) (b deep : Nat) (k : Int), vs = [.ref p, .int (b : Nat), .ref l, .int (deep : Nat)] ∧ PotN 0 H p ∧ H l = some (.lst [.int k]) ∧ l ≠ p ∧ 1 ≤ b ∧ b ≤ 10 ^ 56 ∧ 7 ≤ deep + d ∧ deep ≤ 6 ∧ k ≤ 7 ∧ ∀ (t : Addr) (c : CtD) (j : Int) H', c.tok → (c.card.wt : Int) + 3 * max 0 (j - 3) ≤ 1 + 3 * max 0 (k - 3) → j ≤ k → H t = none → CtN (fun x => H x = none) H' c t → PotR p l j H H' → Q (.ref t) H'
theorem fb__law_card {P : Program} {w : World} {K : PySem.W.Frag} {mg : Str → Option Value} {base : Heap} (T : Env K mg) {d L : Nat} (hL : 60 ≤ L) (r__law_card : Fc P w K mg base L (He.ga K "_law_card") [] (sp__law_card K d)) : ∃ fd, FunD K "_law_card" "_law_card" (defArgs s__law_card) (defBody s__law_card) (defScope s__law_card) [] [] (He.ga K "_law_card") fd ∧ Fb P w K mg base (L + 1) (He.ga K "_law_card") fd ["_law_pot_here", "_law_size", "_law_room", "_law_deep"] (sp__law_card K (d + 1)) := by
  obtain ⟨fd, F⟩ := T.f__law_card
  refine ⟨fd, F, fb_of F sc__law_card (fun vs H Q E h => ?_) (fun cdv A outer s H vs Q E hr h => ?_)⟩
  · obtain ⟨p, l, b, deep, k, rfl, _⟩ := h
    rfl
  · obtain ⟨p, l, b, deep, k, rfl, hp, hl, lp, b1, b56, hd, hd6, hk, q⟩ := h
    refine ⟨_, (pss_cons (ps_set (i := 4) sc__law_card.nd rfl (Or.inl rfl) (c_call (ok__law_draw T) (hr.mono (by omega)) T.g__law_draw T.k__law_draw takes0 (pa_cons (pv 0) (pa_cons pe_int pa_nil))))
      (pss_cons (ps_asg (pe_op op_sub (pe_ix ix_list (pv 2) pe_int (fun _ _ => rfl)) pe_int) (pg_sub (pv 2) pe_int set_list))
      (Evl.pss_cut (ps_if (PW.pt (pw_or (pt_cmpR op_gt (pv 3) pe_int (nomark _)) (pw_or1 (pt_cmpR op_lt (pe_ix ix_list (pv 2) pe_int (fun _ _ => rfl)) pe_int (nomark _)))))
      (pss_one (ps_set (i := 4) sc__law_card.nd rfl (Or.inl rfl) (pe_op op_mod (pv 4) pe_int)))
      pss_nil)
      (pss_cons (ps_if (pt_cmpR op_lt (pv 4) pe_int (nomark _))
      (pss_one (ps_ret (pe_tup (pa_cons pe_str (pa_cons (c_call (ok__law_spread T) (hr.mono (by omega)) T.g__law_spread T.k__law_spread takes0 (pa_cons (pv 0) (pa_cons (pe_op op_mul pe_int (c_call (ok__law_draw T) (hr.mono (by omega)) T.g__law_draw T.k__law_draw takes0 (pa_cons (pv 0) (pa_cons (pv 1) pa_nil)))) pa_nil))) (pa_cons (c_call (ok__law_notes T) (hr.mono (by omega)) T.g__law_notes T.k__law_notes takes0 (pa_cons (pv 0) pa_nil)) pa_nil))))))
      pss_nil)
      (pss_cons (ps_if (pt_cmpR op_lt (pv 4) pe_int (nomark _))
      (pss_one (ps_ret (pe_tup (pa_cons pe_str (pa_cons (c_call (ok__law_spread T) (hr.mono (by omega)) T.g__law_spread T.k__law_spread takes0 (pa_cons (pv 0) (pa_cons pe_int pa_nil))) (pa_cons (c_call (ok__law_notes T) (hr.mono (by omega)) T.g__law_notes T.k__law_notes takes0 (pa_cons (pv 0) pa_nil)) (pa_cons (c_call (ok__law_days T) (hr.mono (by omega)) T.g__law_days T.k__law_days takes0 (pa_cons (pv 0) (pa_cons (pv 1) pa_nil))) pa_nil)))))))
      pss_nil)
      (pss_cons (ps_if (pt_cmpR op_eq (pv 4) pe_int (nomark _))
      (pss_one (ps_ret (pe_tup (pa_cons pe_str (pa_cons (c_call (ok__law_name T) (hr.mono (by omega)) T.g__law_name T.k__law_name takes0 (pa_cons (pv 0) pa_nil)) pa_nil)))))
      pss_nil)
      (pss_cons (ps_if (pt_cmpR op_lt (pv 4) pe_int (nomark _))
      (pss_one (ps_ret (pe_tup (pa_cons pe_str (pa_cons (pe_lc (own := [("_law_k", 6)]) (by rfl) sc__law_card.nd (pi_range1 (by rfl) T.n_range (pa_cons (pe_op op_add pe_int (c_call (ok__law_draw T) (hr.mono (by omega)) T.g__law_draw T.k__law_draw takes0 (pa_cons (pv 0) (pa_cons pe_int pa_nil)))) pa_nil)) (blkOk_by (own := [("_law_k", 6)]) (N := ["_law_pot_here", "_law_size", "_law_room", "_law_deep", "_law_way", "_law_one", "_law_k"]) (sc := defScope s__law_card) (by decide +kernel)) (fun _ _ _ _ _ => (pg_name (i := 6) sc__law_card.nd rfl (Or.inl rfl))) (fun _ _ _ _ _ => pts_nil) (fun _ _ _ _ _ => (c_call r__law_card (hr.mono (by omega)) T.g__law_card T.k__law_card takes0 (pa_cons (pv 0) (pa_cons (pv 1) (pa_cons (pv 2) (pa_cons (pe_op op_add (pv 3) pe_int) pa_nil))))))) pa_nil)))))
      pss_nil)
      (pss_cons (ps_set (i := 5) sc__law_card.nd rfl (Or.inl rfl) (c_call r__law_card (hr.mono (by omega)) T.g__law_card T.k__law_card takes0 (pa_cons (pv 0) (pa_cons (pv 1) (pa_cons (pv 2) (pa_cons (pe_op op_add (pv 3) pe_int) pa_nil))))))
      (pss_cons (ps_if (pt_cmpR op_eq (pv 4) pe_int (nomark _))
      (pss_one (ps_ret (pe_tup (pa_cons pe_str (pa_cons (pv 5) (pa_cons (c_call r__law_card (hr.mono (by omega)) T.g__law_card T.k__law_card takes0 (pa_cons (pv 0) (pa_cons (pv 1) (pa_cons (pv 2) (pa_cons (pe_op op_add (pv 3) pe_int) pa_nil))))) pa_nil))))))
      pss_nil)
      (pss_cons (ps_if (pt_cmpR op_eq (pv 4) pe_int (nomark _))
      (pss_one (ps_ret (pe_tup (pa_cons pe_str (pa_cons (pv 5) (pa_cons (c_call (ok__law_days T) (hr.mono (by omega)) T.g__law_days T.k__law_days takes0 (pa_cons (pv 0) (pa_cons (pv 1) pa_nil))) (pa_cons (c_call r__law_card (hr.mono (by omega)) T.g__law_card T.k__law_card takes0 (pa_cons (pv 0) (pa_cons (pv 1) (pa_cons (pv 2) (pa_cons (pe_op op_add (pv 3) pe_int) pa_nil))))) pa_nil)))))))
      pss_nil)
      (pss_cons (ps_if (pt_cmpR op_lt (pv 4) pe_int (nomark _))
      (pss_one (ps_ret (pe_tup (pa_cons pe_str (pa_cons (pv 5) (pa_cons (c_call (ok__law_draw T) (hr.mono (by omega)) T.g__law_draw T.k__law_draw takes0 (pa_cons (pv 0) (pa_cons (pe_ix ix_list (pe_lst (pa_cons pe_int (pa_cons pe_int pa_nil))) (pe_op op_sub (pv 4) pe_int) (fun _ _ => rfl)) pa_nil))) pa_nil))))))
      pss_nil)
      (pss_one (ps_ret (pe_tup (pa_cons pe_str (pa_cons (pv 5) (pa_cons (c_call (ok__law_name T) (hr.mono (by omega)) T.g__law_name T.k__law_name takes0 (pa_cons (pv 0) pa_nil)) pa_nil))))))))))))))))), ?_⟩
    have big : ∀ {n : Nat}, n ≤ 10 ^ 56 → n < 10 ^ 100 := fun {n} h => Nat.lt_of_le_of_lt h (by decide +kernel)
    refine ⟨_, rfl, p, 12, rfl, hp, by decide, lt_100 (by decide), fun w G1 w12 P1 => ?_⟩
    have w12 : w < 12 := w12
    have hl1 := P1.2 _ _ lp hl
    refine ⟨_, rfl, _, _, _, _, rfl, rfl, (sq_lst hl1), rfl, _, _, rfl, rfl, _, rfl, _, _, _, _, rfl, rfl, hl1, rfl, ?_⟩
    have hP0 : PotR p l k H G1 := PotR.pot lp hl P1
    have P0 := hP0.one (j := k - 1) lp
    have e0 : ([V.int k].set (Int.toNat 0) ((fun i j => V.int (i - j)) k 1)) = [V.int (k - 1)] := rfl
    rw [e0]
    generalize upd G1 l (HO.lst [V.int (k - 1)]) = G0 at P0 ⊢
    refine ⟨fun σ' G => G = G0 ∧ ∃ v : Nat, v < 12 ∧ (5 ≤ v → deep ≤ 5 ∧ 4 ≤ k) ∧ σ' = [some (.ref p), some (.int (b : Nat)), some (.ref l), some (.int (deep : Nat)), some (.int (v : Nat)), none, none], ?_, ?_⟩
    · refine ⟨_, rfl, _, _, rfl, rfl, _, rfl, ?_⟩
      have md : (w : Int) % 5 = ((w % 5 : Nat) : Int) := by omega
      by_cases c5 : 5 < deep
      · rw [decide_eq_true (show (5 : Int) < ((deep : Nat) : Int) by omega)]
        refine iteT (iteT ?_)
        refine ⟨_, rfl, _, _, rfl, rfl, by show (0 : Int) < 5; decide, rfl, w % 5, by omega, by omega, ?_⟩
        rw [← md]
        rfl
      rw [decide_eq_false (show ¬ (5 : Int) < ((deep : Nat) : Int) by omega)]
      refine iteF ⟨_, rfl, _, _, _, _, rfl, rfl, sq_lst P0.2.1, rfl, _, _, rfl, rfl, _, rfl, ?_⟩
      by_cases ck : k - 1 < 3
      · rw [decide_eq_true ck]
        refine iteT ?_
        refine ⟨_, rfl, _, _, rfl, rfl, by show (0 : Int) < 5; decide, rfl, w % 5, by omega, by omega, ?_⟩
        rw [← md]
        rfl
      · rw [decide_eq_false ck]
        exact iteF ⟨rfl, w, w12, fun _ => ⟨by omega, by omega⟩, rfl⟩
    rintro σ' G ⟨rfl, v, v12, hv, rfl⟩
    clear w12 P1 hl1 hP0
    have hP0 : PotR p l k H H := ⟨hp, hl, fun _ _ _ _ e => e⟩
    have np : ∀ b, G b = none → b ≠ p ∧ b ≠ l := fun b h => P0.not h
    have np1 : ∀ b, G b = none → b ≠ p := fun b h => (P0.not h).1
    have leaf : ∀ (t : Addr) (c : CtD) G2, c.tok → c.card.wt = 1 → G t = none → CtN (fun x => G x = none) G2 c t → PotOnN 0 G G2 p → Q (.ref t) G2 := fun t c G2 h1 h2 h3 h4 h5 =>
      q t c (k - 1) G2 h1 (by rw [h2]; omega) (by omega) (P0.fresh h3) (h4.imp fun x hx => P0.fresh hx) (P0.draw h5 lp)
    refine ⟨_, rfl, _, _, rfl, rfl, _, rfl, ?_⟩
    by_cases c2 : v < 2
    · rw [decide_eq_true (show ((v : Nat) : Int) < 2 by omega)]
      refine iteT ?_
      refine ⟨_, rfl, _, rfl, _, rfl, p, b, rfl, P0.1, by omega, big b56, fun e G1 eb Q1 => ?_⟩
      have e60 : 1440 * e < 10 ^ 60 := by
        have : 1440 * 10 ^ 56 ≤ 10 ^ 60 := by decide +kernel
        omega
      refine ⟨_, _, rfl, rfl, .inl ⟨by decide, by decide⟩, p, 1440 * e, rfl, Q1.1, e60, fun ls as ps G2 hs hb nl lp' hl2 hL Q2 => ?_⟩
      refine ⟨_, rfl, p, rfl, Q2.1, fun n ws G3 hn nn np' hn3 Q3 => ⟨by show 3 ≤ sizeLine; decide, fun t nt => ?_⟩⟩
      have Xt := ex_new (o := HO.tup [V.str (Str.ofString "once"), V.ref ls, V.ref n]) nt
      have Q13 := (Q1.trans Q2).trans Q3
      have nl0 := Q1.fresh nl
      have nn0 := (Q1.trans Q2).fresh nn
      have hL3 := (hL.imp (M := fun x => G x = none) fun x hx => Q1.fresh hx.1).keep (Q3.keepA Q2.1 np1).t
      refine leaf t (.once ps ws) _ (by unfold CtD.tok; exact ⟨hs, hn⟩) (by rw [CtD.card, CardD.wt]) (Q13.fresh nt) ?_ (Q13.ex2 Xt)
      unfold CtN
      exact ⟨ls, as, n, upd_same, nl0, Xt _ _ (Q3.2 _ _ lp' hl2), hL3.mono Xt, nn0, Xt _ _ hn3⟩
    rw [decide_eq_false (show ¬ ((v : Nat) : Int) < 2 by omega)]
    refine iteF ?_
    refine ⟨_, rfl, _, _, rfl, rfl, _, rfl, ?_⟩
    by_cases c4 : v < 4
    · rw [decide_eq_true (show ((v : Nat) : Int) < 4 by omega)]
      refine iteT ?_
      refine ⟨_, rfl, p, 0, rfl, P0.1, by decide +kernel, fun ls as ps G2 hs hb nl lp' hl2 hL Q2 => ?_⟩
      refine ⟨_, rfl, p, rfl, Q2.1, fun n ws G3 hn nn np' hn3 Q3 => ?_⟩
      have Q23 := Q2.trans Q3
      refine ⟨_, rfl, _, rfl, p, b, rfl, Q23.1, b1, b56, fun x g m D G4 hD hS nx xp ng gp nm mp Q4 => ⟨by show 4 ≤ sizeLine; decide, fun t nt => ?_⟩⟩
      have Xt := ex_new (o := HO.tup [V.str (Str.ofString "every"), V.ref ls, V.ref n, V.ref x]) nt
      have Q14 := Q23.trans Q4
      have Q34 := Q3.trans Q4
      have hL3 := (hL.imp (M := fun x => G x = none) fun x hx => hx.1).keep (Q34.keepA Q2.1 np1).t
      refine leaf t (.every ps ws D) _ (by unfold CtD.tok; exact ⟨hs, hn, hD, fun z hz => by have := (hb z hz).2; omega⟩) (by rw [CtD.card, CardD.wt]) (Q14.fresh nt) ?_ (Q14.ex2 Xt)
      unfold CtN
      exact ⟨ls, as, n, x, g, m, upd_same, nl, Xt _ _ (Q34.2 _ _ lp' hl2), hL3.mono Xt, Q2.fresh nn, Xt _ _ (Q4.2 _ _ np' hn3), hS.mono Xt, Q23.fresh ng, Q23.fresh nm⟩
    rw [decide_eq_false (show ¬ ((v : Nat) : Int) < 4 by omega)]
    refine iteF ?_
    refine ⟨_, rfl, rfl, _, rfl, ?_⟩
    by_cases c44 : v = 4
    · subst c44
      refine iteT ?_
      refine ⟨_, rfl, p, rfl, P0.1, fun z G2 hz Q2 => ⟨by show 2 ≤ sizeLine; decide, fun t nt => ?_⟩⟩
      have Xt := ex_new (o := HO.tup [V.str (Str.ofString "as"), V.str z]) nt
      refine leaf t (.as_ z) _ (by unfold CtD.tok; exact hz) (by rw [CtD.card, CardD.wt]) (Q2.fresh nt) ?_ (Q2.ex2 Xt)
      unfold CtN
      exact upd_same
    rw [decide_eq_false (show ¬ V.int ((v : Nat) : Int) = V.int 4 from fun z => c44 (by injection z with z; omega))]
    refine iteF ?_
    refine ⟨_, rfl, _, _, rfl, rfl, _, rfl, ?_⟩
    obtain ⟨d5, k4⟩ := hv (by omega)
    by_cases c7 : v < 7
    · rw [decide_eq_true (show ((v : Nat) : Int) < 7 by omega)]
      refine iteT ?_
      refine ⟨_, rfl, p, 3, rfl, P0.1, by decide, lt_100 (by decide), fun s0 G1 s3 Q1 => ?_⟩
      have s3 : s0 < 3 := s3
      obtain ⟨s, hs⟩ : ∃ s, s = s0 + 1 := ⟨_, rfl⟩
      have P1 : PotR p l (k - 1) G G1 := PotR.pot lp P0.2.1 Q1
      refine ⟨_, _, rfl, rfl, _, rfl, by omega, by omega, fun A nA => ?_⟩
      rw [show (1 : Int) + ((s0 : Nat) : Int) = ((s : Nat) : Int) by omega]
      obtain ⟨Ap, Al⟩ := P1.not nA
      have nA0 := P1.fresh nA
      refine lc_any (n := ((s : Nat) : Int).toNat) (J := Itr 0 ((s : Nat) : Int).toNat) L2.walk_range (fun i acc F => (F A = none ∨ ∃ zs, F A = some (.lst zs)) ∧ ∃ (j : Int) (as : List Addr) (cs : List CtD), PotR p l j G F ∧ acc = as.map V.ref ∧ as.length = i ∧ CtsN (fun x => G x = none ∧ x ≠ A) F cs as ∧ toks cs ∧ ((wtL (cardsC cs) : Nat) : Int) + 3 * max 0 (j - 3) ≤ i + 3 * max 0 (k - 1 - 3) ∧ j ≤ k - 1) (fun i acc F zs e => ?_) ⟨.inl nA, k - 1, [], [], P1, rfl, rfl, by unfold CtsN; rfl, by unfold toks; trivial, by unfold cardsC wtL; omega, by omega⟩ (by omega) (fun i acc F e => ?_) (fun _ _ _ _ => trivial) (fun i x H2 H3 acc N hi e hD la y kk _ => ?_) (fun acc G2 e hD => ?_)
      · obtain ⟨e1, j, as, cs, a1, a2, a3, a4, a5⟩ := e
        exact ⟨.inr ⟨zs, upd_same⟩, j, as, cs, a1.upd nA0 Ap Al, a2, a3, a4.keep (keepsA_any e1 fun b h => h.2), a5⟩
      · obtain ⟨_, j, as, cs, _, rfl, h3, _⟩ := e
        simp [h3]
      · obtain ⟨rfl, rfl⟩ := y
        obtain ⟨e1, j, as, cs, a1, rfl, a3, a4, a5, a6, a7⟩ := e
        refine ⟨rfl, _, rfl, _, rfl, _, rfl, _, rfl, _, _, rfl, rfl, p, l, b, deep + 1, j, rfl, a1.1, a1.2.1, lp, b1, b56, by omega, by omega, by omega, fun t2 x2 j2 G5 ok2 w2 j2j n2 hT2 P5 => ?_⟩
        have hD5 := P5.2.2 _ _ Ap Al hD
        have la2 := a4.len
        refine ⟨_, hD5, la, kk _ G5 hD5 ⟨.inr ⟨_, hD5⟩, j2, as ++ [t2], cs ++ [x2], a1.trans P5, by rw [List.map_append]; rfl, by rw [List.length_append, a3]; rfl, .snoc (hT2.imp fun x hx => ⟨a1.fresh hx, (ne_of_none hD hx).symm⟩) (a4.keep (a1.keep (fun b h => np b h.1) P5)), toks_snoc ok2 a5, ?_, by omega⟩⟩
        rw [cardsC_map, List.map_append, wtLc, ← cardsC_map]
        show (((_ + (x2.card.wt + 0) : Nat)) : Int) + _ ≤ _
        omega
      · obtain ⟨e1, j, as, cs, a1, rfl, a3, a4, a5, a6, a7⟩ := e
        refine ⟨by show 2 ≤ sizeLine; decide, fun t nt => ?_⟩
        have Xt := ex_new (o := HO.tup [V.str (Str.ofString "join"), V.ref A]) nt
        have la := a4.len
        refine q t (.join cs) j _ (by unfold CtD.tok; exact ⟨a5, fun z => by rw [z] at la; have la : as.length = 0 := la; omega⟩) (by rw [CtD.card, CardD.wt]; omega) (by omega) (P0.fresh (a1.fresh nt)) ?_ ((P0.trans a1).ex2 Xt)
        unfold CtN
        exact ⟨A, as, upd_same, P0.fresh nA0, Xt _ _ hD, (a4.imp fun x hx => P0.fresh hx.1).mono Xt⟩
    rw [decide_eq_false (show ¬ ((v : Nat) : Int) < 7 by omega)]
    refine iteF ?_
    refine ⟨_, rfl, _, rfl, _, rfl, _, rfl, _, _, rfl, rfl, p, l, b, deep + 1, k - 1, rfl, P0.1, P0.2.1, lp, b1, b56, by omega, by omega, by omega, fun t1 x1 j1 G2 ok1 w1 j1k n1 hT1 P2 => ?_⟩
    have P12 := P0.trans P2
    have n1' := P0.fresh n1
    have v0 := x1.card.wt_pos
    refine ⟨_, rfl, rfl, _, rfl, ?_⟩
    by_cases cw7 : v = 7
    · subst cw7
      refine iteT ?_
      refine ⟨_, rfl, _, rfl, _, rfl, _, rfl, _, rfl, _, _, rfl, rfl, p, l, b, deep + 1, j1, rfl, P12.1, P12.2.1, lp, b1, b56, by omega, by omega, by omega, fun t2 x2 j2 G3 ok2 w2 j2k n2 hT2 P3 => ⟨by show 3 ≤ sizeLine; decide, fun t nt => ?_⟩⟩
      have P13 := P12.trans P3
      have Xt := ex_new (o := HO.tup [V.str (Str.ofString "less"), V.ref t1, V.ref t2]) nt
      refine q t (.less x1 x2) j2 _ (by unfold CtD.tok; exact ⟨ok1, ok2⟩) (by rw [CtD.card, CardD.wt]; omega) (by omega) (P13.fresh nt) ?_ (P13.ex2 Xt)
      unfold CtN
      exact ⟨t1, t2, upd_same, ((hT1.keep (P12.keep np P3)).imp fun x hx => P0.fresh hx).mono Xt, (hT2.imp fun x hx => P12.fresh hx).mono Xt⟩
    rw [decide_eq_false (show ¬ V.int ((v : Nat) : Int) = V.int 7 from fun z => cw7 (by injection z with z; omega))]
    refine iteF ?_
    refine ⟨_, rfl, rfl, _, rfl, ?_⟩
    by_cases cw8 : v = 8
    · subst cw8
      refine iteT ?_
      refine ⟨_, rfl, _, rfl, _, rfl, p, b, rfl, P12.1, b1, b56, fun x g m D G3 hD hS nx xp ng gp nm mp Q3 => ?_⟩
      have L3 : PotR p l j1 G2 G3 := PotR.pot lp P12.2.1 Q3
      have P13 := P12.trans L3
      refine ⟨_, rfl, _, rfl, _, rfl, _, rfl, _, _, rfl, rfl, p, l, b, deep + 1, j1, rfl, P13.1, P13.2.1, lp, b1, b56, by omega, by omega, by omega, fun t2 x2 j2 G4 ok2 w2 j2k n2 hT2 P4 => ⟨by show 4 ≤ sizeLine; decide, fun t nt => ?_⟩⟩
      have P14 := P13.trans P4
      have Xt := ex_new (o := HO.tup [V.str (Str.ofString "swap"), V.ref t1, V.ref x, V.ref t2]) nt
      have ng0 := P2.fresh ng
      have nm0 := P2.fresh nm
      have hS4 := (hS.keepA (P13.keep np P4) ng0 nm0).1
      refine q t (.swap x1 D x2) j2 _ (by unfold CtD.tok; exact ⟨ok1, hD, ok2⟩) (by rw [CtD.card, CardD.wt]; omega) (by omega) (P14.fresh nt) ?_ (P14.ex2 Xt)
      unfold CtN
      exact ⟨t1, x, g, m, t2, upd_same, ((hT1.keep (P12.keep np (L3.trans P4))).imp fun x hx => P0.fresh hx).mono Xt, hS4.mono Xt, P0.fresh ng0, P0.fresh nm0, (hT2.imp fun x hx => P13.fresh hx).mono Xt⟩
    rw [decide_eq_false (show ¬ V.int ((v : Nat) : Int) = V.int 8 from fun z => cw8 (by injection z with z; omega))]
    refine iteF ⟨_, rfl, _, _, rfl, rfl, _, rfl, ?_⟩
    by_cases c11 : v < 11
    · rw [decide_eq_true (show ((v : Nat) : Int) < 11 by omega)]
      refine iteT ?_
      refine ⟨_, rfl, _, rfl, (by decide), ?_⟩
      intro a1 na1
      have Xa1 := ex_new (o := HO.lst [V.int 61, V.int 10081]) na1
      have ha1 : upd G2 a1 (HO.lst [V.int 61, V.int 10081]) a1 = some (HO.lst [V.int 61, V.int 10081]) := upd_same
      generalize upd G2 a1 (HO.lst [V.int 61, V.int 10081]) = Ga1 at Xa1 ha1 ⊢
      have P1 := P12.ex2 Xa1
      obtain ⟨m, em, m1⟩ : ∃ m : Nat, atI [V.int 61, V.int 10081] ((v : Nat) - 9 : Int) = some (.int (m : Nat)) ∧ 1 ≤ m ∧ m ≤ 10081 := by
        rcases (by omega : v = 9 ∨ v = 10) with rfl | rfl
        · exact ⟨61, rfl, by decide, by decide⟩
        · exact ⟨10081, rfl, by decide, by decide⟩
      refine ⟨_, rfl, _, _, rfl, rfl, a1, _, _, _, rfl, rfl, sq_lst ha1, em, p, m, rfl, P1.1, by omega, lt_100 (by omega), fun u G3 um Q3 => ⟨by show 3 ≤ sizeLine; decide, fun t nt => ?_⟩⟩
      have P13 := P1.draw Q3 lp
      have P23 : PotR p l j1 G2 G3 := (PotR.pot lp P12.2.1 (P12.1.refl.ex2 Xa1)).draw Q3 lp
      have Xt := ex_new (o := HO.tup [V.str (Str.ofString "later"), V.ref t1, V.int (u : Nat)]) nt
      refine q t (.later x1 u) j1 _ (by unfold CtD.tok; exact ⟨ok1, by omega⟩) (by rw [CtD.card, CardD.wt]; omega) (by omega) (P13.fresh nt) ?_ (P13.ex2 Xt)
      unfold CtN
      exact ⟨t1, upd_same, ((hT1.keep (P12.keep np P23)).imp fun x hx => P0.fresh hx).mono Xt⟩
    rw [decide_eq_false (show ¬ ((v : Nat) : Int) < 11 by omega)]
    refine iteF ?_
    refine ⟨_, rfl, _, rfl, p, rfl, P12.1, fun z G3 hz Q3 => ⟨by show 3 ≤ sizeLine; decide, fun t nt => ?_⟩⟩
    have P13 := P12.draw Q3 lp
    have Xt := ex_new (o := HO.tup [V.str (Str.ofString "note"), V.ref t1, V.str z]) nt
    refine q t (.note x1 z) j1 _ (by unfold CtD.tok; exact ⟨ok1, hz⟩) (by rw [CtD.card, CardD.wt]; omega) (by omega) (P13.fresh nt) ?_ (P13.ex2 Xt)
    unfold CtN
    exact ⟨t1, upd_same, ((hT1.keep (P12.keep np (PotR.pot lp P12.2.1 Q3))).imp fun x hx => P0.fresh hx).mono Xt⟩
theorem ok__law_card {P : Program} {w : World} {K : PySem.W.Frag} {mg : Str → Option Value} {base : Heap} (T : Env K mg) {d L : Nat} (hL : 60 ≤ L) (r__law_card : Fc P w K mg base L (He.ga K "_law_card") [] (sp__law_card K d)) : Fc P w K mg base (L + 1) (He.ga K "_law_card") [] (sp__law_card K (d + 1)) := by
  obtain ⟨fd, D, F⟩ := fb__law_card T hL r__law_card
  exact F.all (D.bindsN fun _ _ _ _ _ _ us hl => match us, hl with | [_, _, _, _], _ => rfl)
theorem all_card {P : Program} {w : World} {K : PySem.W.Frag} {mg : Str → Option Value} {base : Heap} (T : Env K mg) : ∀ d, Fc P w K mg base (60 + d) (He.ga K "_law_card") [] (sp__law_card K d)
  | 0 => fc_no fun vs H Q E h => by
    obtain ⟨p, l, b, deep, k, _, _, _, _, _, _, h1, h2, _⟩ := h
    omega
  | d + 1 => ok__law_card T (Nat.le_add_right 60 _) (all_card T d)
end
section
theorem PotR.on {p l : Addr} {j : Int} {H G H' : Hp} (a : PotR p l j G H') (X : Ex H G) (n : H l = none) : PotOnN 0 H H' p := ⟨a.1, fun b o nb e => a.2.2 b o nb (ne_of_none e n) (X _ _ e)⟩
def sp__law_whole_card (K : PySem.W.Frag) : Sp := fun vs H Q _ => ∃ (p : Addr), vs = [.ref p] ∧ PotN 0 H p ∧ ∀ (t : Addr) (c : CtD) H', c.tok → c.card.wt ≤ 40 → H t = none → t ≠ p → CtN (NewN H p) H' c t → PotOnN 0 H H' p → Q (.ref t) H'
theorem fb__law_whole_card {P : Program} {w : World} {K : PySem.W.Frag} {mg : Str → Option Value} {base : Heap} (T : Env K mg) : ∃ fd, FunD K "_law_whole_card" "_law_whole_card" (defArgs s__law_whole_card) (defBody s__law_whole_card) (defScope s__law_whole_card) [] [] (He.ga K "_law_whole_card") fd ∧ Fb P w K mg base 70 (He.ga K "_law_whole_card") fd ["_law_pot_here"] (sp__law_whole_card K) := by
  obtain ⟨fd, F⟩ := T.f__law_whole_card
  refine ⟨fd, F, fb_of F sc__law_whole_card (fun vs H Q E h => ?_) (fun cdv A outer s H vs Q E hr h => ?_)⟩
  · obtain ⟨p, rfl, _⟩ := h
    rfl
  · obtain ⟨p, rfl, hp, q⟩ := h
    refine ⟨_, (pss_cons (ps_set (i := 1) sc__law_whole_card.nd rfl (Or.inl rfl) (c_call (ok__law_draw T) (hr.mono (by decide)) T.g__law_draw T.k__law_draw takes0 (pa_cons (pv 0) (pa_cons pe_int pa_nil))))
      (pss_cons (ps_if (pt_cmpR op_eq (pv 1) pe_int (nomark _))
      (pss_cons (ps_set (i := 2) sc__law_whole_card.nd rfl (Or.inl rfl) (c_call (all_card T 7) (hr.mono (by decide)) T.g__law_card T.k__law_card takes0 (pa_cons (pv 0) (pa_cons pe_int (pa_cons (pe_lst (pa_cons pe_int pa_nil)) (pa_cons pe_int pa_nil))))))
      (pss_cons (ps_for (passes_of rfl) rfl (pi_range1 (by rfl) T.n_range (pa_cons (c_call (ok__law_draw T) (hr.mono (by decide)) T.g__law_draw T.k__law_draw takes0 (pa_cons (pv 0) (pa_cons pe_int pa_nil))) pa_nil)) (pg_name (i := 3) sc__law_whole_card.nd rfl (Or.inl rfl))
      (pss_one (ps_if (pt_cmpR op_eq (c_call (ok__law_draw T) (hr.mono (by decide)) T.g__law_draw T.k__law_draw takes0 (pa_cons (pv 0) (pa_cons pe_int pa_nil))) pe_int (nomark _))
      (pss_one (ps_set (i := 2) sc__law_whole_card.nd rfl (Or.inl rfl) (pe_tup (pa_cons pe_str (pa_cons (pv 2) (pa_cons (c_call (ok__law_draw T) (hr.mono (by decide)) T.g__law_draw T.k__law_draw takes0 (pa_cons (pv 0) (pa_cons pe_int pa_nil))) pa_nil))))))
      (pss_one (ps_set (i := 2) sc__law_whole_card.nd rfl (Or.inl rfl) (pe_tup (pa_cons pe_str (pa_cons (pv 2) (pa_cons (c_call (ok__law_name T) (hr.mono (by decide)) T.g__law_name T.k__law_name takes0 (pa_cons (pv 0) pa_nil)) pa_nil)))))))))
      (pss_one (ps_ret (pv 2)))))
      pss_nil)
      (pss_cons (ps_set (i := 4) sc__law_whole_card.nd rfl (Or.inl rfl) (c_call (ok__law_draw T) (hr.mono (by decide)) T.g__law_draw T.k__law_draw takes0 (pa_cons (pv 0) (pa_cons pe_int pa_nil))))
      (pss_one (ps_ret (c_call (all_card T 7) (hr.mono (by decide)) T.g__law_card T.k__law_card takes0 (pa_cons (pv 0) (pa_cons (pe_ix ix_list (pe_lst (pa_cons pe_int (pa_cons pe_int (pa_cons (pe_op op_pow pe_int pe_int) (pa_cons (pe_op op_pow pe_int pe_int) pa_nil))))) (pv 4) (fun _ _ => rfl)) (pa_cons (pe_lst (pa_cons (pe_ix ix_list (pe_lst (pa_cons pe_int (pa_cons pe_int (pa_cons pe_int (pa_cons pe_int pa_nil))))) (pv 4) (fun _ _ => rfl)) pa_nil)) (pa_cons pe_int pa_nil)))))))))), ?_⟩
    have c40 : (40 : Nat) = 40 := rfl
    refine ⟨_, rfl, p, 16, rfl, hp, by decide, lt_100 (by decide), fun w H1 w16 P1 => ?_⟩
    have w16 : w < 16 := w16
    refine ⟨_, rfl, rfl, _, rfl, ?_⟩
    by_cases c5 : w = 5
    · subst c5
      refine iteT ?_
      refine ⟨_, rfl, by show 1 ≤ sizeLine; decide, fun l nl => ?_⟩
      have Xl := ex_new (o := HO.lst [V.int 1]) nl
      have hl : upd H1 l (HO.lst [V.int 1]) l = some (HO.lst [V.int 1]) := upd_same
      have P2 := P1.ex2 Xl
      have lp := P1.1.not nl
      generalize upd H1 l (HO.lst [V.int 1]) = G2 at Xl hl P2 ⊢
      refine ⟨p, l, 400, 0, 1, rfl, P2.1, hl, lp, by decide, by decide +kernel, by omega, by omega, by omega, fun t c j H3 ok wt j1 nt hT P3 => ?_⟩
      have P4 := P1.trans (P3.on Xl nl)
      have nt1 := ex_fresh Xl nt
      refine ⟨_, rfl, p, 40, rfl, P4.1, by decide, lt_100 (by decide), fun n H4 n40 Q4 => ?_⟩
      have n40 : n < 40 := n40
      have P5 := P4.trans Q4
      have hT0 : CtN (NewN H p) H4 c t := (hT.imp fun x hx => ⟨P1.fresh (ex_fresh Xl hx), P2.1.not hx⟩).keep (Q4.keepA P4.1 fun b h => h.2)
      refine ⟨_, rfl, by omega, by omega, for_range (fun i σ G => PotOnN 0 H G p ∧ ∃ t c v, σ = [some (.ref p), some (.int ((5 : Nat) : Int)), some (.ref t), v, none] ∧ c.tok ∧ c.card.wt ≤ i + 1 ∧ H t = none ∧ t ≠ p ∧ CtN (NewN H p) G c t) ⟨P5, t, c, _, rfl, ok, by omega, P1.fresh nt1, P2.1.not nt, hT0⟩ ?_ ?_⟩
      · rintro i σ G hi ⟨PG, t, c, v, rfl, ok, wt, nt, tp, hT⟩
        refine ⟨_, rfl, p, 2, rfl, PG.1, by decide, lt_100 (by decide), fun d G5 d2 Q5 => ⟨rfl, _, rfl, ?_⟩⟩
        have P6 := PG.trans Q5
        have hT5 := hT.keep (Q5.keepA PG.1 fun b h => h.2)
        refine ite2 (fun _ => ?_) (fun _ => ?_)
        · refine ⟨_, rfl, _, rfl, p, 10081, rfl, P6.1, by decide, lt_100 (by decide), fun u G6 um Q6 => ⟨by show 3 ≤ sizeLine; decide, fun t2 nt2 => ?_⟩⟩
          have um : u < 10081 := um
          have P7 := P6.trans Q6
          have Xt := ex_new (o := HO.tup [V.str (Str.ofString "later"), V.ref t, V.int (u : Nat)]) nt2
          refine ⟨P7.ex2 Xt, t2, .later c u, _, rfl, by unfold CtD.tok; exact ⟨ok, by omega⟩, by rw [CtD.card, CardD.wt]; omega, P7.fresh nt2, P7.1.not nt2, ?_⟩
          unfold CtN
          exact ⟨t, upd_same, (hT5.keep (Q6.keepA P6.1 fun b h => h.2)).mono Xt⟩
        · refine ⟨_, rfl, _, rfl, p, rfl, P6.1, fun z G6 hz Q6 => ⟨by show 3 ≤ sizeLine; decide, fun t2 nt2 => ?_⟩⟩
          have P7 := P6.trans Q6
          have Xt := ex_new (o := HO.tup [V.str (Str.ofString "note"), V.ref t, V.str z]) nt2
          refine ⟨P7.ex2 Xt, t2, .note c z, _, rfl, by unfold CtD.tok; exact ⟨ok, hz⟩, by rw [CtD.card, CardD.wt]; omega, P7.fresh nt2, P7.1.not nt2, ?_⟩
          unfold CtN
          exact ⟨t, upd_same, (hT5.keep (Q6.keepA P6.1 fun b h => h.2)).mono Xt⟩
      · rintro σ G ⟨PG, t, c, v, rfl, ok, wt, nt, tp, hT⟩
        exact ⟨_, rfl, q t c G ok (by omega) nt tp hT PG⟩
    rw [decide_eq_false (show ¬ V.int ((w : Nat) : Int) = V.int 5 from fun z => c5 (by injection z with z; omega))]
    refine iteF ?_
    refine ⟨_, rfl, p, 4, rfl, P1.1, by decide, lt_100 (by decide), fun f H2 f4 Q2 => ?_⟩
    have f4 : f < 4 := f4
    have P2 := P1.trans Q2
    refine ⟨_, rfl, _, _, rfl, rfl, ⟨(by decide), ⟨(by decide), (by decide)⟩⟩, _, _, rfl, rfl, ⟨(by decide), ⟨(by decide), (by decide)⟩⟩, (by decide), ?_⟩
    intro a1 na1
    have Xa1 := ex_new (o := HO.lst [V.int 400, V.int 400, V.int (10 ^ Int.toNat 12), V.int (10 ^ Int.toNat 56)]) na1
    have ha1 : upd H2 a1 (HO.lst [V.int 400, V.int 400, V.int (10 ^ Int.toNat 12), V.int (10 ^ Int.toNat 56)]) a1 = some (HO.lst [V.int 400, V.int 400, V.int (10 ^ Int.toNat 12), V.int (10 ^ Int.toNat 56)]) := upd_same
    generalize upd H2 a1 (HO.lst [V.int 400, V.int 400, V.int (10 ^ Int.toNat 12), V.int (10 ^ Int.toNat 56)]) = Ga1 at Xa1 ha1 ⊢
    obtain ⟨b, eb, b1, b56⟩ : ∃ b : Nat, atI [V.int 400, V.int 400, V.int (10 ^ Int.toNat 12), V.int (10 ^ Int.toNat 56)] ((f : Nat) : Int) = some (.int (b : Nat)) ∧ 1 ≤ b ∧ b ≤ 10 ^ 56 := by
      rcases (by omega : f = 0 ∨ f = 1 ∨ f = 2 ∨ f = 3) with rfl | rfl | rfl | rfl
      · exact ⟨400, rfl, by decide, by decide +kernel⟩
      · exact ⟨400, rfl, by decide, by decide +kernel⟩
      · exact ⟨10 ^ 12, (by show some (V.int (10 ^ 12)) = _; rw [Int.natCast_pow]; rfl), Nat.one_le_pow _ _ (by decide), by decide +kernel⟩
      · exact ⟨10 ^ 56, (by show some (V.int (10 ^ 56)) = _; rw [Int.natCast_pow]; rfl), Nat.one_le_pow _ _ (by decide), Nat.le_refl _⟩
    have P3 := P2.ex2 Xa1
    refine ⟨_, rfl, a1, _, _, _, rfl, rfl, sq_lst ha1, eb, by show 4 ≤ sizeLine; decide, fun a2 na2 => ?_⟩
    have Xa2 := ex_new (o := HO.lst [V.int 7, V.int 7, V.int 7, V.int 4]) na2
    have ha2 : upd Ga1 a2 (HO.lst [V.int 7, V.int 7, V.int 7, V.int 4]) a2 = some (HO.lst [V.int 7, V.int 7, V.int 7, V.int 4]) := upd_same
    generalize upd Ga1 a2 (HO.lst [V.int 7, V.int 7, V.int 7, V.int 4]) = Ga2 at Xa2 ha2 ⊢
    obtain ⟨r, er, r7⟩ : ∃ r : Int, atI [V.int 7, V.int 7, V.int 7, V.int 4] ((f : Nat) : Int) = some (.int r) ∧ r ≤ 7 := by
      rcases (by omega : f = 0 ∨ f = 1 ∨ f = 2 ∨ f = 3) with rfl | rfl | rfl | rfl
      · exact ⟨7, rfl, by decide⟩
      · exact ⟨7, rfl, by decide⟩
      · exact ⟨7, rfl, by decide⟩
      · exact ⟨4, rfl, by decide⟩
    have P4 := P3.ex2 Xa2
    refine ⟨_, rfl, a2, _, _, _, rfl, rfl, sq_lst ha2, er, by show 1 ≤ sizeLine; decide, fun l nl => ?_⟩
    have Xl := ex_new (o := HO.lst [V.int r]) nl
    have hl : upd Ga2 l (HO.lst [V.int r]) l = some (HO.lst [V.int r]) := upd_same
    have lp := P4.1.not nl
    have P5 := P4.ex2 Xl
    generalize upd Ga2 l (HO.lst [V.int r]) = G2 at Xl hl P5 ⊢
    refine ⟨p, l, b, 0, r, rfl, P5.1, hl, lp, b1, b56, by omega, by omega, r7, fun t c j H3 ok wt j1 nt hT P6 => ?_⟩
    have P7 := P4.trans (P6.on Xl nl)
    have nt1 := ex_fresh Xl nt
    exact q t c H3 ok (by omega) (P4.fresh nt1) (P5.1.not nt) (hT.imp fun x hx => ⟨P4.fresh (ex_fresh Xl hx), P5.1.not hx⟩) P7
theorem ok__law_whole_card {P : Program} {w : World} {K : PySem.W.Frag} {mg : Str → Option Value} {base : Heap} (T : Env K mg) : Fc P w K mg base 70 (He.ga K "_law_whole_card") [] (sp__law_whole_card K ) := by
  obtain ⟨fd, D, F⟩ := fb__law_whole_card T
  exact F.all (D.bindsN fun _ _ _ _ _ _ us hl => match us, hl with | [_], _ => rfl)
end
section
def sp__law_made_parts (K : PySem.W.Frag) (d : Nat) : Sp := fun vs H Q _ => ∃ (N : Addr → Prop) (p : Addr) (as : List Addr) (ts : List Tr), vs = [.ref p] ∧ H p = some (.lst (as.map V.ref)) ∧ LtsAt N H ts as ∧ nestL ts + 1 ≤ d ∧ nestL ts ≤ 8 ∧ okL_ ts ∧ ts.length ≤ 2000 ∧ ∀ (f : Addr) (bs : List Addr) H', Ex H H' → H f = none → H' f = some (.lst (bs.map V.ref)) → ShsAt K H' ts bs → Q (.ref f) H'
theorem fb__law_made_parts {P : Program} {w : World} {K : PySem.W.Frag} {mg : Str → Option Value} {base : Heap} (T : Env K mg) {d L : Nat} (hL : 70 ≤ L) (r__law_made_parts : Fc P w K mg base L (He.ga K "_law_made_parts") [] (sp__law_made_parts K d)) : ∃ fd, FunD K "_law_made_parts" "_law_made_parts" (defArgs s__law_made_parts) (defBody s__law_made_parts) (defScope s__law_made_parts) [] [] (He.ga K "_law_made_parts") fd ∧ Fb P w K mg base (L + 1) (He.ga K "_law_made_parts") fd ["_law_parts"] (sp__law_made_parts K (d + 1)) := by
  obtain ⟨fd, F⟩ := T.f__law_made_parts
  refine ⟨fd, F, fb_of F sc__law_made_parts (fun vs H Q E h => ?_) (fun cdv A outer s H vs Q E hr h => ?_)⟩
  · obtain ⟨N, p, as, ts, rfl, _⟩ := h
    rfl
  · obtain ⟨N, p, as, ts, rfl, hp, hA, hn, hn8, hok, hlt, q⟩ := h
    refine ⟨_, (pss_cons (ps_set (i := 1) sc__law_made_parts.nd rfl (Or.inl rfl) (pe_lst pa_nil))
      (pss_cons (ps_for (passes_of rfl) rfl (pi_list (pv 0)) (pg_name (i := 2) sc__law_made_parts.nd rfl (Or.inl rfl))
      (pss_one (ps_if (pt_cmpR op_eq (pe_ix ix_tup (pv 2) pe_int (fun _ _ => rfl)) pe_str (nomark _))
      (pss_one (ps_expr (pe_bm PySem.F.plainAttrs_list PySem.F.slot_list_append PySem.F.type_list_append mt_append (pv 1) (pa_cons (c_make T.mk_At (ok_At_init T) (hr.mono (by omega)) T.g_At takes0 (pa_cons (pe_ix ix_tup (pv 2) pe_int (fun _ _ => rfl)) pa_nil)) pa_nil))))
      (pss_one (ps_expr (pe_bm PySem.F.plainAttrs_list PySem.F.slot_list_append PySem.F.type_list_append mt_append (pv 1) (pa_cons (c_make T.mk_Over (ok_Over_init T) (hr.mono (by omega)) T.g_Over takes0 (pa_cons (c_call r__law_made_parts (hr.mono (by omega)) T.g__law_made_parts T.k__law_made_parts takes0 (pa_cons (pe_ix ix_tup (pv 2) pe_int (fun _ _ => rfl)) pa_nil)) (pa_cons (pe_ix ix_tup (pv 2) pe_int (fun _ _ => rfl)) (pa_cons (pe_ix ix_tup (pv 2) pe_int (fun _ _ => rfl)) pa_nil)))) pa_nil)))))))
      (pss_one (ps_ret (pv 1))))), ?_⟩
    have hl1 := hA.len
    refine ⟨by show 0 ≤ sizeLine; decide, fun f nf => ?_⟩
    have X0 := ex_new (o := .lst []) nf
    refine ⟨_, rfl, p, rfl, ⟨_, sq_lst (X0 _ _ hp)⟩, for_on as V.ref L2.walk_list (fun i σ H' => Ex H H' ∧ ∃ bs v2, H' f = some (.lst (bs.map V.ref)) ∧ ShsAt K H' (ts.take i) bs ∧ σ = [some (.ref p), some (.ref f), v2]) ⟨X0, [], _, upd_same, by unfold ShsAt; rfl, rfl⟩ (fun i σ H' z => sq_lst (z.1 _ _ hp)) ?_ ?_⟩
    · rintro i a σ H2 hx ⟨X2, bs, v2, hf, hSh, rfl⟩
      obtain ⟨t, ht, hS⟩ := hA.get hx
      have htm := List.mem_of_getElem? ht
      have nm := nestL_mem htm
      have hS2 := hS.mono X2
      have hok1 := okL_mem hok htm
      have bl := hSh.len
      rw [List.length_take] at bl
      have hz : (bs.map V.ref).length < sizeLine := sz_lt (by rw [List.length_map]; omega)
      have fin : ∀ (b : Addr) (H3 : Hp), Ex H2 H3 → H2 b = none → ShAt K H3 t b → H3 f = some (.lst (bs.map V.ref)) ∧ (bs.map V.ref).length < sizeLine ∧ (Ex H (upd H3 f (.lst (bs.map V.ref ++ [.ref b]))) ∧ ∃ cs v2', upd H3 f (.lst (bs.map V.ref ++ [.ref b])) f = some (.lst (cs.map V.ref)) ∧ ShsAt K (upd H3 f (.lst (bs.map V.ref ++ [.ref b]))) (ts.take (i + 1)) cs ∧ [some (V.ref p), some (.ref f), some (.ref a)] = [some (V.ref p), some (.ref f), v2']) := fun b H3 X3 nb hb => by
        have hf3 := X3 _ _ hf
        refine ⟨hf3, hz, ex_mut (X2.trans X3) nf, bs ++ [b], some (.ref a), by rw [upd_same, List.map_append]; rfl, ?_, rfl⟩
        have hA3 := (hSh.mono X3).oth (d := f) (H' := upd H3 f (.lst (bs.map V.ref ++ [.ref b]))) (fun b o nb e => by rw [upd_ne nb]; exact e) (fun ob ho => by rw [hf3] at ho; cases ho; exact ⟨_, rfl⟩)
        have hS3 := hb.oth (d := f) (H' := upd H3 f (.lst (bs.map V.ref ++ [.ref b]))) (fun b o nb e => by rw [upd_ne nb]; exact e) (fun ob ho => by rw [hf3] at ho; cases ho; exact ⟨_, rfl⟩)
        rw [take_snoc ht]
        exact hA3.snoc hS3
      cases t with
      | «at» n =>
        unfold LtAt at hS2
        refine ⟨_, rfl, _, _, _, _, rfl, rfl, (sq_tup hS2), rfl, rfl, _, rfl, ?_⟩
        refine iteT ?_
        refine ⟨_, rfl, (.inl ⟨rfl, ⟨_, (sq_lst hf)⟩⟩), _, rfl, _, _, _, _, rfl, rfl, (sq_tup hS2), rfl, fun x dx nx nd ne => at_new nx nd ne fun H3 X3 hB => ⟨rfl, ?_⟩⟩
        obtain ⟨g1, g2, g3⟩ := fin x H3 X3 nx (by unfold ShAt; exact hB)
        exact ⟨_, _, _, rfl, rfl, g1, g2, g3⟩
      | ov ps m s_ =>
        unfold LtAt at hS2
        obtain ⟨r, cs, hS2, hN, hr2, hB⟩ := hS2
        obtain ⟨o1, m2, hm, hml, hl2, hpl, hokL⟩ := ov_facts hok1
        rw [Tr.nest] at nm
        refine ⟨_, rfl, _, _, _, _, rfl, rfl, (sq_tup hS2), rfl, rfl, _, rfl, ?_⟩
        refine iteF ?_
        refine ⟨_, rfl, (.inl ⟨rfl, ⟨_, (sq_lst hf)⟩⟩), _, rfl, _, _, _, _, rfl, rfl, (sq_tup hS2), rfl, _, r, cs, ps, rfl, hr2, hB, by omega, by omega, hokL, by omega, fun g ds H3 X3 ng hg hSd => ?_⟩
        have hS3 := X3 _ _ hS2
        refine ⟨_, rfl, _, _, _, _, rfl, rfl, (sq_tup hS3), rfl, _, rfl, _, _, _, _, rfl, rfl, (sq_tup hS3), rfl, fun x dx nx nd ne => ⟨rfl, over_newT nx nd ne (.inl hg) hSd hok1 (by rw [Tr.nest]; omega) fun H4 X4 hS => ⟨rfl, ?_⟩⟩⟩
        obtain ⟨g1, g2, g3⟩ := fin x H4 (X3.trans X4) (ex_fresh X3 nx) hS
        exact ⟨_, _, _, rfl, rfl, g1, g2, g3⟩
    · rintro σ H2 ⟨X2, bs, v2, hf, hSh, rfl⟩
      rw [List.take_of_length_le (by omega)] at hSh
      exact ⟨_, rfl, q f bs H2 X2 nf hf hSh⟩
theorem ok__law_made_parts {P : Program} {w : World} {K : PySem.W.Frag} {mg : Str → Option Value} {base : Heap} (T : Env K mg) {d L : Nat} (hL : 70 ≤ L) (r__law_made_parts : Fc P w K mg base L (He.ga K "_law_made_parts") [] (sp__law_made_parts K d)) : Fc P w K mg base (L + 1) (He.ga K "_law_made_parts") [] (sp__law_made_parts K (d + 1)) := by
  obtain ⟨fd, D, F⟩ := fb__law_made_parts T hL r__law_made_parts
  exact F.all (D.bindsN fun _ _ _ _ _ _ us hl => match us, hl with | [_], _ => rfl)
theorem all__law_made_parts {P : Program} {w : World} {K : PySem.W.Frag} {mg : Str → Option Value} {base : Heap} (T : Env K mg) : ∀ d, Fc P w K mg base (70 + 1 * d) (He.ga K "_law_made_parts") [] (sp__law_made_parts K d)
  | 0 => fc_no fun vs H Q E h => by
    obtain ⟨_, _, _, _, _, _, _, h, _⟩ := h
    omega
  | d + 1 => ok__law_made_parts T (Nat.le_add_right 70 _) (all__law_made_parts T d)
end
section
def sp__law_made_spread (K : PySem.W.Frag) : Sp := fun vs H Q _ => ∃ (N : Addr → Prop) (p : Addr) (as : List Addr) (ps : List Tr), vs = [.ref p] ∧ H p = some (.lst (as.map V.ref)) ∧ LtsAt N H ps as ∧ SpsOk ps ∧ ∀ x H', Ex H H' → H x = none → SprAt K H' x ps → HeldN K (fun b => H b = none) H' x → Q (.ref x) H'
theorem fb__law_made_spread {P : Program} {w : World} {K : PySem.W.Frag} {mg : Str → Option Value} {base : Heap} (T : Env K mg) : ∃ fd, FunD K "_law_made_spread" "_law_made_spread" (defArgs s__law_made_spread) (defBody s__law_made_spread) (defScope s__law_made_spread) [] [] (He.ga K "_law_made_spread") fd ∧ Fb P w K mg base 90 (He.ga K "_law_made_spread") fd ["_law_parts"] (sp__law_made_spread K) := by
  obtain ⟨fd, F⟩ := T.f__law_made_spread
  refine ⟨fd, F, fb_of F sc__law_made_spread (fun vs H Q E h => ?_) (fun cdv A outer s H vs Q E hr h => ?_)⟩
  · obtain ⟨N, p, as, ps, rfl, _⟩ := h
    rfl
  · obtain ⟨N, p, as, ps, rfl, hp, hA, hk, q⟩ := h
    refine ⟨_, (pss_one (ps_ret (c_make T.mk_Spread (ok_Spread_init T) (hr.mono (by decide)) T.g_Spread takes0 (pa_cons (c_call (all__law_made_parts T 9) (hr.mono (by decide)) T.g__law_made_parts T.k__law_made_parts takes0 (pa_cons (pv 0) pa_nil)) pa_nil)))), ?_⟩
    obtain ⟨k1, k2, k3, k4, k5, k6⟩ := hk
    have ll := len_pcsL ps
    refine ⟨_, rfl, N, p, as, ps, rfl, hp, hA, by omega, by omega, k1, by omega, fun f bs H1 X1 nf hf hS => ?_⟩
    refine fun x dx nx nd ne => ?_
    show sp_Spread_init K [.ref x, .ref f] _ _ _
    exact spread_newH nx nd ne (.inl hf) hS (by omega) k1 k5 fun H2 X2 hs hH => ⟨rfl, q x H2 (X1.trans X2) (ex_fresh X1 nx) hs (fun dx kp hd e => ex_fresh X1 (hH dx kp hd e))⟩
theorem ok__law_made_spread {P : Program} {w : World} {K : PySem.W.Frag} {mg : Str → Option Value} {base : Heap} (T : Env K mg) : Fc P w K mg base 90 (He.ga K "_law_made_spread") [] (sp__law_made_spread K ) := by
  obtain ⟨fd, D, F⟩ := fb__law_made_spread T
  exact F.all (D.bindsN fun _ _ _ _ _ _ us hl => match us, hl with | [_], _ => rfl)
end
section
def sp__law_made_days (K : PySem.W.Frag) : Sp := fun vs H Q _ => ∃ (t g m : Addr) (D : DaysD), vs = [.ref t] ∧ SomeAt H t g m D ∧ D.ok ∧ ∀ x H', Ex H H' → H x = none → DaysAt K H' x D → Q (.ref x) H'
theorem fb__law_made_days {P : Program} {w : World} {K : PySem.W.Frag} {mg : Str → Option Value} {base : Heap} (T : Env K mg) : ∃ fd, FunD K "_law_made_days" "_law_made_days" (defArgs s__law_made_days) (defBody s__law_made_days) (defScope s__law_made_days) [] [] (He.ga K "_law_made_days") fd ∧ Fb P w K mg base 7 (He.ga K "_law_made_days") fd ["_law_days_here"] (sp__law_made_days K) := by
  obtain ⟨fd, F⟩ := T.f__law_made_days
  refine ⟨fd, F, fb_of F sc__law_made_days (fun vs H Q E h => ?_) (fun cdv A outer s H vs Q E hr h => ?_)⟩
  · obtain ⟨t, g, m, D, rfl, _⟩ := h
    rfl
  · obtain ⟨t, g, m, D, rfl, hS, hD, q⟩ := h
    refine ⟨_, (pss_cons (ps_asg (pv 0) (pg_tup (by rfl) (pgs_cons (pg_name (i := 1) sc__law_made_days.nd rfl (Or.inl rfl)) (pgs_cons (pg_name (i := 2) sc__law_made_days.nd rfl (Or.inl rfl)) (pgs_cons (pg_name (i := 3) sc__law_made_days.nd rfl (Or.inl rfl)) (pgs_cons (pg_name (i := 4) sc__law_made_days.nd rfl (Or.inl rfl)) (pgs_cons (pg_name (i := 5) sc__law_made_days.nd rfl (Or.inl rfl)) pgs_nil)))))))
      (pss_one (ps_ret (c_make T.mk_Days (ok_Days_init T) (hr.mono (by decide)) T.g_Days takes0 (pa_cons (c_make T.mk_Ring (ok_Ring_init T) (hr.mono (by decide)) T.g_Ring takes0 (pa_cons (pv 1) pa_nil)) (pa_cons (pv 2) (pa_cons (pv 3) (pa_cons (pv 4) (pa_cons (pv 5) pa_nil))))))))), ?_⟩
    obtain ⟨h1, h3, h4⟩ := id hS
    obtain ⟨hs, ht, lo, la, no, na, hdj⟩ := id hD
    refine ⟨_, rfl, _, _, rfl, (sq_tup h1), rfl, _, _, rfl, _, _, rfl, _, _, rfl, _, _, rfl, _, _, rfl, rfl, ?_⟩
    refine ⟨_, rfl, fun r dr nr ndr ner => ring_new nr ndr ner hs fun H1 X1 R1 => ⟨rfl, ?_⟩⟩
    refine ⟨_, rfl, _, rfl, _, rfl, _, rfl, ?_⟩
    refine fun x dx nx nd ne => ⟨rfl, days_new nx nd ne R1 hD (.inr ⟨g, rfl, .inl (X1 _ _ h3), lo, no⟩) (.inr ⟨m, rfl, .inl (X1 _ _ h4), la, na⟩) fun H4 X4 D4 => ⟨rfl, ?_⟩⟩
    exact q x H4 (X1.trans X4) (ex_fresh X1 nx) D4
theorem ok__law_made_days {P : Program} {w : World} {K : PySem.W.Frag} {mg : Str → Option Value} {base : Heap} (T : Env K mg) : Fc P w K mg base 7 (He.ga K "_law_made_days") [] (sp__law_made_days K ) := by
  obtain ⟨fd, D, F⟩ := fb__law_made_days T
  exact F.all (D.bindsN fun _ _ _ _ _ _ us hl => match us, hl with | [_], _ => rfl)
end
section
/-- G keeps what H' has, but for lists that stood in H -/
def Kpl (H H' G : Hp) : Prop := (∀ b o, (∀ ys, o ≠ .lst ys) → H' b = some o → G b = some o) ∧ ∀ b o, H b = none → H' b = some o → G b = some o
theorem Kpl.refl (H H' : Hp) : Kpl H H' H' := ⟨fun _ _ _ e => e, fun _ _ _ e => e⟩
theorem Kpl.weak {H H1 H1' H' G : Hp} (k : Kpl H H' G) (X : Ex H H1) (Y : Ex H1' H') : Kpl H1 H1' G := ⟨fun b o n e => k.1 b o n (Y _ _ e), fun b o n e => k.2 b o (ex_fresh X n) (Y _ _ e)⟩
def PutC (K : PySem.W.Frag) (H H' : Hp) (c : CardD) (a : Addr) : Prop := ∀ G, Kpl H H' G → CardAt K G c a
def PutCs (K : PySem.W.Frag) (H H' : Hp) (cs : List CardD) (as : List Addr) : Prop := ∀ G, Kpl H H' G → CardsAt K G cs as
theorem PutC.at {K : PySem.W.Frag} {H H' : Hp} {c : CardD} {a : Addr} (h : PutC K H H' c a) : CardAt K H' c a := h H' (.refl _ _)
theorem PutCs.at {K : PySem.W.Frag} {H H' : Hp} {c : List CardD} {a : List Addr} (h : PutCs K H H' c a) : CardsAt K H' c a := h H' (.refl _ _)
theorem PutC.mono {K : PySem.W.Frag} {H H1 H1' H' : Hp} {c : CardD} {a : Addr} (h : PutC K H1 H1' c a) (X : Ex H H1) (Y : Ex H1' H') : PutC K H H' c a := fun G k => h G (k.weak X Y)
theorem PutCs.mono {K : PySem.W.Frag} {H H1 H1' H' : Hp} {c : List CardD} {a : List Addr} (h : PutCs K H1 H1' c a) (X : Ex H H1) (Y : Ex H1' H') : PutCs K H H' c a := fun G k => h G (k.weak X Y)
theorem PutCs.get1 {K : PySem.W.Frag} {H H' : Hp} {c : CardD} {a : List Addr} (h : PutCs K H H' [c] a) : ∃ b, a = [b] ∧ PutC K H H' c b := by
  have h0 := h.at
  unfold CardsAt at h0
  obtain ⟨b, r, rfl, h1, h2⟩ := h0
  unfold CardsAt at h2
  subst h2
  refine ⟨b, rfl, fun G k => ?_⟩
  have h := h G k
  unfold CardsAt at h
  obtain ⟨b', r', e, h1', _⟩ := h
  cases e
  exact h1'
theorem PutCs.get2 {K : PySem.W.Frag} {H H' : Hp} {c d : CardD} {a : List Addr} (h : PutCs K H H' [c, d] a) : ∃ b e, a = [b, e] ∧ PutC K H H' c b ∧ PutC K H H' d e := by
  have h0 := h.at
  unfold CardsAt at h0
  obtain ⟨b, r, rfl, h1, h2⟩ := h0
  unfold CardsAt at h2
  obtain ⟨e, r, rfl, h3, h4⟩ := h2
  unfold CardsAt at h4
  subst h4
  refine ⟨b, e, rfl, fun G k => ?_, fun G k => ?_⟩
  · have h := h G k
    unfold CardsAt at h
    obtain ⟨b', r', e', h1', _⟩ := h
    cases e'
    exact h1'
  · have h := h G k
    unfold CardsAt at h
    obtain ⟨b', r', e', h1', h2'⟩ := h
    cases e'
    unfold CardsAt at h2'
    obtain ⟨b', r', e', h1', _⟩ := h2'
    cases e'
    exact h1'
theorem DaysAt.kpl {K : PySem.W.Frag} {H H' G : Hp} {r : Addr} {D : DaysD} (k : Kpl H H' G) (a : DaysAt K H' r D) : DaysAt K G r D := by
  obtain ⟨dr, r1, po, pa, m1, ⟨dq, m2⟩, m3, m4⟩ := a
  exact ⟨dr, r1, po, pa, k.1 _ _ nofun m1, ⟨dq, k.1 _ _ nofun m2⟩, k.1 _ _ nofun m3, k.1 _ _ nofun m4⟩
mutual
theorem ShAt.kpl {K : PySem.W.Frag} {H H' G : Hp} (k : Kpl H H' G) : ∀ {t : Tr} {a : Addr}, ShAt K H' t a → ShAt K G t a
  | .at n, a, h => by
    unfold ShAt at h ⊢
    obtain ⟨dx, h⟩ := h
    exact ⟨dx, k.1 _ _ nofun h⟩
  | .ov ps m s, a, h => by
    unfold ShAt at h ⊢
    obtain ⟨dx, kp, as, h1, h2, h3⟩ := h
    exact ⟨dx, kp, as, k.1 _ _ nofun h1, k.1 _ _ nofun h2, ShsAt.kpl k h3⟩
theorem ShsAt.kpl {K : PySem.W.Frag} {H H' G : Hp} (k : Kpl H H' G) : ∀ {ts : List Tr} {as : List Addr}, ShsAt K H' ts as → ShsAt K G ts as
  | [], as, h => by
    unfold ShsAt at h ⊢
    exact h
  | t :: ts, as, h => by
    unfold ShsAt at h ⊢
    obtain ⟨a, r, h1, h2, h3⟩ := h
    exact ⟨a, r, h1, ShAt.kpl k h2, ShsAt.kpl k h3⟩
end
theorem SprAt.kpl {K : PySem.W.Frag} {M : Addr → Prop} {H H' G : Hp} {s : Addr} {ts : List Tr} (k : Kpl H H' G) (h : SprAt K H' s ts) (hH : HeldN K M H' s) (hM : ∀ b, M b → H b = none) : SprAt K G s ts := by
  obtain ⟨dx, kp, hd, as, h1, h2, h3, h4⟩ := h
  exact ⟨dx, kp, hd, as, k.1 _ _ nofun h1, k.1 _ _ nofun h2, k.2 _ _ (hM _ (hH _ _ _ h1)) h3, h4.kpl k⟩
theorem putC_once {K : PySem.W.Frag} {H H' : Hp} {x s : Addr} {ts : List Tr} {ws : List Str} {N M : Addr → Prop} (hs : SprAt K H' s ts) (hH : HeldN K M H' s) (hA : CardAt K H' (.once ts ws) x) (hC : CdN N (.ref s) H' x) (hN : ∀ b, N b → H b = none) (hM : ∀ b, M b → H b = none) : PutC K H H' (.once ts ws) x := fun G k => by
  unfold CardAt at hA ⊢
  obtain ⟨dx, hd, s', nt, ow, h1, h2, h3, h4, h5⟩ := hA
  obtain ⟨n1, l1⟩ := hC _ _ _ _ _ h1
  have es : s' = s := by
    have z : some (V.ref s') = some (V.ref s) := l1
    injection z with z
    injection z with z
  subst es
  exact ⟨dx, hd, s', nt, ow, k.1 _ _ nofun h1, k.2 _ _ (hN _ n1) h2, hs.kpl k hH hM, k.1 _ _ nofun h4, k.1 _ _ nofun h5⟩
theorem putC_every {K : PySem.W.Frag} {H H' : Hp} {x s : Addr} {D : DaysD} {ts : List Tr} {ws : List Str} {N M : Addr → Prop} (hs : SprAt K H' s ts) (hH : HeldN K M H' s) (hA : CardAt K H' (.every D ts ws) x) (hC : CdN N (.ref s) H' x) (hN : ∀ b, N b → H b = none) (hM : ∀ b, M b → H b = none) : PutC K H H' (.every D ts ws) x := fun G k => by
  unfold CardAt at hA ⊢
  obtain ⟨dx, hd, r, s', nt, ow, h1, h2, h0, h3, h4, h5⟩ := hA
  obtain ⟨n1, l1⟩ := hC _ _ _ _ _ h1
  have es : s' = s := by
    have z : some (V.ref s') = some (V.ref s) := l1
    injection z with z
    injection z with z
  subst es
  exact ⟨dx, hd, r, s', nt, ow, k.1 _ _ nofun h1, k.2 _ _ (hN _ n1) h2, h0.kpl k, hs.kpl k hH hM, k.1 _ _ nofun h4, k.1 _ _ nofun h5⟩
theorem put_join {K : PySem.W.Frag} {H H' : Hp} {x dx hd : Addr} {as : List Addr} {cs : List CardD} (nh : H hd = none) (e : H' x = some (.ins (He.ga K "Join") dx (cdF hd (1 + wtL cs) []))) (eh : H' hd = some (.lst (as.map V.ref))) (hp : PutCs K H H' cs as) : PutC K H H' (.join cs) x := fun G k => by
  unfold CardAt
  exact ⟨dx, hd, as, k.1 _ _ nofun e, k.2 _ _ nh eh, hp G k⟩
theorem put_less {K : PySem.W.Frag} {H H' : Hp} {x b e dx hd : Addr} {c d : CardD} (nh : H hd = none) (h1 : H' x = some (.ins (He.ga K "Less") dx (cdF hd (1 + (c.wt + d.wt)) []))) (h2 : H' hd = some (.lst [.ref b, .ref e])) (hb : PutC K H H' c b) (he : PutC K H H' d e) : PutC K H H' (.less c d) x := fun G k => by
  unfold CardAt
  exact ⟨dx, hd, b, e, k.1 _ _ nofun h1, k.2 _ _ nh h2, hb G k, he G k⟩
theorem put_swap {K : PySem.W.Frag} {H H' : Hp} {x dx hd b e r : Addr} {c d : CardD} {S : DaysD} (nh : H hd = none) (h1 : H' x = some (.ins (He.ga K "Swap") dx (cdF hd (1 + (c.wt + d.wt)) [("days", .ref r)]))) (h2 : H' hd = some (.lst [.ref b, .ref e])) (hr : DaysAt K H' r S) (hb : PutC K H H' c b) (he : PutC K H H' d e) : PutC K H H' (.swap c S d) x := fun G k => by
  unfold CardAt
  exact ⟨dx, hd, b, e, r, k.1 _ _ nofun h1, k.2 _ _ nh h2, hb G k, he G k, hr.kpl k⟩
theorem put_later {K : PySem.W.Frag} {H H' : Hp} {x dx hd b : Addr} {c : CardD} {m : Nat} (nh : H hd = none) (h1 : H' x = some (.ins (He.ga K "Later") dx (cdF hd (1 + c.wt) [("minutes", .int (m : Nat))]))) (h2 : H' hd = some (.lst [.ref b])) (hb : PutC K H H' c b) : PutC K H H' (.later c m) x := fun G k => by
  unfold CardAt
  exact ⟨dx, hd, b, k.1 _ _ nofun h1, k.2 _ _ nh h2, hb G k⟩
theorem put_noted {K : PySem.W.Frag} {H H' : Hp} {x dx hd b : Addr} {c : CardD} {w : Str} (nh : H hd = none) (h1 : H' x = some (.ins (He.ga K "Noted") dx (cdF hd (1 + c.wt) [("note", .str w)]))) (h2 : H' hd = some (.lst [.ref b])) (hb : PutC K H H' c b) : PutC K H H' (.noted c w) x := fun G k => by
  unfold CardAt
  exact ⟨dx, hd, b, k.1 _ _ nofun h1, k.2 _ _ nh h2, hb G k⟩
end
section
theorem PutC.base1 {K : PySem.W.Frag} {H G1 G : Hp} {c : CardD} {a : Addr} (h : PutC K G1 G c a) (e : Ex H G1) : PutC K H G c a := h.mono e (.refl _)
theorem PutC.clear {K : PySem.W.Frag} {H G1 G : Hp} {c : CardD} {a l : Addr} {xs ys zs : List V} (h : PutC K G1 G c a) (e : Ex H G1) (hl : G l = some (.lst xs)) (g1 : G1 l = some (.lst zs)) : PutC K H (upd G l (.lst ys)) c a := fun F k => h F ⟨fun b o ho z => k.1 b o ho (by rw [upd_ne (fun w => by rw [w, hl] at z; cases z; exact ho _ rfl)]; exact z), fun b o nb z => k.2 b o (ex_fresh e nb) (by rw [upd_ne (fun w => by rw [w, g1] at nb; cases nb)]; exact z)⟩
def CtD.leafB : CtD → Bool
  | .once _ _ => true
  | .every _ _ _ => true
  | _ => false
def sp__law_made_leaf (K : PySem.W.Frag) : Sp := fun vs H Q _ => ∃ (N : Addr → Prop) (t : Addr) (c : CtD), vs = [.ref t] ∧ CtN N H c t ∧ c.tok ∧ c.leafB = true ∧ ∀ a H', Ex H H' → H a = none → PutC K H H' c.card a → Q (.ref a) H'
theorem fb__law_made_leaf {P : Program} {w : World} {K : PySem.W.Frag} {mg : Str → Option Value} {base : Heap} (T : Env K mg) : ∃ fd, FunD K "_law_made_leaf" "_law_made_leaf" (defArgs s__law_made_leaf) (defBody s__law_made_leaf) (defScope s__law_made_leaf) [] [] (He.ga K "_law_made_leaf") fd ∧ Fb P w K mg base 100 (He.ga K "_law_made_leaf") fd ["_law_tree"] (sp__law_made_leaf K) := by
  obtain ⟨fd, F⟩ := T.f__law_made_leaf
  refine ⟨fd, F, fb_of F sc__law_made_leaf (fun vs H Q E h => ?_) (fun cdv A outer s H vs Q E hr h => ?_)⟩
  · obtain ⟨N, t, c, rfl, _⟩ := h
    rfl
  · obtain ⟨N, t, c, rfl, hT, hk, hl, q⟩ := h
    refine ⟨_, (pss_cons (ps_set (i := 1) sc__law_made_leaf.nd rfl (Or.inl rfl) (pe_callTy call_list_of (by rfl) T.n_list (by decide +kernel) (pa_cons (pe_ix ix_tup (pv 0) pe_int (fun _ _ => rfl)) pa_nil)))
      (Evl.pss_cut (ps_if (pt_cmpR (op_eqD hr.rm.units) (pv 1) (pe_lst pa_nil) (nomark _))
      (pss_one (ps_set (i := 1) sc__law_made_leaf.nd rfl (Or.inl rfl) pe_non))
      pss_nil)
      (pss_cons (ps_if (pt_cmpR op_eq (pe_ix ix_tup (pv 0) pe_int (fun _ _ => rfl)) pe_str (nomark _))
      (pss_one (ps_set (i := 2) sc__law_made_leaf.nd rfl (Or.inl rfl) (c_make T.mk_Once (ok_Once_init T) (hr.mono (by decide)) T.g_Once takes0 (pa_cons (c_call (ok__law_made_spread T) (hr.mono (by decide)) T.g__law_made_spread T.k__law_made_spread takes0 (pa_cons (pe_ix ix_tup (pv 0) pe_int (fun _ _ => rfl)) pa_nil)) (pa_cons (pv 1) pa_nil)))))
      (pss_one (ps_set (i := 2) sc__law_made_leaf.nd rfl (Or.inl rfl) (c_make T.mk_Every (ok_Every_init T) (hr.mono (by decide)) T.g_Every takes0 (pa_cons (c_call (ok__law_made_days T) (hr.mono (by decide)) T.g__law_made_days T.k__law_made_days takes0 (pa_cons (pe_ix ix_tup (pv 0) pe_int (fun _ _ => rfl)) pa_nil)) (pa_cons (c_call (ok__law_made_spread T) (hr.mono (by decide)) T.g__law_made_spread T.k__law_made_spread takes0 (pa_cons (pe_ix ix_tup (pv 0) pe_int (fun _ _ => rfl)) pa_nil)) (pa_cons (pv 1) pa_nil)))))))
      (pss_cons (ps_if (pt_cmpR op_notN (pv 1) pe_non (nomark _))
      (pss_one (ps_expr (pe_bm0 PySem.F.plainAttrs_list PySem.F.slot_list_clear PySem.F.type_list_clear mt_clear (pv 1))))
      pss_nil)
      (pss_one (ps_ret (pv 2))))))), ?_⟩
    cases c with
    | once ps ws =>
      unfold CtN at hT
      obtain ⟨l, as, n, h1, n1, h2, h3, n2, h4⟩ := hT
      unfold CtD.tok at hk
      obtain ⟨k1, kn⟩ := hk
      refine ⟨_, rfl, _, _, _, _, rfl, rfl, (sq_tup h1), rfl, _, _, rfl, (.inl (sq_lst h4)), ?_⟩
      intro a1 na1
      have Xa1 := ex_new (o := HO.lst (List.map V.str ws)) na1
      have ha1 : upd H a1 (HO.lst (List.map V.str ws)) a1 = some (HO.lst (List.map V.str ws)) := upd_same
      generalize upd H a1 (HO.lst (List.map V.str ws)) = Ga1 at Xa1 ha1 ⊢
      refine ⟨fun σ' G => Ex Ga1 G ∧ ∃ y, σ' = [some (.ref t), some y, none] ∧ ((y = .non ∧ ws = []) ∨ y = .ref a1), ?_, ?_⟩
      · refine ⟨_, rfl, by show 0 ≤ sizeLine; decide, fun e0 ne => ?_⟩
        have Y1 := ex_new (o := HO.lst []) ne
        refine ⟨_, _, .lst (sq_lst (Y1 _ _ ha1)) (dp_strs _ _ ws), .lst (sq_lst upd_same) .nil, shaped_str kn.1, rfl, _, rfl, ?_⟩
        cases ws with
        | nil => exact iteT ⟨Y1, _, rfl, .inl ⟨rfl, rfl⟩⟩
        | cons w r => exact iteF ⟨Y1, _, rfl, .inr rfl⟩
      rintro σ' G ⟨X1, y, rfl, hy⟩
      have ha2 := X1 _ _ ha1
      have X01 := Xa1.trans X1
      have h11 := X01 _ _ h1
      have l3 := kn.2.2
      have hN : NtX K G y (some (srtS ws)) := by
        rcases hy with ⟨rfl, rfl⟩ | rfl
        · exact .inl ⟨rfl, congrArg some (List.eq_nil_of_length_eq_zero (by rw [(srtS_perm []).length_eq]; rfl))⟩
        · exact nt_names (.inl ha2) kn.1 kn.2.1 (by omega)
      obtain ⟨s1, s2, s3, s4, s5, s6⟩ := id k1
      have lm : (momsL ps).length ≤ 1440 := of_decide_eq_true (Bool.and_eq_true_iff.mp s5).2
      refine ⟨_, rfl, _, _, _, _, rfl, rfl, (sq_tup h11), rfl, rfl, _, rfl, _, rfl, _, _, _, _, rfl, rfl, (sq_tup h11), rfl, _, _, _, _, rfl, (X01 _ _ h2), (h3.mono X01), k1, ?_⟩
      intro s0 G2 X2 ns hs hH
      refine ⟨_, rfl, fun z dz nz ndz nez => ⟨rfl, ?_⟩⟩
      show sp_Once_init K [.ref z, .ref s0, y] _ _ _
      refine once_new nz ndz nez hs s6 lm (hN.mono X2) fun G3 X3 hA hC => ⟨rfl, ?_⟩
      have hP : PutC K G G3 (CtD.card (.once ps ws)) z := putC_once (hs.mono X3) (hH.ex hs fun o e => X3 _ _ e) hA hC (fun b e => ex_fresh X2 e) fun b e => e
      have nz0 : H z = none := ex_fresh (X01.trans X2) nz
      have X4 : Ex G G3 := X2.trans X3
      rcases hy with ⟨rfl, e0⟩ | rfl
      · refine ⟨_, rfl, rfl, _, rfl, iteF ⟨_, rfl, q z G3 (X01.trans X4) nz0 (hP.base1 X01)⟩⟩
      · have ha4 := X4 _ _ ha2
        refine ⟨_, rfl, rfl, _, rfl, iteT ?_⟩
        refine ⟨_, rfl, (.inl ⟨rfl, ⟨_, (sq_lst ha4)⟩⟩), _, _, rfl, rfl, ha4, _, rfl, ?_⟩
        try dsimp only [tNil]
        exact q z _ (ex_mut (X01.trans X4) na1) nz0 (hP.clear X01 ha4 ha2)
    | every ps ws D =>
      unfold CtN at hT
      obtain ⟨l, as, n, x, g, m, h1, n1, h2, h3, n2, h4, h5, n3, n4⟩ := hT
      unfold CtD.tok at hk
      obtain ⟨k1, kn, kd, km⟩ := hk
      refine ⟨_, rfl, _, _, _, _, rfl, rfl, (sq_tup h1), rfl, _, _, rfl, (.inl (sq_lst h4)), ?_⟩
      intro a1 na1
      have Xa1 := ex_new (o := HO.lst (List.map V.str ws)) na1
      have ha1 : upd H a1 (HO.lst (List.map V.str ws)) a1 = some (HO.lst (List.map V.str ws)) := upd_same
      generalize upd H a1 (HO.lst (List.map V.str ws)) = Ga1 at Xa1 ha1 ⊢
      refine ⟨fun σ' G => Ex Ga1 G ∧ ∃ y, σ' = [some (.ref t), some y, none] ∧ ((y = .non ∧ ws = []) ∨ y = .ref a1), ?_, ?_⟩
      · refine ⟨_, rfl, by show 0 ≤ sizeLine; decide, fun e0 ne => ?_⟩
        have Y1 := ex_new (o := HO.lst []) ne
        refine ⟨_, _, .lst (sq_lst (Y1 _ _ ha1)) (dp_strs _ _ ws), .lst (sq_lst upd_same) .nil, shaped_str kn.1, rfl, _, rfl, ?_⟩
        cases ws with
        | nil => exact iteT ⟨Y1, _, rfl, .inl ⟨rfl, rfl⟩⟩
        | cons w r => exact iteF ⟨Y1, _, rfl, .inr rfl⟩
      rintro σ' G ⟨X1, y, rfl, hy⟩
      have ha2 := X1 _ _ ha1
      have X01 := Xa1.trans X1
      have h11 := X01 _ _ h1
      have l3 := kn.2.2
      have hN : NtX K G y (some (srtS ws)) := by
        rcases hy with ⟨rfl, rfl⟩ | rfl
        · exact .inl ⟨rfl, congrArg some (List.eq_nil_of_length_eq_zero (by rw [(srtS_perm []).length_eq]; rfl))⟩
        · exact nt_names (.inl ha2) kn.1 kn.2.1 (by omega)
      obtain ⟨s1, s2, s3, s4, s5, s6⟩ := id k1
      have lm : (momsL ps).length ≤ 1440 := of_decide_eq_true (Bool.and_eq_true_iff.mp s5).2
      refine ⟨_, rfl, _, _, _, _, rfl, rfl, (sq_tup h11), rfl, rfl, _, rfl, _, rfl, _, _, _, _, rfl, rfl, (sq_tup h11), rfl, _, _, _, _, rfl, (h5.mono X01), ?_⟩
      refine ⟨kd.1, fun dy G2 X2 ny hdy => ?_⟩
      have h12 := X2 _ _ h11
      refine ⟨_, rfl, _, _, _, _, rfl, rfl, (sq_tup h12), rfl, N, l, as, ps, rfl, X2 _ _ (X01 _ _ h2), (h3.mono X01).mono X2, k1, fun s0 G2b X2b ns hs hH => ?_⟩
      have Y2 := X2.trans X2b
      refine ⟨_, rfl, fun z dz nz ndz nez => ⟨rfl, ?_⟩⟩
      show sp_Every_init K [.ref z, .ref dy, .ref s0, y] _ _ _
      refine every_new nz ndz nez (hdy.mono X2b) kd.1 hs s6 lm km (hN.mono Y2) fun G3 X3 hA hC => ⟨rfl, ?_⟩
      have hP : PutC K G G3 (CtD.card (.every ps ws D)) z := putC_every (hs.mono X3) (hH.ex hs fun o e => X3 _ _ e) hA hC (fun b e => ex_fresh Y2 e) fun b e => ex_fresh X2 e
      have nz0 : H z = none := ex_fresh (X01.trans Y2) nz
      have X4 : Ex G G3 := Y2.trans X3
      rcases hy with ⟨rfl, e0⟩ | rfl
      · refine ⟨_, rfl, rfl, _, rfl, iteF ⟨_, rfl, q z G3 (X01.trans X4) nz0 (hP.base1 X01)⟩⟩
      · have ha4 := X4 _ _ ha2
        refine ⟨_, rfl, rfl, _, rfl, iteT ?_⟩
        refine ⟨_, rfl, (.inl ⟨rfl, ⟨_, (sq_lst ha4)⟩⟩), _, _, rfl, rfl, ha4, _, rfl, ?_⟩
        try dsimp only [tNil]
        exact q z _ (ex_mut (X01.trans X4) na1) nz0 (hP.clear X01 ha4 ha2)
    | _ => cases hl
theorem ok__law_made_leaf {P : Program} {w : World} {K : PySem.W.Frag} {mg : Str → Option Value} {base : Heap} (T : Env K mg) : Fc P w K mg base 100 (He.ga K "_law_made_leaf") [] (sp__law_made_leaf K ) := by
  obtain ⟨fd, D, F⟩ := fb__law_made_leaf T
  exact F.all (D.bindsN fun _ _ _ _ _ _ us hl => match us, hl with | [_], _ => rfl)
end
section
theorem lc_mk {α : Type} {J : It} {Gd Qd : Hp → Prop} {G0 : Hp} {D : Addr} {g : TG} {tt : TT} {te : TE} {vs : List Nat} {σ : L2.St} (xs : List α) (vx : α → V) (R : Hp → Addr → α → Prop) (nD : G0 D = none) (w : L2.Walk J (xs.map vx).length Gd (L2.YAt (xs.map vx))) (hG : ∀ H, Ex G0 H → Gd H) (hn : xs.length ≤ 2000)
    (hR : ∀ H l a x ys, H D = some (.lst ys) → R H a x → R (upd H D (.lst l)) a x) (hE : ∀ H H' a x, Ex H H' → R H a x → R H' a x)
    (hs : ∀ (i : Nat) (x : α) (H : Hp) (acc : List V) (Nx : Hp → Prop), xs[i]? = some x → Ex G0 H → H D = some (.lst acc) → acc.length < sizeLine → (∀ a H4, Ex H H4 → R H4 a x → Nx (upd H4 D (.lst (acc ++ [.ref a])))) → Turn g tt te vs σ D (vx x) H Nx)
    (hd : ∀ as G, Ex G0 G → Paired (R G) as xs → G D = some (.lst (as.map V.ref)) → Qd G) :
    ∃ W : Nat → Nat → Hp → Prop, (∃ m, W 0 m (upd G0 D (.lst []))) ∧ ∀ i m H, W i m H →
      (J.stop i H ∧ Qd H) ∨ (J.go i H ∧ ∃ Nx : Hp → Prop, (∀ H', Nx H' → ∃ m', m' < m ∧ W (i + 1) m' H') ∧ ∀ x H', J.yld i H x H' → Turn g tt te vs σ D x H' Nx) := by
  refine lc_any w (fun i acc G => Ex G0 G ∧ ∃ as, acc = as.map V.ref ∧ Paired (R G) as (xs.take i) ∧ (as = [] ∨ ∃ ys, G D = some (.lst ys))) (fun i acc H l h => ?_) ⟨.refl _, [], rfl, .nil, .inl rfl⟩ (by rw [List.length_map]; omega) (fun i acc H h => ?_) (fun i acc H h => hG H h.1) (fun i y H H' acc N hi h hD la yy kk _ => ?_) fun acc G h hD => ?_
  · obtain ⟨X, as, e, p, z⟩ := h
    refine ⟨ex_mut X nD, as, e, ?_, .inr ⟨l, upd_same⟩⟩
    rcases z with rfl | ⟨ys, hy⟩
    · generalize xs.take i = u at p ⊢
      cases p
      exact .nil
    · exact paired_imp (fun a x r => hR _ _ _ _ _ hy r) p
  · obtain ⟨X, as, rfl, p, _⟩ := h
    rw [List.length_map, Paired.length p, List.length_take]
    omega
  · obtain ⟨rfl, hy⟩ := yy
    rw [List.getElem?_map] at hy
    obtain ⟨x, hx, rfl⟩ := Option.map_eq_some_iff.mp hy
    obtain ⟨X, as, rfl, p, _⟩ := h
    refine hs i x _ _ _ hx X hD la fun a H4 X4 r => kk _ H4 (X4 _ _ hD) ⟨X.trans X4, as ++ [a], by rw [List.map_append]; rfl, ?_, .inr ⟨_, X4 _ _ hD⟩⟩
    rw [take_snoc hx]
    exact paired_snoc (paired_imp (fun _ _ z => hE _ _ _ _ X4 z) p) r
  · obtain ⟨X, as, rfl, p, _⟩ := h
    rw [List.length_map, List.take_length] at p
    exact hd as G X p hD
end
section
theorem putC_item {K : PySem.W.Frag} {H G H5 : Hp} {A a : Addr} {c : CardD} {acc acc' : List V} (h : PutC K G H5 c a) (XG : Ex H G) (hD : G A = some (.lst acc)) (h5 : H5 A = some (.lst acc')) (nA : H A = none) : ∀ ys, PutC K H (upd H5 A (.lst ys)) c a := fun ys F kp => h F ⟨fun b o no e => kp.1 b o no ((upd_ne (fun w => by rw [w, h5] at e; cases e; exact no _ rfl)).trans e), fun b o nb e => kp.2 b o (ex_fresh XG nb) ((upd_ne (fun w => by rw [w, hD] at nb; cases nb)).trans e)⟩
theorem upd_updC {G : Hp} {D : Addr} {o u : HO} : upd (upd G D o) D u = upd G D u := funext fun b => by
  by_cases h : b = D
  · subst h
    rw [upd_same, upd_same]
  · rw [upd_ne h, upd_ne h, upd_ne h]
theorem upd_selfC {G : Hp} {D : Addr} {o : HO} (h : G D = some o) : upd G D o = G := funext fun b => by
  by_cases e : b = D
  · subst e
    rw [upd_same, h]
  · rw [upd_ne e]
theorem ex_upd2 {A : Addr} {o : HO} {G G' : Hp} (X : Ex G G') : Ex (upd G A o) (upd G' A o) := fun b u e => by
  by_cases h : b = A
  · subst h
    rw [upd_same] at e ⊢
    exact e
  · rw [upd_ne h] at e ⊢
    exact X b u e
theorem putCs_ct {K : PySem.W.Frag} {H G : Hp} : ∀ {bs : List Addr} {xs : List (Addr × CtD)}, Paired (fun y (x : Addr × CtD) => PutC K H G x.2.card y) bs xs → PutCs K H G (cardsC (xs.map (·.2))) bs := fun {bs xs} h => by
  induction h with
  | nil => exact fun F k => by show CardsAt K F [] []; unfold CardsAt; rfl
  | cons h1 _ ih => exact fun F k => CardsAt.cons (h1 F k) (ih F k)
theorem CtsN.zip {N : Addr → Prop} {H : Hp} {as : List Addr} {cs : List CtD} {i : Nat} {x : Addr × CtD} (h : CtsN N H cs as) (e : (as.zip cs)[i]? = some x) : cs[i]? = some x.2 ∧ CtN N H x.2 x.1 := by
  rw [List.getElem?_zip_eq_some] at e
  obtain ⟨c, hc, hT⟩ := h.get e.1
  rw [e.2] at hc
  cases hc
  exact ⟨e.2, hT⟩
theorem ct_snd {N : Addr → Prop} {H : Hp} {as : List Addr} {cs : List CtD} (h : CtsN N H cs as) : (as.zip cs).map (fun x => V.ref x.1) = as.map V.ref ∧ (as.zip cs).map (·.2) = cs := by
  have l := h.len
  constructor
  · rw [show (fun (x : Addr × CtD) => V.ref x.1) = V.ref ∘ Prod.fst from rfl, ← List.map_map, List.map_fst_zip (by omega)]
  · exact List.map_snd_zip (by omega)
def sp__law_made (K : PySem.W.Frag) (d : Nat) : Sp := fun vs H Q _ => ∃ (N : Addr → Prop) (t : Addr) (c : CtD), vs = [.ref t] ∧ CtN N H c t ∧ c.tok ∧ c.card.wt ≤ d ∧ c.card.wt ≤ 60 ∧ ∀ a H', Ex H H' → H a = none → PutC K H H' c.card a → Q (.ref a) H'
theorem fb__law_made {P : Program} {w : World} {K : PySem.W.Frag} {mg : Str → Option Value} {base : Heap} (T : Env K mg) {d L : Nat} (hL : 101 ≤ L) (r__law_made : Fc P w K mg base L (He.ga K "_law_made") [] (sp__law_made K d)) : ∃ fd, FunD K "_law_made" "_law_made" (defArgs s__law_made) (defBody s__law_made) (defScope s__law_made) [] [] (He.ga K "_law_made") fd ∧ Fb P w K mg base (L + 1) (He.ga K "_law_made") fd ["_law_tree"] (sp__law_made K (d + 1)) := by
  obtain ⟨fd, F⟩ := T.f__law_made
  refine ⟨fd, F, fb_of F sc__law_made (fun vs H Q E h => ?_) (fun cdv A outer s H vs Q E hr h => ?_)⟩
  · obtain ⟨N, t, c, rfl, _⟩ := h
    rfl
  · obtain ⟨N, t, c, rfl, hT, hk, hw, hw6, q⟩ := h
    refine ⟨_, (pss_cons (ps_set (i := 1) sc__law_made.nd rfl (Or.inl rfl) (pe_ix ix_tup (pv 0) pe_int (fun _ _ => rfl)))
      (pss_cons (ps_if (pt_cmpR op_in_seq (pv 1) (pe_tup (pa_cons pe_str (pa_cons pe_str pa_nil))) (by rfl))
      (pss_one (ps_ret (c_call (ok__law_made_leaf T) (hr.mono (by omega)) T.g__law_made_leaf T.k__law_made_leaf takes0 (pa_cons (pv 0) pa_nil))))
      pss_nil)
      (pss_cons (ps_if (pt_cmpR op_eq (pv 1) pe_str (nomark _))
      (pss_one (ps_ret (c_make T.mk_As (ok_As_init T) (hr.mono (by omega)) T.g_As takes0 (pa_cons (pe_ix ix_tup (pv 0) pe_int (fun _ _ => rfl)) pa_nil))))
      pss_nil)
      (pss_cons (ps_setLc (i := 2) (own := [("_law_one", 4)]) (by rfl) sc__law_made.nd rfl rfl (sw_true rfl rfl rfl (by decide +kernel)) (pi_list (c_call (ok__law_inner T) (hr.mono (by omega)) T.g__law_inner T.k__law_inner takes0 (pa_cons (pv 0) pa_nil))) (blkOk_by (own := [("_law_one", 4)]) (N := ["_law_tree", "_law_word", "_law_inner_here", "_law_made_here", "_law_one"]) (sc := defScope s__law_made) (by decide +kernel)) (fun _ _ _ _ _ => (pg_name (i := 4) sc__law_made.nd rfl (Or.inl rfl))) (fun _ _ _ _ _ => pts_nil) (fun _ _ _ _ _ => (c_call r__law_made (hr.mono (by omega)) T.g__law_made T.k__law_made takes0 (pa_cons (pv 4) pa_nil))))
      (pss_cons (ps_if (pt_cmpR op_eq (pv 1) pe_str (nomark _))
      (pss_cons (ps_set (i := 3) sc__law_made.nd rfl (Or.inl rfl) (c_make T.mk_Join (ok_Join_init T) (hr.mono (by omega)) T.g_Join takes0 (pa_cons (pv 2) pa_nil)))
      (pss_cons (ps_expr (pe_bm0 PySem.F.plainAttrs_list PySem.F.slot_list_clear PySem.F.type_list_clear mt_clear (pv 2)))
      (pss_one (ps_ret (pv 3)))))
      pss_nil)
      (pss_cons (ps_if (pt_cmpR op_eq (pv 1) pe_str (nomark _))
      (pss_one (ps_ret (c_make T.mk_Less (ok_Less_init T) (hr.mono (by omega)) T.g_Less takes0 (pa_cons (pe_ix ix_list (pv 2) pe_int (fun _ _ => rfl)) (pa_cons (pe_ix ix_list (pv 2) pe_int (fun _ _ => rfl)) pa_nil)))))
      pss_nil)
      (pss_cons (ps_if (pt_cmpR op_eq (pv 1) pe_str (nomark _))
      (pss_one (ps_ret (c_make T.mk_Swap (ok_Swap_init T) (hr.mono (by omega)) T.g_Swap takes0 (pa_cons (pe_ix ix_list (pv 2) pe_int (fun _ _ => rfl)) (pa_cons (c_call (ok__law_made_days T) (hr.mono (by omega)) T.g__law_made_days T.k__law_made_days takes0 (pa_cons (pe_ix ix_tup (pv 0) pe_int (fun _ _ => rfl)) pa_nil)) (pa_cons (pe_ix ix_list (pv 2) pe_int (fun _ _ => rfl)) pa_nil))))))
      pss_nil)
      (pss_cons (ps_if (pt_cmpR op_eq (pv 1) pe_str (nomark _))
      (pss_one (ps_ret (c_make T.mk_Later (ok_Later_init T) (hr.mono (by omega)) T.g_Later takes0 (pa_cons (pe_ix ix_list (pv 2) pe_int (fun _ _ => rfl)) (pa_cons (pe_ix ix_tup (pv 0) pe_int (fun _ _ => rfl)) pa_nil)))))
      pss_nil)
      (pss_one (ps_ret (c_make T.mk_Noted (ok_Noted_init T) (hr.mono (by omega)) T.g_Noted takes0 (pa_cons (pe_ix ix_list (pv 2) pe_int (fun _ _ => rfl)) (pa_cons (pe_ix ix_tup (pv 0) pe_int (fun _ _ => rfl)) pa_nil))))))))))))), ?_⟩
    cases c with
    | once ps ws =>
      have hT0 := hT
      unfold CtN at hT
      obtain ⟨l, as, n, h1, n1, h2, h3, n2, h4⟩ := hT
      refine ⟨_, rfl, _, _, _, _, rfl, rfl, (sq_tup h1), rfl, _, rfl, (by decide), ?_⟩
      intro a1 na1
      have Xa1 := ex_new (o := HO.tup [V.str (Str.ofString "once"), V.str (Str.ofString "every")]) na1
      have ha1 : upd H a1 (HO.tup [V.str (Str.ofString "once"), V.str (Str.ofString "every")]) a1 = some (HO.tup [V.str (Str.ofString "once"), V.str (Str.ofString "every")]) := upd_same
      generalize upd H a1 (HO.tup [V.str (Str.ofString "once"), V.str (Str.ofString "every")]) = Ga1 at Xa1 ha1 ⊢
      refine ⟨_, _, rfl, (.inr (sq_tup ha1)), rfl, rfl, _, rfl, _, rfl, _, _, _, rfl, (hT0.mono Xa1), hk, rfl, ?_⟩
      intro a G X na hP
      exact q a G (Xa1.trans X) (ex_fresh Xa1 na) (hP.base1 Xa1)
    | every ps ws D =>
      have hT0 := hT
      unfold CtN at hT
      obtain ⟨l, as, n, x, g, m, h1, n1, h2, h3, n2, h4, h5, n3, n4⟩ := hT
      refine ⟨_, rfl, _, _, _, _, rfl, rfl, (sq_tup h1), rfl, _, rfl, (by decide), ?_⟩
      intro a1 na1
      have Xa1 := ex_new (o := HO.tup [V.str (Str.ofString "once"), V.str (Str.ofString "every")]) na1
      have ha1 : upd H a1 (HO.tup [V.str (Str.ofString "once"), V.str (Str.ofString "every")]) a1 = some (HO.tup [V.str (Str.ofString "once"), V.str (Str.ofString "every")]) := upd_same
      generalize upd H a1 (HO.tup [V.str (Str.ofString "once"), V.str (Str.ofString "every")]) = Ga1 at Xa1 ha1 ⊢
      refine ⟨_, _, rfl, (.inr (sq_tup ha1)), rfl, rfl, _, rfl, _, rfl, _, _, _, rfl, (hT0.mono Xa1), hk, rfl, ?_⟩
      intro a G X na hP
      exact q a G (Xa1.trans X) (ex_fresh Xa1 na) (hP.base1 Xa1)
    | as_ z =>
      have hT0 := hT
      unfold CtN at hT
      refine ⟨_, rfl, _, _, _, _, rfl, rfl, (sq_tup hT), rfl, _, rfl, (by decide), ?_⟩
      intro a1 na1
      have Xa1 := ex_new (o := HO.tup [V.str (Str.ofString "once"), V.str (Str.ofString "every")]) na1
      have ha1 : upd H a1 (HO.tup [V.str (Str.ofString "once"), V.str (Str.ofString "every")]) a1 = some (HO.tup [V.str (Str.ofString "once"), V.str (Str.ofString "every")]) := upd_same
      generalize upd H a1 (HO.tup [V.str (Str.ofString "once"), V.str (Str.ofString "every")]) = Ga1 at Xa1 ha1 ⊢
      refine ⟨_, _, rfl, (.inr (sq_tup ha1)), rfl, rfl, _, rfl, _, rfl, rfl, _, rfl, _, rfl, _, _, _, _, rfl, rfl, (sq_tup (Xa1 _ _ hT)), rfl, ?_⟩
      try dsimp only [tNil]
      intro x dx nx nd ne
      unfold CtD.tok at hk
      refine as_new nx nd ne hk fun hd G2 X2 nh hh h' hA => ⟨rfl, q x G2 (Xa1.trans X2) (ex_fresh Xa1 nx) ?_⟩
      intro F k
      show CardAt K F (.as_ z) x
      unfold CardAt
      exact ⟨dx, hd, k.1 _ _ nofun h', k.2 _ _ (ex_fresh Xa1 nh) hh⟩
    | join cs =>
      have hT0 := hT
      unfold CtN at hT
      obtain ⟨l, as, h1, n1, h2, h3⟩ := hT
      refine ⟨_, rfl, _, _, _, _, rfl, rfl, (sq_tup h1), rfl, _, rfl, (by decide), ?_⟩
      intro a1 na1
      have Xa1 := ex_new (o := HO.tup [V.str (Str.ofString "once"), V.str (Str.ofString "every")]) na1
      have ha1 : upd H a1 (HO.tup [V.str (Str.ofString "once"), V.str (Str.ofString "every")]) a1 = some (HO.tup [V.str (Str.ofString "once"), V.str (Str.ofString "every")]) := upd_same
      generalize upd H a1 (HO.tup [V.str (Str.ofString "once"), V.str (Str.ofString "every")]) = Ga1 at Xa1 ha1 ⊢
      refine ⟨_, _, rfl, (.inr (sq_tup ha1)), rfl, rfl, _, rfl, _, rfl, rfl, _, rfl, _, rfl, _, _, _, rfl, (hT0.mono Xa1), ?_⟩
      have linn : (CtD.inn (.join cs)).length ≤ 60 := by
        have h9 := (CtD.card (.join cs)).wt_eq
        rw [CtD.inn_card] at h9
        have h8 := wtL_len (cardsC (CtD.inn (.join cs)))
        rw [cardsC_map, List.length_map] at h8
        rw [cardsC_map] at h9
        omega
      intro p as2 G1 X1 hp hC
      have X01 : Ex H G1 := Xa1.trans X1
      have ll := hC.len
      refine ⟨p, rfl, ⟨_, sq_lst hp⟩, fun A nA => lc_mk (as2.zip (CtD.inn (.join cs))) (fun x => V.ref x.1) (fun G y x => ∀ ys, PutC K H (upd G A (.lst ys)) x.2.card y) nA L2.walk_list (fun G e => by rw [(ct_snd hC).1]; exact sq_lst (e _ _ hp)) (by rw [List.length_zip]; omega) (fun G l y x ys hy h zs => by rw [upd_updC]; exact h zs) (fun G G' y x X h ys => (h ys).mono (.refl _) (ex_upd2 X)) (fun i x G acc Nx hx XG hD ls k => ?_) fun bs G2 X2 hp2 hA => ?_⟩
      · obtain ⟨m2, hT2⟩ := hC.zip hx
        have m2 := List.mem_of_getElem? m2
        have w2 := CtD.inn_lt m2
        exact ⟨rfl, _, rfl, N, x.1, x.2, rfl, hT2.mono XG, CtD.inn_tok hk m2, by omega, by omega, fun y H5 X5 ny hy => ⟨acc, X5 _ _ hD, ls, k y H5 X5 (putC_item hy (X01.trans XG) hD (X5 _ _ hD) (ex_fresh X01 nA))⟩⟩
      have hPs : PutCs K H G2 (cardsC (CtD.inn (.join cs))) bs := by
        have h9 := putCs_ct (H := H) (G := G2) (bs := bs) (paired_imp (fun y x hh => by have h8 := hh (bs.map V.ref); rw [upd_selfC hA] at h8; exact h8) hp2)
        rw [(ct_snd hC).2] at h9
        exact h9
      have X02 := X01.trans X2
      refine ⟨_, rfl, rfl, _, rfl, _, rfl, ?_⟩
      try dsimp only [tNil]
      intro x dx nx nd ne
      have ew : (CtD.card (.join cs)).wt = 1 + wtL (cardsC cs) := by rw [CtD.card, CardD.wt]
      have nn : cardsC cs ≠ [] := by
        unfold CtD.tok at hk
        cases cs with
        | nil => exact absurd rfl hk.2
        | cons c0 cr =>
          unfold cardsC
          exact nofun
      refine join_new nx nd ne (.inl hA) hPs.at nn (by show wtL (cardsC cs) < 60; omega) fun hd G3 X3 nh hh h' hJ => ⟨rfl, ?_⟩
      have hA3 := X3 _ _ hA
      refine ⟨_, rfl, (.inl ⟨rfl, ⟨_, (sq_lst hA3)⟩⟩), _, _, rfl, rfl, hA3, _, rfl, ?_⟩
      try dsimp only [tNil]
      have xA : x ≠ A := fun w => by rw [w, hA3] at h'; cases h'
      have hdA : hd ≠ A := fun w => by rw [w, hA] at nh; cases nh
      have hP3 : PutCs K H (upd G3 A (.lst [])) (cardsC cs) bs := by
        have h9 := putCs_ct (H := H) (G := upd G3 A (.lst [])) (bs := bs) (paired_imp (fun y x hh => (hh []).mono (.refl _) (ex_upd2 X3)) hp2)
        rw [(ct_snd hC).2] at h9
        exact h9
      refine q x _ (ex_mut (X02.trans X3) (ex_fresh X01 nA)) (ex_fresh X02 nx) ?_
      exact put_join (ex_fresh X02 nh) (by rw [upd_ne xA]; exact h') (by rw [upd_ne hdA]; exact hh) hP3
    | less c e =>
      have hT0 := hT
      unfold CtN at hT
      obtain ⟨a, b, h1, h2, h3⟩ := hT
      refine ⟨_, rfl, _, _, _, _, rfl, rfl, (sq_tup h1), rfl, _, rfl, (by decide), ?_⟩
      intro a1 na1
      have Xa1 := ex_new (o := HO.tup [V.str (Str.ofString "once"), V.str (Str.ofString "every")]) na1
      have ha1 : upd H a1 (HO.tup [V.str (Str.ofString "once"), V.str (Str.ofString "every")]) a1 = some (HO.tup [V.str (Str.ofString "once"), V.str (Str.ofString "every")]) := upd_same
      generalize upd H a1 (HO.tup [V.str (Str.ofString "once"), V.str (Str.ofString "every")]) = Ga1 at Xa1 ha1 ⊢
      refine ⟨_, _, rfl, (.inr (sq_tup ha1)), rfl, rfl, _, rfl, _, rfl, rfl, _, rfl, _, rfl, _, _, _, rfl, (hT0.mono Xa1), ?_⟩
      have linn : (CtD.inn (.less c e)).length ≤ 60 := by
        have h9 := (CtD.card (.less c e)).wt_eq
        rw [CtD.inn_card] at h9
        have h8 := wtL_len (cardsC (CtD.inn (.less c e)))
        rw [cardsC_map, List.length_map] at h8
        rw [cardsC_map] at h9
        omega
      intro p as2 G1 X1 hp hC
      have X01 : Ex H G1 := Xa1.trans X1
      have ll := hC.len
      refine ⟨p, rfl, ⟨_, sq_lst hp⟩, fun A nA => lc_mk (as2.zip (CtD.inn (.less c e))) (fun x => V.ref x.1) (fun G y x => ∀ ys, PutC K H (upd G A (.lst ys)) x.2.card y) nA L2.walk_list (fun G e => by rw [(ct_snd hC).1]; exact sq_lst (e _ _ hp)) (by rw [List.length_zip]; omega) (fun G l y x ys hy h zs => by rw [upd_updC]; exact h zs) (fun G G' y x X h ys => (h ys).mono (.refl _) (ex_upd2 X)) (fun i x G acc Nx hx XG hD ls k => ?_) fun bs G2 X2 hp2 hA => ?_⟩
      · obtain ⟨m2, hT2⟩ := hC.zip hx
        have m2 := List.mem_of_getElem? m2
        have w2 := CtD.inn_lt m2
        exact ⟨rfl, _, rfl, N, x.1, x.2, rfl, hT2.mono XG, CtD.inn_tok hk m2, by omega, by omega, fun y H5 X5 ny hy => ⟨acc, X5 _ _ hD, ls, k y H5 X5 (putC_item hy (X01.trans XG) hD (X5 _ _ hD) (ex_fresh X01 nA))⟩⟩
      have hPs : PutCs K H G2 (cardsC (CtD.inn (.less c e))) bs := by
        have h9 := putCs_ct (H := H) (G := G2) (bs := bs) (paired_imp (fun y x hh => by have h8 := hh (bs.map V.ref); rw [upd_selfC hA] at h8; exact h8) hp2)
        rw [(ct_snd hC).2] at h9
        exact h9
      have X02 := X01.trans X2
      have e2 : cardsC (CtD.inn (.less c e)) = [c.card, e.card] := by simp [CtD.inn, cardsC]
      rw [e2] at hPs
      obtain ⟨b1, b2, rfl, hb1, hb2⟩ := hPs.get2
      have h12 := X02 _ _ h1
      refine ⟨_, rfl, rfl, _, rfl, _, rfl, rfl, _, rfl, _, rfl, _, _, _, _, rfl, rfl, (sq_lst hA), rfl, _, rfl, _, _, _, _, rfl, rfl, (sq_lst hA), rfl, ?_⟩
      try dsimp only [tNil]
      have ew : (CtD.card (.less c e)).wt = 1 + (c.card.wt + e.card.wt) := by rw [CtD.card, CardD.wt]
      intro x dx nx nd ne
      exact less_new nx nd ne hb1.at hb2.at (by omega) fun hd G3 X3 nh hh h' hA => ⟨rfl, q x G3 (X02.trans X3) (ex_fresh X02 nx) (put_less (ex_fresh X02 nh) h' hh (hb1.mono (.refl _) X3) (hb2.mono (.refl _) X3))⟩
    | swap c D e =>
      have hT0 := hT
      unfold CtN at hT
      obtain ⟨a, x, g, m, b, h1, h2, h3, n1, n2, h4⟩ := hT
      refine ⟨_, rfl, _, _, _, _, rfl, rfl, (sq_tup h1), rfl, _, rfl, (by decide), ?_⟩
      intro a1 na1
      have Xa1 := ex_new (o := HO.tup [V.str (Str.ofString "once"), V.str (Str.ofString "every")]) na1
      have ha1 : upd H a1 (HO.tup [V.str (Str.ofString "once"), V.str (Str.ofString "every")]) a1 = some (HO.tup [V.str (Str.ofString "once"), V.str (Str.ofString "every")]) := upd_same
      generalize upd H a1 (HO.tup [V.str (Str.ofString "once"), V.str (Str.ofString "every")]) = Ga1 at Xa1 ha1 ⊢
      refine ⟨_, _, rfl, (.inr (sq_tup ha1)), rfl, rfl, _, rfl, _, rfl, rfl, _, rfl, _, rfl, _, _, _, rfl, (hT0.mono Xa1), ?_⟩
      have linn : (CtD.inn (.swap c D e)).length ≤ 60 := by
        have h9 := (CtD.card (.swap c D e)).wt_eq
        rw [CtD.inn_card] at h9
        have h8 := wtL_len (cardsC (CtD.inn (.swap c D e)))
        rw [cardsC_map, List.length_map] at h8
        rw [cardsC_map] at h9
        omega
      intro p as2 G1 X1 hp hC
      have X01 : Ex H G1 := Xa1.trans X1
      have ll := hC.len
      refine ⟨p, rfl, ⟨_, sq_lst hp⟩, fun A nA => lc_mk (as2.zip (CtD.inn (.swap c D e))) (fun x => V.ref x.1) (fun G y x => ∀ ys, PutC K H (upd G A (.lst ys)) x.2.card y) nA L2.walk_list (fun G e => by rw [(ct_snd hC).1]; exact sq_lst (e _ _ hp)) (by rw [List.length_zip]; omega) (fun G l y x ys hy h zs => by rw [upd_updC]; exact h zs) (fun G G' y x X h ys => (h ys).mono (.refl _) (ex_upd2 X)) (fun i x G acc Nx hx XG hD ls k => ?_) fun bs G2 X2 hp2 hA => ?_⟩
      · obtain ⟨m2, hT2⟩ := hC.zip hx
        have m2 := List.mem_of_getElem? m2
        have w2 := CtD.inn_lt m2
        exact ⟨rfl, _, rfl, N, x.1, x.2, rfl, hT2.mono XG, CtD.inn_tok hk m2, by omega, by omega, fun y H5 X5 ny hy => ⟨acc, X5 _ _ hD, ls, k y H5 X5 (putC_item hy (X01.trans XG) hD (X5 _ _ hD) (ex_fresh X01 nA))⟩⟩
      have hPs : PutCs K H G2 (cardsC (CtD.inn (.swap c D e))) bs := by
        have h9 := putCs_ct (H := H) (G := G2) (bs := bs) (paired_imp (fun y x hh => by have h8 := hh (bs.map V.ref); rw [upd_selfC hA] at h8; exact h8) hp2)
        rw [(ct_snd hC).2] at h9
        exact h9
      have X02 := X01.trans X2
      have e2 : cardsC (CtD.inn (.swap c D e)) = [c.card, e.card] := by simp [CtD.inn, cardsC]
      rw [e2] at hPs
      obtain ⟨b1, b2, rfl, hb1, hb2⟩ := hPs.get2
      have h12 := X02 _ _ h1
      have h32 := h3.mono X02
      refine ⟨_, rfl, rfl, _, rfl, _, rfl, rfl, _, rfl, _, rfl, rfl, _, rfl, _, rfl, _, _, _, _, rfl, rfl, (sq_lst hA), rfl, _, rfl, _, _, _, _, rfl, rfl, (sq_tup h12), rfl, _, _, _, _, rfl, h32, ?_⟩
      have ew : (CtD.card (.swap c D e)).wt = 1 + (c.card.wt + e.card.wt) := by rw [CtD.card, CardD.wt]
      unfold CtD.tok at hk
      refine ⟨hk.2.1.1, fun y G3 X3 ny hdy => ?_⟩
      have hA3 := X3 _ _ hA
      refine ⟨_, rfl, _, _, _, _, rfl, rfl, (sq_lst hA3), rfl, ?_⟩
      try dsimp only [tNil]
      intro x dx nx nd ne
      have X03 := X02.trans X3
      exact swap_new nx nd ne (hb1.mono (.refl _) X3).at hdy hk.2.1.1 (hb2.mono (.refl _) X3).at (by omega) fun hd G4 X4 nh hh h' hA => ⟨rfl, q x G4 (X03.trans X4) (ex_fresh X03 nx) (put_swap (ex_fresh X03 nh) h' hh (hdy.mono X4) (hb1.mono (.refl _) (X3.trans X4)) (hb2.mono (.refl _) (X3.trans X4)))⟩
    | later c m =>
      have hT0 := hT
      unfold CtN at hT
      obtain ⟨a, h1, h2⟩ := hT
      refine ⟨_, rfl, _, _, _, _, rfl, rfl, (sq_tup h1), rfl, _, rfl, (by decide), ?_⟩
      intro a1 na1
      have Xa1 := ex_new (o := HO.tup [V.str (Str.ofString "once"), V.str (Str.ofString "every")]) na1
      have ha1 : upd H a1 (HO.tup [V.str (Str.ofString "once"), V.str (Str.ofString "every")]) a1 = some (HO.tup [V.str (Str.ofString "once"), V.str (Str.ofString "every")]) := upd_same
      generalize upd H a1 (HO.tup [V.str (Str.ofString "once"), V.str (Str.ofString "every")]) = Ga1 at Xa1 ha1 ⊢
      refine ⟨_, _, rfl, (.inr (sq_tup ha1)), rfl, rfl, _, rfl, _, rfl, rfl, _, rfl, _, rfl, _, _, _, rfl, (hT0.mono Xa1), ?_⟩
      have linn : (CtD.inn (.later c m)).length ≤ 60 := by
        have h9 := (CtD.card (.later c m)).wt_eq
        rw [CtD.inn_card] at h9
        have h8 := wtL_len (cardsC (CtD.inn (.later c m)))
        rw [cardsC_map, List.length_map] at h8
        rw [cardsC_map] at h9
        omega
      intro p as2 G1 X1 hp hC
      have X01 : Ex H G1 := Xa1.trans X1
      have ll := hC.len
      refine ⟨p, rfl, ⟨_, sq_lst hp⟩, fun A nA => lc_mk (as2.zip (CtD.inn (.later c m))) (fun x => V.ref x.1) (fun G y x => ∀ ys, PutC K H (upd G A (.lst ys)) x.2.card y) nA L2.walk_list (fun G e => by rw [(ct_snd hC).1]; exact sq_lst (e _ _ hp)) (by rw [List.length_zip]; omega) (fun G l y x ys hy h zs => by rw [upd_updC]; exact h zs) (fun G G' y x X h ys => (h ys).mono (.refl _) (ex_upd2 X)) (fun i x G acc Nx hx XG hD ls k => ?_) fun bs G2 X2 hp2 hA => ?_⟩
      · obtain ⟨m2, hT2⟩ := hC.zip hx
        have m2 := List.mem_of_getElem? m2
        have w2 := CtD.inn_lt m2
        exact ⟨rfl, _, rfl, N, x.1, x.2, rfl, hT2.mono XG, CtD.inn_tok hk m2, by omega, by omega, fun y H5 X5 ny hy => ⟨acc, X5 _ _ hD, ls, k y H5 X5 (putC_item hy (X01.trans XG) hD (X5 _ _ hD) (ex_fresh X01 nA))⟩⟩
      have hPs : PutCs K H G2 (cardsC (CtD.inn (.later c m))) bs := by
        have h9 := putCs_ct (H := H) (G := G2) (bs := bs) (paired_imp (fun y x hh => by have h8 := hh (bs.map V.ref); rw [upd_selfC hA] at h8; exact h8) hp2)
        rw [(ct_snd hC).2] at h9
        exact h9
      have X02 := X01.trans X2
      have e2 : cardsC (CtD.inn (.later c m)) = [c.card] := by simp [CtD.inn, cardsC]
      rw [e2] at hPs
      obtain ⟨b1, rfl, hb1⟩ := hPs.get1
      have h12 := X02 _ _ h1
      refine ⟨_, rfl, rfl, _, rfl, _, rfl, rfl, _, rfl, _, rfl, rfl, _, rfl, _, rfl, rfl, _, rfl, _, rfl, _, _, _, _, rfl, rfl, (sq_lst hA), rfl, _, rfl, _, _, _, _, rfl, rfl, (sq_tup h12), rfl, ?_⟩
      try dsimp only [tNil]
      have ew : (CtD.card (.later c m)).wt = 1 + c.card.wt := by rw [CtD.card, CardD.wt]
      unfold CtD.tok at hk
      intro x dx nx nd ne
      refine ⟨rfl, ?_⟩
      show sp_Later_init K [.ref x, .ref b1, .int (m : Nat)] _ _ _
      exact later_new nx nd ne hb1.at hk.2 (by omega) fun hd G3 X3 nh hh h' hA => ⟨rfl, q x G3 (X02.trans X3) (ex_fresh X02 nx) (put_later (ex_fresh X02 nh) h' hh (hb1.mono (.refl _) X3))⟩
    | note c z =>
      have hT0 := hT
      unfold CtN at hT
      obtain ⟨a, h1, h2⟩ := hT
      refine ⟨_, rfl, _, _, _, _, rfl, rfl, (sq_tup h1), rfl, _, rfl, (by decide), ?_⟩
      intro a1 na1
      have Xa1 := ex_new (o := HO.tup [V.str (Str.ofString "once"), V.str (Str.ofString "every")]) na1
      have ha1 : upd H a1 (HO.tup [V.str (Str.ofString "once"), V.str (Str.ofString "every")]) a1 = some (HO.tup [V.str (Str.ofString "once"), V.str (Str.ofString "every")]) := upd_same
      generalize upd H a1 (HO.tup [V.str (Str.ofString "once"), V.str (Str.ofString "every")]) = Ga1 at Xa1 ha1 ⊢
      refine ⟨_, _, rfl, (.inr (sq_tup ha1)), rfl, rfl, _, rfl, _, rfl, rfl, _, rfl, _, rfl, _, _, _, rfl, (hT0.mono Xa1), ?_⟩
      have linn : (CtD.inn (.note c z)).length ≤ 60 := by
        have h9 := (CtD.card (.note c z)).wt_eq
        rw [CtD.inn_card] at h9
        have h8 := wtL_len (cardsC (CtD.inn (.note c z)))
        rw [cardsC_map, List.length_map] at h8
        rw [cardsC_map] at h9
        omega
      intro p as2 G1 X1 hp hC
      have X01 : Ex H G1 := Xa1.trans X1
      have ll := hC.len
      refine ⟨p, rfl, ⟨_, sq_lst hp⟩, fun A nA => lc_mk (as2.zip (CtD.inn (.note c z))) (fun x => V.ref x.1) (fun G y x => ∀ ys, PutC K H (upd G A (.lst ys)) x.2.card y) nA L2.walk_list (fun G e => by rw [(ct_snd hC).1]; exact sq_lst (e _ _ hp)) (by rw [List.length_zip]; omega) (fun G l y x ys hy h zs => by rw [upd_updC]; exact h zs) (fun G G' y x X h ys => (h ys).mono (.refl _) (ex_upd2 X)) (fun i x G acc Nx hx XG hD ls k => ?_) fun bs G2 X2 hp2 hA => ?_⟩
      · obtain ⟨m2, hT2⟩ := hC.zip hx
        have m2 := List.mem_of_getElem? m2
        have w2 := CtD.inn_lt m2
        exact ⟨rfl, _, rfl, N, x.1, x.2, rfl, hT2.mono XG, CtD.inn_tok hk m2, by omega, by omega, fun y H5 X5 ny hy => ⟨acc, X5 _ _ hD, ls, k y H5 X5 (putC_item hy (X01.trans XG) hD (X5 _ _ hD) (ex_fresh X01 nA))⟩⟩
      have hPs : PutCs K H G2 (cardsC (CtD.inn (.note c z))) bs := by
        have h9 := putCs_ct (H := H) (G := G2) (bs := bs) (paired_imp (fun y x hh => by have h8 := hh (bs.map V.ref); rw [upd_selfC hA] at h8; exact h8) hp2)
        rw [(ct_snd hC).2] at h9
        exact h9
      have X02 := X01.trans X2
      have e2 : cardsC (CtD.inn (.note c z)) = [c.card] := by simp [CtD.inn, cardsC]
      rw [e2] at hPs
      obtain ⟨b1, rfl, hb1⟩ := hPs.get1
      have h12 := X02 _ _ h1
      refine ⟨_, rfl, rfl, _, rfl, _, rfl, rfl, _, rfl, _, rfl, rfl, _, rfl, _, rfl, rfl, _, rfl, _, rfl, _, _, _, _, rfl, rfl, (sq_lst hA), rfl, _, rfl, _, _, _, _, rfl, rfl, (sq_tup h12), rfl, ?_⟩
      try dsimp only [tNil]
      have ew : (CtD.card (.note c z)).wt = 1 + c.card.wt := by rw [CtD.card, CardD.wt]
      unfold CtD.tok at hk
      intro x dx nx nd ne
      exact noted_new nx nd ne hb1.at hk.2 (by omega) fun hd G3 X3 nh hh h' hA => ⟨rfl, q x G3 (X02.trans X3) (ex_fresh X02 nx) (put_noted (ex_fresh X02 nh) h' hh (hb1.mono (.refl _) X3))⟩
theorem ok__law_made {P : Program} {w : World} {K : PySem.W.Frag} {mg : Str → Option Value} {base : Heap} (T : Env K mg) {d L : Nat} (hL : 101 ≤ L) (r__law_made : Fc P w K mg base L (He.ga K "_law_made") [] (sp__law_made K d)) : Fc P w K mg base (L + 1) (He.ga K "_law_made") [] (sp__law_made K (d + 1)) := by
  obtain ⟨fd, D, F⟩ := fb__law_made T hL r__law_made
  exact F.all (D.bindsN fun _ _ _ _ _ _ us hl => match us, hl with | [_], _ => rfl)
theorem all_cmade {P : Program} {w : World} {K : PySem.W.Frag} {mg : Str → Option Value} {base : Heap} (T : Env K mg) : ∀ d, Fc P w K mg base (101 + d) (He.ga K "_law_made") [] (sp__law_made K d)
  | 0 => fc_no fun vs H Q E h => by
    obtain ⟨N, t, c, _, _, _, h, _⟩ := h
    have := c.card.wt_pos
    omega
  | d + 1 => ok__law_made T (Nat.le_add_right 101 _) (all_cmade T d)
end
section
def sp__law_refused (K : PySem.W.Frag) : Sp := fun vs H Q _ => ∃ (x : V), vs = [x] ∧ CdIs K H x false ∧ ∀ H', Ex H H' → Q (.bl true) H'
theorem fb__law_refused {P : Program} {w : World} {K : PySem.W.Frag} {mg : Str → Option Value} {base : Heap} (T : Env K mg) : ∃ fd, FunD K "_law_refused" "_law_refused" (defArgs s__law_refused) (defBody s__law_refused) (defScope s__law_refused) [] [] (He.ga K "_law_refused") fd ∧ Fb P w K mg base 170 (He.ga K "_law_refused") fd ["_law_thing"] (sp__law_refused K) := by
  obtain ⟨fd, F⟩ := T.f__law_refused
  refine ⟨fd, F, fb_of F sc__law_refused (fun vs H Q E h => ?_) (fun cdv A outer s H vs Q E hr h => ?_)⟩
  · obtain ⟨x, rfl, _⟩ := h
    rfl
  · obtain ⟨x, rfl, hx, q⟩ := h
    refine ⟨_, (pss_cons (ps_set (i := 1) sc__law_refused.nd rfl (Or.inl rfl) (pe_lst pa_nil))
      (pss_cons (ps_try_fst (i := 2) rfl rfl sc__law_refused.nd rfl rfl ⟨by rfl, by decide, .inl T.g_GoingError⟩ (fun W pn xe tk po => (pss_one (ps_expr (c_call (ok_show_card T) (hr.mono (by decide)) T.g_show_card T.k_show_card tk (pa_cons (pv 0) pa_nil))))) (fun a oe cls d pn hz hf => (pss_cons (ps_set (i := 1) sc__law_refused.nd rfl (Or.inl rfl) (pe_lst (pa_cons (pe_callB (by exact call_isA hz hf) (by rfl) T.n_isinstance (by decide +kernel) (pa_cons (pv 2) (pa_cons (pe_glob (v := .ref _) (by rfl) T.g_NoCard rfl) pa_nil))) (pa_cons (pe_callB (by exact call_isA hz hf) (by rfl) T.n_isinstance (by decide +kernel) (pa_cons (pv 2) (pa_cons (pe_bltn (v := .ty "ValueError") (by rfl) T.n_ValueError (by decide +kernel) rfl) pa_nil))) (pa_cons (pe_callB (by exact call_isAT hz hf) (by rfl) T.n_isinstance (by decide +kernel) (pa_cons (pv 2) (pa_cons (pe_tup (pa_cons (pe_bltn (v := .ty "LookupError") (by rfl) T.n_LookupError (by decide +kernel) rfl) (pa_cons (pe_bltn (v := .ty "RuntimeError") (by rfl) T.n_RuntimeError (by decide +kernel) rfl) pa_nil))) pa_nil))) pa_nil)))))
      (pss_one (ps_expr (pe_bmK K PySem.F.plainAttrs_list PySem.F.slot_list_append PySem.F.type_list_append mt_append (pv 1) (pa_cons (pe_callB (by exact call_isAT hz hf) (by rfl) T.n_isinstance (by decide +kernel) (pa_cons (pv 2) (pa_cons (pe_tup (pa_cons (pe_glob (v := .ref _) (by rfl) T.g_NoDays rfl) (pa_cons (pe_glob (v := .ref _) (by rfl) T.g_NoName rfl) (pa_cons (pe_glob (v := .ref _) (by rfl) T.g_NoPiece rfl) (pa_cons (pe_glob (v := .ref _) (by rfl) T.g_NoRow rfl) (pa_cons (pe_glob (v := .ref _) (by rfl) T.g_NoText rfl) (pa_cons (pe_glob (v := .ref _) (by rfl) T.g_NoTime rfl) pa_nil))))))) pa_nil))) pa_nil)))))))
      (pss_one (ps_ret (pe_cmpR (op_eqD hr.rm.units) (pv 1) (pe_lst (pa_cons pe_bl (pa_cons pe_bl (pa_cons pe_bl (pa_cons pe_bl pa_nil))))) (nomark _)))))), ?_⟩
    refine ⟨(by decide), ?_⟩
    intro a1 na1
    have Xa1 := ex_new (o := HO.lst []) na1
    have ha1 : upd H a1 (HO.lst []) a1 = some (HO.lst []) := upd_same
    generalize upd H a1 (HO.lst []) = Ga1 at Xa1 ha1 ⊢
    refine ⟨_, rfl, _, _, rfl, (hx.mono Xa1), ?_⟩
    refine ⟨fun _ => ?_, nofun⟩
    refine ⟨T.exm_NoCard_GoingError, fun y9 ny => ?_⟩
    refine ⟨_, rfl, ?_⟩
    refine ⟨_, _, _, true, rfl, rfl, T.xc_NoCard, rfl, .own _, T.kit_NoCard_NoCard, ?_⟩
    refine ⟨_, rfl, _, _, _, true, rfl, rfl, T.xc_NoCard, rfl, .ty _, T.kit_NoCard_ValueError, ?_⟩
    refine ⟨_, rfl, by show 2 ≤ sizeLine; decide, fun tp ntp => ?_⟩
    have Xt := ex_new (o := HO.tup [V.ty "LookupError", V.ty "RuntimeError"]) ntp
    refine ⟨_, tp, _, _, false, rfl, rfl, T.xc_NoCard, rfl, upd_same, .cons (.ty _) (.cons (.ty _) .nil), kitAny_cons T.kit_NoCard_LookupError (fun _ => kitAny_cons T.kit_NoCard_RuntimeError (fun _ => kitAny_nil) (by decide)) (by decide), ?_⟩
    refine ⟨by show 3 ≤ sizeLine; decide, fun l nl => ?_⟩
    have hl := upd_same (H := upd Ga1 tp (HO.tup [V.ty "LookupError", V.ty "RuntimeError"])) (a := l) (o := HO.lst [V.bl true, V.bl true, V.bl false])
    have Xl := ex_new (o := HO.lst [V.bl true, V.bl true, V.bl false]) nl
    have X1 := (Xa1.trans Xt).trans Xl
    have nl0 : H l = none := ex_fresh (Xa1.trans Xt) nl
    generalize upd (upd Ga1 tp (HO.tup [V.ty "LookupError", V.ty "RuntimeError"])) l (HO.lst [V.bl true, V.bl true, V.bl false]) = G1 at hl Xl X1 ⊢
    refine ⟨_, rfl, (.inl ⟨rfl, ⟨_, (sq_lst hl)⟩⟩), _, rfl, by show 6 ≤ sizeLine; decide, fun tq ntq => ?_⟩
    have Xq := ex_new (o := HO.tup [V.ref (He.ga K "NoDays"), V.ref (He.ga K "NoName"), V.ref (He.ga K "NoPiece"), V.ref (He.ga K "NoRow"), V.ref (He.ga K "NoText"), V.ref (He.ga K "NoTime")]) ntq
    refine ⟨_, tq, _, _, false, rfl, rfl, T.xc_NoCard, rfl, upd_same, .cons (.own _) (.cons (.own _) (.cons (.own _) (.cons (.own _) (.cons (.own _) (.cons (.own _) .nil))))), kitAny_cons T.kit_NoCard_NoDays (fun _ => kitAny_cons T.kit_NoCard_NoName (fun _ => kitAny_cons T.kit_NoCard_NoPiece (fun _ => kitAny_cons T.kit_NoCard_NoRow (fun _ => kitAny_cons T.kit_NoCard_NoText (fun _ => kitAny_cons T.kit_NoCard_NoTime (fun _ => kitAny_nil) (by decide)) (by decide)) (by decide)) (by decide)) (by decide)) (by decide), ?_⟩
    refine ⟨l, _, _, rfl, rfl, Xq _ _ hl, by show 3 < sizeLine; exact sz_lt (by decide), ?_⟩
    refine ⟨_, rfl, by show 4 ≤ sizeLine; decide, fun l2 nl2 => ?_⟩
    have X2 := ex_mut (X1.trans Xq) (o := HO.lst ([V.bl true, V.bl true, V.bl false] ++ [V.bl false])) nl0
    have Xm := ex_new (o := HO.lst [V.bl true, V.bl true, V.bl false, V.bl false]) nl2
    refine ⟨_, _, .lst (sq_lst (Xm _ _ upd_same)) (.cons (.bl _) (.cons (.bl _) (.cons (.bl _) (.cons (.bl _) .nil)))), .lst (sq_lst upd_same) (.cons (.bl _) (.cons (.bl _) (.cons (.bl _) (.cons (.bl _) .nil)))), rfl, rfl, ?_⟩
    exact q _ (X2.trans Xm)
theorem ok__law_refused {P : Program} {w : World} {K : PySem.W.Frag} {mg : Str → Option Value} {base : Heap} (T : Env K mg) : Fc P w K mg base 170 (He.ga K "_law_refused") [] (sp__law_refused K ) := by
  obtain ⟨fd, D, F⟩ := fb__law_refused T
  exact F.all (D.bindsN fun _ _ _ _ _ _ us hl => match us, hl with | [_], _ => rfl)
end
section
theorem fit58 {D : DaysD} (h : D.fit 58) : D.fit 150 := ⟨Nat.lt_trans h.1 (by decide +kernel), fun t e => Nat.lt_trans (h.2.1 t e) (by decide +kernel), fun t e => Nat.lt_trans (h.2.2.1 t e) (by decide +kernel), fun t e => Nat.lt_trans (h.2.2.2 t e) (by decide +kernel)⟩
theorem NtsOk.srt {ws : List Str} (h : NtsOk ws) : Nms (srtS ws) ∧ (srtS ws).Nodup ∧ (srtS ws).length ≤ 3 := by
  have p := srtS_perm ws
  exact ⟨fun z hz => h.1 z (p.mem_iff.mp hz), p.nodup_iff.mpr h.2.1, by rw [p.length_eq]; exact h.2.2⟩
mutual
theorem CtD.tok_ok : ∀ c : CtD, c.tok → c.card.wt ≤ 60 → c.card.ok ∧ rokA c.card
  | .once ps ws, h, _ => by
    unfold CtD.tok at h
    obtain ⟨⟨s1, s2, s3, s4, s5, s6⟩, n⟩ := h
    obtain ⟨a, b, d⟩ := n.srt
    have lm : (momsL ps).length ≤ 1440 := of_decide_eq_true (Bool.and_eq_true_iff.mp s5).2
    rw [CtD.card]
    unfold CardD.ok rokA
    exact ⟨⟨a, b, by omega, lm⟩, ⟨by omega, s3, by omega⟩⟩
  | .every ps ws D, h, _ => by
    unfold CtD.tok at h
    obtain ⟨⟨s1, s2, s3, s4, s5, s6⟩, n, ⟨d1, d2⟩, _⟩ := h
    obtain ⟨a, b, d⟩ := n.srt
    have lm : (momsL ps).length ≤ 1440 := of_decide_eq_true (Bool.and_eq_true_iff.mp s5).2
    rw [CtD.card]
    unfold CardD.ok rokA
    exact ⟨⟨d1, a, b, by omega, lm⟩, ⟨fit58 d2, by omega, s3, by omega⟩⟩
  | .as_ z, h, _ => by
    unfold CtD.tok at h
    rw [CtD.card]
    unfold CardD.ok rokA
    exact ⟨h, trivial⟩
  | .join cs, h, w => by
    unfold CtD.tok at h
    have e : (CtD.join cs).card.wt = 1 + wtL (cardsC cs) := by rw [CtD.card, CardD.wt]
    have k := toks_ok cs h.1 (by omega)
    have n : cardsC cs ≠ [] := by
      cases cs with
      | nil => exact absurd rfl h.2
      | cons c r =>
        unfold cardsC
        exact nofun
    rw [CtD.card]
    unfold CardD.ok rokA
    exact ⟨⟨k.1, by omega, n⟩, k.2⟩
  | .less c d, h, w => by
    unfold CtD.tok at h
    have e : (CtD.less c d).card.wt = 1 + (c.card.wt + d.card.wt) := by rw [CtD.card, CardD.wt]
    have k := CtD.tok_ok c h.1 (by omega)
    have k2 := CtD.tok_ok d h.2 (by omega)
    rw [CtD.card]
    unfold CardD.ok rokA
    exact ⟨⟨k.1, k2.1⟩, k.2, k2.2⟩
  | .swap c D d, h, w => by
    unfold CtD.tok at h
    have e : (CtD.swap c D d).card.wt = 1 + (c.card.wt + d.card.wt) := by rw [CtD.card, CardD.wt]
    have k := CtD.tok_ok c h.1 (by omega)
    have k2 := CtD.tok_ok d h.2.2 (by omega)
    rw [CtD.card]
    unfold CardD.ok rokA
    exact ⟨⟨k.1, h.2.1.1, k2.1⟩, fit58 h.2.1.2, k.2, k2.2⟩
  | .later c m, h, w => by
    unfold CtD.tok at h
    have e : (CtD.later c m).card.wt = 1 + c.card.wt := by rw [CtD.card, CardD.wt]
    have k := CtD.tok_ok c h.1 (by omega)
    rw [CtD.card]
    unfold CardD.ok rokA
    exact ⟨⟨k.1, h.2⟩, k.2⟩
  | .note c z, h, w => by
    unfold CtD.tok at h
    have e : (CtD.note c z).card.wt = 1 + c.card.wt := by rw [CtD.card, CardD.wt]
    have k := CtD.tok_ok c h.1 (by omega)
    rw [CtD.card]
    unfold CardD.ok rokA
    exact ⟨⟨k.1, h.2, by omega⟩, k.2⟩
theorem toks_ok : ∀ cs : List CtD, toks cs → wtL (cardsC cs) ≤ 60 → okCs (cardsC cs) ∧ rokL (cardsC cs)
  | [], _, _ => by
    unfold cardsC okCs rokL
    exact ⟨trivial, trivial⟩
  | c :: cs, h, w => by
    unfold toks at h
    have e : wtL (cardsC (c :: cs)) = c.card.wt + wtL (cardsC cs) := by rw [cardsC, wtL]
    have k := CtD.tok_ok c h.1 (by omega)
    have k2 := toks_ok cs h.2 (by omega)
    unfold cardsC okCs rokL
    exact ⟨⟨k.1, k2.1⟩, k.2, k2.2⟩
end
end
section
theorem rowsDL_mem {r : Nat × List Nat} {n : Nat} : ∀ {cs : List CtD}, r ∈ rowsDL n cs → ∃ c ∈ cs, r ∈ rowsD n c
  | c :: cs, h => by
    rw [rowsDL] at h
    rcases List.mem_append.mp h with h | h
    · exact ⟨c, List.mem_cons_self, h⟩
    · obtain ⟨d, h1, h2⟩ := rowsDL_mem h
      exact ⟨d, List.mem_cons_of_mem _ h1, h2⟩
  | [], h => by
    rw [rowsDL] at h
    cases h
theorem rowsD_bd : ∀ (k : Nat) (c : CtD) (n : Nat), c.card.wt ≤ k → c.tok → c.card.wt ≤ 60 → n + c.card.wt ≤ 100 → ∀ r ∈ rowsD n c, r.1 ≤ 100 ∧ r.2.length ≤ 71000
  | 0, c, n, h, _, _, _, r, _ => by
    have := c.card.wt_pos
    omega
  | k + 1, c, n, h, hk, hw, hn, r, hr => by
    rw [rowsD_eq] at hr
    rcases List.mem_cons.mp hr with rfl | hr
    · obtain ⟨o1, o2⟩ := c.tok_ok hk hw
      have := rowTx_len o1 (rokA_rok o2)
      have := c.card.wt_pos
      exact ⟨by show n ≤ 100; omega, by show (rowTx c.card).length ≤ _; omega⟩
    · obtain ⟨d, h1, h2⟩ := rowsDL_mem hr
      have w := CtD.inn_lt h1
      exact rowsD_bd k d (n + 1) (by omega) (CtD.inn_tok hk h1) (by omega) (by omega) r h2
def sp__law_right (K : PySem.W.Frag) : Sp := fun vs H Q _ => ∃ (N : Addr → Prop) (t a : Addr) (c : CtD), vs = [.ref a, .ref t] ∧ CtN N H c t ∧ c.tok ∧ CardAt K H c.card a ∧ c.card.wt ≤ 60 ∧ ∀ H', Ex H H' → Q (.bl true) H'
theorem fb__law_right {P : Program} {w : World} {K : PySem.W.Frag} {mg : Str → Option Value} {base : Heap} (T : Env K mg) : ∃ fd, FunD K "_law_right" "_law_right" (defArgs s__law_right) (defBody s__law_right) (defScope s__law_right) [] [] (He.ga K "_law_right") fd ∧ Fb P w K mg base 172 (He.ga K "_law_right") fd ["_law_made_here", "_law_tree"] (sp__law_right K) := by
  obtain ⟨fd, F⟩ := T.f__law_right
  refine ⟨fd, F, fb_of F sc__law_right (fun vs H Q E h => ?_) (fun cdv A outer s H vs Q E hr h => ?_)⟩
  · obtain ⟨N, t, a, c, rfl, _⟩ := h
    rfl
  · obtain ⟨N, t, a, c, rfl, hT, hk, hA, hw, q⟩ := h
    refine ⟨_, (pss_cons (ps_set (i := 2) sc__law_right.nd rfl (Or.inl rfl) (c_call (ok__law_written T) (hr.mono (by decide)) T.g__law_written T.k__law_written takes0 (pa_cons (c_call (all_lrows T 60) (hr.mono (by decide)) T.g__law_rows T.k__law_rows takes0 (pa_cons (pv 1) (pa_cons pe_int pa_nil))) pa_nil)))
      (pss_cons (ps_if (PW.pt (pw_or (pt_cmpR op_ne (c_call (ok_show_card T) (hr.mono (by decide)) T.g_show_card T.k_show_card takes0 (pa_cons (pv 0) pa_nil)) (pv 2) (nomark _)) (pw_or1 (pt_cmpR op_ne (c_callK0 (ok_show_card_0_card T) (hr.mono (by decide)) T.g_show_card T.k_show_card takes0 (pk_cons (pv 0) pk_nil)) (pv 2) (nomark _)))))
      (pss_one (ps_ret pe_bl))
      pss_nil)
      (pss_cons (ps_set (i := 3) sc__law_right.nd rfl (Or.inl rfl) (c_methV0 (k := 3) (pv 0) (hr.mono (by decide)) takes0))
      (pss_cons (ps_if (pt_cmpR op_ne (pe_callB call_len (by rfl) T.n_len (by decide +kernel) (pa_cons (pv 3) pa_nil)) (pe_callB call_len (by rfl) T.n_len (by decide +kernel) (pa_cons (c_call (ok__law_inner T) (hr.mono (by decide)) T.g__law_inner T.k__law_inner takes0 (pa_cons (pv 1) pa_nil)) pa_nil)) (nomark _))
      (pss_one (ps_ret pe_bl))
      pss_nil)
      (pss_cons (ps_for (passes_of rfl) rfl (RZ.pi_zipA (by rfl) T.n_zip (pa_cons (pv 3) (pa_cons (c_call (ok__law_inner T) (hr.mono (by decide)) T.g__law_inner T.k__law_inner takes0 (pa_cons (pv 1) pa_nil)) pa_nil))) (pg_tup (by rfl) (pgs_cons (pg_name (i := 4) sc__law_right.nd rfl (Or.inl rfl)) (pgs_cons (pg_name (i := 5) sc__law_right.nd rfl (Or.inl rfl)) pgs_nil)))
      (pss_one (ps_if (pt_cmpR op_ne (c_call (ok_show_card T) (hr.mono (by decide)) T.g_show_card T.k_show_card takes0 (pa_cons (pv 4) pa_nil)) (c_call (ok__law_written T) (hr.mono (by decide)) T.g__law_written T.k__law_written takes0 (pa_cons (c_call (all_lrows T 60) (hr.mono (by decide)) T.g__law_rows T.k__law_rows takes0 (pa_cons (pv 5) (pa_cons pe_int pa_nil))) pa_nil)) (nomark _))
      (pss_one (ps_ret pe_bl))
      pss_nil)))
      (pss_cons (ps_expr (pe_bm0 PySem.F.plainAttrs_list PySem.F.slot_list_clear PySem.F.type_list_clear mt_clear (pv 3)))
      (pss_one (ps_ret (pe_cmpR op_eq (c_call (ok_show_card T) (hr.mono (by decide)) T.g_show_card T.k_show_card takes0 (pa_cons (pv 0) pa_nil)) (pv 2) (nomark _)))))))))), ?_⟩
    obtain ⟨okc, rok⟩ := c.tok_ok hk hw
    refine ⟨_, rfl, _, _, _, _, rfl, hT, hk, hw, hw, fun r1 as1 H1 X1 nr1 hr1 hR1 => ?_⟩
    have bd1 := rowsD_bd c.card.wt c 0 (Nat.le_refl _) hk hw (by omega)
    refine ⟨r1, as1, rowsD 0 c, rfl, hr1, hR1, by rw [rowsD_len]; omega, bd1, fun H2 X2 => ?_⟩
    rw [written_same]
    have X02 := X1.trans X2
    refine ⟨_, rfl, _, true, rfl, CdX.is T (r := some c.card) ⟨a, rfl, hA.mono X02⟩, nofun, fun _ => ⟨a, c.card, rfl, hA.mono X02, okc, rok, hw, fun H3 X3 => ?_⟩⟩
    refine ⟨_, rfl, rfl, _, rfl, ?_⟩
    try dsimp only [tNil]
    rw [decide_eq_true rfl]
    refine iteF ?_
    have X03 := X02.trans X3
    refine ⟨_, rfl, rfl, rfl, _, true, rfl, CdX.is T (r := some c.card) ⟨a, rfl, hA.mono X03⟩, nofun, fun _ => ⟨a, c.card, rfl, hA.mono X03, okc, rok, hw, fun H4 X4 => ?_⟩⟩
    refine ⟨_, rfl, rfl, _, rfl, ?_⟩
    try dsimp only [tNil]
    rw [decide_eq_true rfl]
    refine iteF ?_
    have X04 := X03.trans X4
    obtain ⟨dx, hd, as, fs, ha, hh, hin, cc, lk, _, _, lsz⟩ := card_gen T (hA.mono X04)
    refine ⟨_, rfl, a, _, dx, _, _, rfl, ha, cc.cls, cc.inner, lk, _, (ok_Card_inner T).mono (by decide), a, _, dx, hd, _, _, _, rfl, ha, cc.cls, cc.held, hh, fun p np => ?_⟩
    have Xp := ex_new (o := HO.lst (as.map V.ref)) np
    have hp : upd H4 p (.lst (as.map V.ref)) p = some (.lst (as.map V.ref)) := upd_same
    have np0 : H p = none := ex_fresh X04 np
    generalize upd H4 p (.lst (as.map V.ref)) = H5 at Xp hp ⊢
    have X05 := X04.trans Xp
    have l1 := hin.len
    rw [c.inn_card, cardsC_map, List.length_map] at l1
    refine ⟨_, rfl, _, _, rfl, (.inl ⟨_, ⟨(sq_lst hp), rfl⟩⟩), _, rfl, _, _, _, rfl, (hT.mono X05), ?_⟩
    intro q1 as1' H6 X6 hq1 hC1
    have l2 := hC1.len
    refine ⟨_, _, rfl, .inl ⟨_, sq_lst hq1, rfl⟩, rfl, _, rfl, ?_⟩
    try dsimp only [tNil]
    rw [List.length_map, List.length_map, l1, l2]
    refine iteNS rfl ?_
    have hp6 := X6 _ _ hp
    have X06 := X05.trans X6
    refine ⟨_, rfl, _, rfl, _, _, _, rfl, hT.mono X06, ?_⟩
    intro q2 as2 H7 X7 hq2 hC2
    have l3 := hC2.len
    have hp7 := X7 _ _ hp6
    have X07 := X06.trans X7
    have hin7 := ((hin.mono Xp).mono X6).mono X7
    refine ⟨p, q2, _, _, rfl, .inl ⟨sq_lst hp7, sq_lst hq2, L2.for_it (L2.walk_zip rfl) (fun i σ G => Ex H7 G ∧ ∃ v : Nat → Option V, σ = [some (.ref a), some (.ref t), some (.str (SX.S (cardTx c.card))), some (.ref p), v 4, v 5]) ⟨.refl _, fun _ => none, rfl⟩ (fun i σ G _ z => ⟨sq_lst (z.1 _ _ hp7), sq_lst (z.1 _ _ hq2)⟩) ?_ ?_⟩⟩
    · rintro i x σ G G1 hi ⟨XG, v, rfl⟩ ⟨u, x1, x2, rfl, nu, rfl, g1, g2⟩
      dsimp only at g1 g2
      rw [List.getElem?_map] at g1 g2
      obtain ⟨b1, hb1, rfl⟩ := Option.map_eq_some_iff.mp g1
      obtain ⟨b2, hb2, rfl⟩ := Option.map_eq_some_iff.mp g2
      obtain ⟨e1, he1, hT1⟩ := hC2.get hb2
      obtain ⟨e2, he2, hA1⟩ := hin7.get hb1
      rw [c.inn_card, cardsC_map, List.getElem?_map, he1] at he2
      cases he2
      have m1 := List.mem_of_getElem? he1
      have w1 := CtD.inn_lt m1
      have k1 := CtD.inn_tok hk m1
      obtain ⟨ok1, rok1⟩ := e1.tok_ok k1 (by omega)
      have X8 := ex_new (o := HO.tup [V.ref b1, V.ref b2]) nu
      refine ⟨_, _, rfl, (sq_tup upd_same), rfl, _, _, rfl, _, _, rfl, ?_⟩
      generalize upd G u (HO.tup [V.ref b1, V.ref b2]) = G2 at X8 ⊢
      have X78 := XG.trans X8
      refine ⟨rfl, _, rfl, _, true, rfl, CdX.is T (r := some e1.card) ⟨b1, rfl, hA1.mono X78⟩, nofun, fun _ => ⟨b1, e1.card, rfl, hA1.mono X78, ok1, rok1, by omega, fun G3 X3' => ?_⟩⟩
      refine ⟨_, rfl, _, _, _, _, rfl, (hT1.mono X78).mono X3', k1, by omega, by omega, fun r2 as3 G4 X4' nr2 hr2 hR2 => ?_⟩
      refine ⟨r2, as3, rowsD 0 e1, rfl, hr2, hR2, by rw [rowsD_len]; omega, rowsD_bd e1.card.wt e1 0 (Nat.le_refl _) k1 (by omega) (by omega), fun G5 X5' => ?_⟩
      rw [written_same]
      refine ⟨rfl, _, rfl, ?_⟩
      try dsimp only [tNil]
      rw [decide_eq_true rfl]
      refine iteF ?_
      exact ⟨((X78.trans X3').trans X4').trans X5', fun n => [none, none, none, none, some (.ref b1), some (.ref b2)].getD n none, rfl⟩
    · rintro σ G ⟨XG, v, rfl⟩
      have hpG := XG _ _ hp7
      refine ⟨_, rfl, (.inl ⟨rfl, ⟨_, (sq_lst hpG)⟩⟩), _, _, rfl, rfl, hpG, ?_⟩
      have X0G : Ex H (upd G p (.lst [])) := ex_mut (X07.trans XG) np0
      generalize upd G p (.lst []) = G1 at X0G ⊢
      refine ⟨_, rfl, _, true, rfl, CdX.is T (r := some c.card) ⟨a, rfl, hA.mono X0G⟩, nofun, fun _ => ⟨a, c.card, rfl, hA.mono X0G, okc, rok, hw, fun G2 X2' => ?_⟩⟩
      refine ⟨_, rfl, rfl, ?_⟩
      try dsimp only [tNil]
      rw [decide_eq_true rfl]
      exact q _ (X0G.trans X2')
theorem ok__law_right {P : Program} {w : World} {K : PySem.W.Frag} {mg : Str → Option Value} {base : Heap} (T : Env K mg) : Fc P w K mg base 172 (He.ga K "_law_right") [] (sp__law_right K ) := by
  obtain ⟨fd, D, F⟩ := fb__law_right T
  exact F.all (D.bindsN fun _ _ _ _ _ _ us hl => match us, hl with | [_, _], _ => rfl)
end
section
def sp__law_twice_right (K : PySem.W.Frag) : Sp := fun vs H Q _ => ∃ (N : Addr → Prop) (t a : Addr) (c : CtD), vs = [.ref a, .ref t] ∧ CtN N H c t ∧ c.tok ∧ CardAt K H c.card a ∧ c.card.wt ≤ 40 ∧ ∀ H', Ex H H' → Q (.bl true) H'
theorem fb__law_twice_right {P : Program} {w : World} {K : PySem.W.Frag} {mg : Str → Option Value} {base : Heap} (T : Env K mg) : ∃ fd, FunD K "_law_twice_right" "_law_twice_right" (defArgs s__law_twice_right) (defBody s__law_twice_right) (defScope s__law_twice_right) [] [] (He.ga K "_law_twice_right") fd ∧ Fb P w K mg base 172 (He.ga K "_law_twice_right") fd ["_law_made_here", "_law_tree"] (sp__law_twice_right K) := by
  obtain ⟨fd, F⟩ := T.f__law_twice_right
  refine ⟨fd, F, fb_of F sc__law_twice_right (fun vs H Q E h => ?_) (fun cdv A outer s H vs Q E hr h => ?_)⟩
  · obtain ⟨N, t, a, c, rfl, _⟩ := h
    rfl
  · obtain ⟨N, t, a, c, rfl, hT, hk, hA, hw, q⟩ := h
    refine ⟨_, (pss_cons (ps_set (i := 2) sc__law_twice_right.nd rfl (Or.inl rfl) (c_call (all_lrows T 60) (hr.mono (by decide)) T.g__law_rows T.k__law_rows takes0 (pa_cons (pv 1) (pa_cons pe_int pa_nil))))
      (pss_cons (ps_set (i := 3) sc__law_twice_right.nd rfl (Or.inl rfl) (c_call (all_lrows T 60) (hr.mono (by decide)) T.g__law_rows T.k__law_rows takes0 (pa_cons (pv 1) (pa_cons pe_int pa_nil))))
      (pss_cons (ps_set (i := 4) sc__law_twice_right.nd rfl (Or.inl rfl) (c_call (ok__law_written T) (hr.mono (by decide)) T.g__law_written T.k__law_written takes0 (pa_cons (pe_op op_cat (pe_op op_cat (pe_op op_cat (pe_op op_cat (pe_op op_cat (pe_lst (pa_cons (pe_tup (pa_cons pe_int (pa_cons pe_str pa_nil))) pa_nil)) (pv 2)) (pe_lst (pa_cons (pe_tup (pa_cons pe_int (pa_cons pe_str pa_nil))) pa_nil))) (pv 3)) (pv 3)) (pv 2)) pa_nil)))
      (pss_cons (ps_if (PW.pt (pw_or (pt_cmpR op_gt (pe_callB call_len (by rfl) T.n_len (by decide +kernel) (pa_cons (pv 4) pa_nil)) pe_int (nomark _)) (pw_or1 (pt_cmpR op_gt (pe_op op_mul pe_int (pe_callB call_len (by rfl) T.n_len (by decide +kernel) (pa_cons (pv 2) pa_nil))) pe_int (nomark _)))))
      (pss_one (ps_ret pe_bl))
      pss_nil)
      (pss_one (ps_ret (pe_cmpR op_eq (c_call (ok_show_card T) (hr.mono (by decide)) T.g_show_card T.k_show_card takes0 (pa_cons (c_make T.mk_Join (ok_Join_init T) (hr.mono (by decide)) T.g_Join takes0 (pa_cons (pe_lst (pa_cons (pv 0) (pa_cons (c_make T.mk_Less (ok_Less_init T) (hr.mono (by decide)) T.g_Less takes0 (pa_cons (pv 0) (pa_cons (pv 0) pa_nil))) (pa_cons (pv 0) pa_nil)))) pa_nil)) pa_nil)) (pv 4) (nomark _)))))))), ?_⟩
    refine ⟨_, rfl, _, _, _, _, rfl, hT, hk, (by omega), (by omega), fun r1 as1 H1 X1 nr1 hr1 hR1 => ?_⟩
    refine ⟨_, rfl, _, _, _, _, rfl, hT.mono X1, hk, by omega, by omega, fun r2 as2 H2 X2 nr2 hr2 hR2 => ?_⟩
    have hr12 := X2 _ _ hr1
    have l1 := paired_len hR1
    have l2 := paired_len hR2
    rw [rowsD_len] at l1 l2
    refine ⟨(by decide), ?_⟩
    intro a1 na1
    have Xa1 := ex_new (o := HO.tup [V.int 0, V.str (Str.ofString "join")]) na1
    have ha1 : upd H2 a1 (HO.tup [V.int 0, V.str (Str.ofString "join")]) a1 = some (HO.tup [V.int 0, V.str (Str.ofString "join")]) := upd_same
    generalize upd H2 a1 (HO.tup [V.int 0, V.str (Str.ofString "join")]) = Ga1 at Xa1 ha1 ⊢
    refine ⟨(by show 1 ≤ sizeLine; decide), ?_⟩
    intro a2 na2
    have Xa2 := ex_new (o := HO.lst [V.ref a1]) na2
    have ha2 : upd Ga1 a2 (HO.lst [V.ref a1]) a2 = some (HO.lst [V.ref a1]) := upd_same
    generalize upd Ga1 a2 (HO.lst [V.ref a1]) = Ga2 at Xa2 ha2 ⊢
    refine ⟨_, rfl, _, _, _, _, rfl, rfl, ha2, (Xa2 _ _ (Xa1 _ _ hr12)), ?_⟩
    have ll : ∀ {n : Nat}, n ≤ 1000 → n ≤ sizeLine := fun {n} h => by rw [sizeLine_eq]; omega
    refine ⟨ll (by rw [List.length_map, l1]; show 1 + _ ≤ _; omega), fun c1 nc1 => ?_⟩
    have Xc1 := ex_new (o := HO.lst ([V.ref a1] ++ as1.map V.ref)) nc1
    have hc1 : upd Ga2 c1 (HO.lst ([V.ref a1] ++ as1.map V.ref)) c1 = some (HO.lst ([V.ref a1] ++ as1.map V.ref)) := upd_same
    generalize upd Ga2 c1 (HO.lst ([V.ref a1] ++ as1.map V.ref)) = Gc1 at Xc1 hc1 ⊢
    refine ⟨(by decide), ?_⟩
    intro a3 na3
    have Xa3 := ex_new (o := HO.tup [V.int 1, V.str (Str.ofString "less")]) na3
    have ha3 : upd Gc1 a3 (HO.tup [V.int 1, V.str (Str.ofString "less")]) a3 = some (HO.tup [V.int 1, V.str (Str.ofString "less")]) := upd_same
    generalize upd Gc1 a3 (HO.tup [V.int 1, V.str (Str.ofString "less")]) = Ga3 at Xa3 ha3 ⊢
    refine ⟨(by show 1 ≤ sizeLine; decide), ?_⟩
    intro a4 na4
    have Xa4 := ex_new (o := HO.lst [V.ref a3]) na4
    have ha4 : upd Ga3 a4 (HO.lst [V.ref a3]) a4 = some (HO.lst [V.ref a3]) := upd_same
    generalize upd Ga3 a4 (HO.lst [V.ref a3]) = Ga4 at Xa4 ha4 ⊢
    have Y1 := ((((Xa1.trans Xa2).trans Xc1).trans Xa3).trans Xa4)
    refine ⟨_, _, _, _, rfl, rfl, Xa4 _ _ (Xa3 _ _ hc1), ha4, ?_⟩
    refine ⟨ll (by rw [List.length_append, List.length_map, l1]; show 1 + _ + 1 ≤ _; omega), fun c2 nc2 => ?_⟩
    have Xc2 := ex_new (o := HO.lst ([V.ref a1] ++ as1.map V.ref ++ [V.ref a3])) nc2
    have hc2 : upd Ga4 c2 (HO.lst ([V.ref a1] ++ as1.map V.ref ++ [V.ref a3])) c2 = some (HO.lst ([V.ref a1] ++ as1.map V.ref ++ [V.ref a3])) := upd_same
    generalize upd Ga4 c2 (HO.lst ([V.ref a1] ++ as1.map V.ref ++ [V.ref a3])) = Gc2 at Xc2 hc2 ⊢
    refine ⟨_, rfl, _, _, _, _, rfl, rfl, hc2, Xc2 _ _ (Y1 _ _ hr2), ?_⟩
    refine ⟨ll (by rw [List.length_append, List.length_append, List.length_map, List.length_map, l1, l2]; show 1 + _ + 1 + _ ≤ _; omega), fun c3 nc3 => ?_⟩
    have Xc3 := ex_new (o := HO.lst ([V.ref a1] ++ as1.map V.ref ++ [V.ref a3] ++ as2.map V.ref)) nc3
    have hc3 : upd Gc2 c3 (HO.lst ([V.ref a1] ++ as1.map V.ref ++ [V.ref a3] ++ as2.map V.ref)) c3 = some (HO.lst ([V.ref a1] ++ as1.map V.ref ++ [V.ref a3] ++ as2.map V.ref)) := upd_same
    generalize upd Gc2 c3 (HO.lst ([V.ref a1] ++ as1.map V.ref ++ [V.ref a3] ++ as2.map V.ref)) = Gc3 at Xc3 hc3 ⊢
    have Y2 := (Y1.trans Xc2).trans Xc3
    refine ⟨_, rfl, _, _, _, _, rfl, rfl, hc3, Y2 _ _ hr2, ?_⟩
    refine ⟨ll (by rw [List.length_append, List.length_append, List.length_append, List.length_map, List.length_map, l1, l2]; show 1 + _ + 1 + _ + _ ≤ _; omega), fun c4 nc4 => ?_⟩
    have Xc4 := ex_new (o := HO.lst ([V.ref a1] ++ as1.map V.ref ++ [V.ref a3] ++ as2.map V.ref ++ as2.map V.ref)) nc4
    have hc4 : upd Gc3 c4 (HO.lst ([V.ref a1] ++ as1.map V.ref ++ [V.ref a3] ++ as2.map V.ref ++ as2.map V.ref)) c4 = some (HO.lst ([V.ref a1] ++ as1.map V.ref ++ [V.ref a3] ++ as2.map V.ref ++ as2.map V.ref)) := upd_same
    generalize upd Gc3 c4 (HO.lst ([V.ref a1] ++ as1.map V.ref ++ [V.ref a3] ++ as2.map V.ref ++ as2.map V.ref)) = Gc4 at Xc4 hc4 ⊢
    have Y3 := Y2.trans Xc4
    refine ⟨_, rfl, _, _, _, _, rfl, rfl, hc4, Y3 _ _ hr12, ?_⟩
    refine ⟨ll (by rw [List.length_append, List.length_append, List.length_append, List.length_append, List.length_map, List.length_map, l1, l2]; show 1 + _ + 1 + _ + _ + _ ≤ _; omega), fun c5 nc5 => ?_⟩
    have Xc5 := ex_new (o := HO.lst ([V.ref a1] ++ as1.map V.ref ++ [V.ref a3] ++ as2.map V.ref ++ as2.map V.ref ++ as1.map V.ref)) nc5
    have hc5 : upd Gc4 c5 (HO.lst ([V.ref a1] ++ as1.map V.ref ++ [V.ref a3] ++ as2.map V.ref ++ as2.map V.ref ++ as1.map V.ref)) c5 = some (HO.lst (([a1] ++ as1 ++ [a3] ++ as2 ++ as2 ++ as1).map V.ref)) := by rw [upd_same]; simp
    generalize upd Gc4 c5 (HO.lst ([V.ref a1] ++ as1.map V.ref ++ [V.ref a3] ++ as2.map V.ref ++ as2.map V.ref ++ as1.map V.ref)) = Gc5 at Xc5 hc5 ⊢
    have Y4 := Y3.trans Xc5
    have Z1 : Ex Ga1 Gc5 := fun b o e => Xc5 _ _ (Xc4 _ _ (Xc3 _ _ (Xc2 _ _ (Xa4 _ _ (Xa3 _ _ (Xc1 _ _ (Xa2 _ _ e)))))))
    have Z3 : Ex Ga3 Gc5 := fun b o e => Xc5 _ _ (Xc4 _ _ (Xc3 _ _ (Xc2 _ _ (Xa4 _ _ e))))
    have R1 := hR1.mono (X2.trans Y4)
    have R2 := hR2.mono Y4
    have wJ : (CtD.join [c, .less c c, c]).card.wt = 2 + 4 * c.card.wt := by
      rw [CtD.card, CardD.wt, cardsC, cardsC, cardsC, cardsC, CtD.card, wtL, wtL, wtL, wtL, CardD.wt]
      omega
    have eR : rowsD 0 (CtD.join [c, .less c c, c]) = [((0 : Nat), rowTx (CtD.join [c, .less c c, c]).card)] ++ rowsD 1 c ++ [((1 : Nat), rowTx (CtD.less c c).card)] ++ rowsD 2 c ++ rowsD 2 c ++ rowsD 1 c := by
      rw [rowsD, rowsDL, rowsDL, rowsDL, rowsDL, rowsD]
      simp
    have RA : RwsAt Gc5 ([a1] ++ as1 ++ [a3] ++ as2 ++ as2 ++ as1) (rowsD 0 (CtD.join [c, .less c c, c])) := by
      rw [eR]
      exact paired_app (paired_app (paired_app (paired_app (paired_app (.cons (Z1 _ _ ha1) .nil) R1) (.cons (Z3 _ _ ha3) .nil)) R2) R2) R1
    have bd : ∀ r ∈ rowsD 0 (CtD.join [c, .less c c, c]), r.1 ≤ 100 ∧ r.2.length ≤ 71000 := by
      have h1 := rowsD_bd c.card.wt c 1 (Nat.le_refl _) hk (by omega) (by omega)
      have h2 := rowsD_bd c.card.wt c 2 (Nat.le_refl _) hk (by omega) (by omega)
      rw [eR]
      intro r hr
      simp only [List.mem_append, List.mem_singleton] at hr
      rcases hr with ((((rfl | h) | rfl) | h) | h) | h
      · exact ⟨Nat.zero_le _, by show 4 ≤ 71000; decide⟩
      · exact h1 r h
      · exact ⟨by show 1 ≤ 100; decide, by show 4 ≤ 71000; decide⟩
      · exact h2 r h
      · exact h2 r h
      · exact h1 r h
    refine ⟨c5, _, _, rfl, hc5, RA, by rw [rowsD_len, wJ]; omega, bd, fun H6 X6 => ?_⟩
    rw [written_same]
    have X26 := Y4.trans X6
    have X06 := (X1.trans X2).trans X26
    have lT : (cardTx (CtD.join [c, .less c c, c]).card).length ≤ sizeLine := by
      rw [← written_same]
      unfold wrows
      have h9 := sum_le (k := 71201) (ls := (rowsD 0 (CtD.join [c, .less c c, c])).map wrow) fun l hl => by
        obtain ⟨r, hr, rfl⟩ := List.mem_map.mp hl
        obtain ⟨b1, b2⟩ := bd r hr
        rw [wrow_len]
        omega
      rw [List.length_map, rowsD_len, wJ] at h9
      rw [List.length_flatten, sizeLine_eq]
      refine Nat.le_trans h9 ?_
      omega
    refine ⟨_, rfl, _, _, rfl, ⟨by rw [SX.S_len]; exact lT, rfl⟩, _, _, rfl, rfl, _, rfl, ?_⟩
    rw [SX.S_len]
    by_cases c39 : 3900 < (cardTx (CtD.join [c, .less c c, c]).card).length
    · rw [decide_eq_true (show (3900 : Int) < (((cardTx (CtD.join [c, .less c c, c]).card).length : Nat) : Int) by omega)]
      exact iteT (iteT (q _ X06))
    rw [decide_eq_false (show ¬ (3900 : Int) < (((cardTx (CtD.join [c, .less c c, c]).card).length : Nat) : Int) by omega)]
    refine iteF ?_
    refine ⟨_, rfl, _, _, rfl, (.inl ⟨_, ⟨(sq_lst (X26 _ _ hr12)), rfl⟩⟩), _, _, rfl, rfl, (.inl ⟨(by decide), (by decide)⟩), _, _, rfl, rfl, _, rfl, ?_⟩
    try dsimp only [tNil]
    rw [List.length_map, l1]
    by_cases c56 : 56 < 4 * c.card.wt
    · rw [decide_eq_true (show (56 : Int) < 4 * ((c.card.wt : Nat) : Int) by omega)]
      exact iteT (q _ X06)
    rw [decide_eq_false (show ¬ (56 : Int) < 4 * ((c.card.wt : Nat) : Int) by omega)]
    refine iteF ?_
    have hA6 := hA.mono X06
    refine ⟨_, rfl, _, rfl, _, rfl, fun x dx nx nd ne => ?_⟩
    refine less_new nx nd ne hA6 hA6 (by omega) fun hd G3 X3 nh hh h' hL => ⟨rfl, ?_⟩
    have hA7 := hA6.mono X3
    refine ⟨_, rfl, by show 3 ≤ sizeLine; decide, fun l nl => ?_⟩
    have Xl := ex_new (o := HO.lst [V.ref a, V.ref x, V.ref a]) nl
    have hl : upd G3 l (HO.lst [V.ref a, V.ref x, V.ref a]) l = some (HO.lst ([a, x, a].map V.ref)) := upd_same
    generalize upd G3 l (HO.lst [V.ref a, V.ref x, V.ref a]) = G4 at Xl hl ⊢
    have eJ : (CtD.join [c, .less c c, c]).card = .join [c.card, .less c.card c.card, c.card] := by simp [CtD.card, cardsC]
    have hAs : CardsAt K G4 [c.card, .less c.card c.card, c.card] [a, x, a] := .cons (hA7.mono Xl) (.cons (hL.mono Xl) (.one (hA7.mono Xl)))
    have wl : wtL [c.card, .less c.card c.card, c.card] < 60 := by
      rw [wtL, wtL, wtL, wtL, CardD.wt]
      omega
    intro y dy ny ndy nye
    refine join_new ny ndy nye (.inl hl) hAs nofun wl fun hd5 G5 X5 nh5 hh5 h5' hJ => ⟨rfl, ?_⟩
    rw [eJ]
    have tJ : (CtD.join [c, .less c c, c]).tok := by
      have tL : (CtD.less c c).tok := by
        unfold CtD.tok
        exact ⟨hk, hk⟩
      have tN : toks [c] := by
        unfold toks
        exact ⟨hk, by unfold toks; trivial⟩
      have tM : toks [.less c c, c] := by
        unfold toks
        exact ⟨tL, tN⟩
      have tO : toks [c, .less c c, c] := by
        unfold toks
        exact ⟨hk, tM⟩
      unfold CtD.tok
      exact ⟨tO, nofun⟩
    have oJ := (CtD.join [c, .less c c, c]).tok_ok tJ (by rw [wJ]; omega)
    rw [eJ] at oJ wJ
    refine ⟨_, true, rfl, CdX.is T (r := some _) ⟨y, rfl, hJ⟩, nofun, fun _ => ⟨y, _, rfl, hJ, oJ.1, oJ.2, by rw [wJ]; omega, fun G6 X6' => ?_⟩⟩
    refine ⟨_, rfl, rfl, ?_⟩
    rw [decide_eq_true rfl]
    exact q _ ((((X06.trans X3).trans Xl).trans X5).trans X6')
theorem ok__law_twice_right {P : Program} {w : World} {K : PySem.W.Frag} {mg : Str → Option Value} {base : Heap} (T : Env K mg) : Fc P w K mg base 172 (He.ga K "_law_twice_right") [] (sp__law_twice_right K ) := by
  obtain ⟨fd, D, F⟩ := fb__law_twice_right T
  exact F.all (D.bindsN fun _ _ _ _ _ _ us hl => match us, hl with | [_, _], _ => rfl)
end
section
def sp_law (K : PySem.W.Frag) : Sp := fun vs H Q _ => ∃ (a : Addr) (ns : List Int), vs = [.ref a] ∧ SqL K H a (ns.map V.int) ∧ ns.length ≤ 63 ∧ ∀ H', Q (.bl true) H'
theorem ok_law {P : Program} {w : World} {K : PySem.W.Frag} {mg : Str → Option Value} {base : Heap} (T : Env K mg) {fd : FuncData} (F : FunD K "law" "law" (defArgs s_law) (defBody s_law) (defScope s_law) [] [] (He.ga K "law") fd) : Fb P w K mg base 185 (He.ga K "law") fd ["_law_script"] (sp_law K) := by
  refine fb_of F sc_law (fun vs H Q E h => ?_) (fun cdv A outer s H vs Q E hr h => ?_)
  · obtain ⟨a, ns, rfl, _⟩ := h
    rfl
  · obtain ⟨a, ns, rfl, hS, hl, q⟩ := h
    refine ⟨_, (pss_cons (ps_for (passes_of rfl) rfl (pi_range1 (by rfl) T.n_range (pa_cons (pe_callB (call_max2 rfl) (by rfl) T.n_max (by decide +kernel) (pa_cons pe_int (pa_cons (pe_callB (call_min2 rfl) (by rfl) T.n_min (by decide +kernel) (pa_cons (pe_callB call_len (by rfl) T.n_len (by decide +kernel) (pa_cons (pv 0) pa_nil)) (pa_cons pe_int pa_nil))) pa_nil))) pa_nil)) (pg_name (i := 1) sc_law.nd rfl (Or.inl rfl))
      (pss_cons (ps_set (i := 2) sc_law.nd rfl (Or.inl rfl) (c_call (ok__law_pot T) (hr.mono (by decide)) T.g__law_pot T.k__law_pot takes0 (pa_cons (pv 0) (pa_cons (pv 1) pa_nil))))
      (pss_cons (ps_set (i := 3) sc_law.nd rfl (Or.inl rfl) (c_call (ok__law_draw T) (hr.mono (by decide)) T.g__law_draw T.k__law_draw takes0 (pa_cons (pv 2) (pa_cons pe_int pa_nil))))
      (pss_cons (ps_set (i := 4) sc_law.nd rfl (Or.inl rfl) (c_call (ok__law_whole_card T) (hr.mono (by decide)) T.g__law_whole_card T.k__law_whole_card takes0 (pa_cons (pv 2) pa_nil)))
      (pss_cons (ps_set (i := 5) sc_law.nd rfl (Or.inl rfl) (c_call (all_cmade T 60) (hr.mono (by decide)) T.g__law_made T.k__law_made takes0 (pa_cons (pv 4) pa_nil)))
      (pss_cons (ps_if (PW.pt (pw_or (pt_not (pt_val (c_call (ok__law_right T) (hr.mono (by decide)) T.g__law_right T.k__law_right takes0 (pa_cons (pv 5) (pa_cons (pv 4) pa_nil))))) (pw_or1 (pt_not (pt_val (c_call (ok__law_twice_right T) (hr.mono (by decide)) T.g__law_twice_right T.k__law_twice_right takes0 (pa_cons (pv 5) (pa_cons (pv 4) pa_nil))))))))
      (pss_one (ps_ret pe_bl))
      pss_nil)
      (pss_cons (ps_set (i := 6) sc_law.nd rfl (Or.inl rfl) (c_call (ok_show_card T) (hr.mono (by decide)) T.g_show_card T.k_show_card takes0 (pa_cons (pv 5) pa_nil)))
      (pss_cons (ps_set (i := 7) sc_law.nd rfl (Or.inl rfl) (pe_ix ix_list (pe_lst (pa_cons pe_non (pa_cons pe_int (pa_cons pe_bl (pa_cons pe_str (pa_cons (pv 6) (pa_cons (pe_lst (pa_cons (pv 5) pa_nil)) (pa_cons (pe_tup (pa_cons (pv 5) pa_nil)) (pa_cons pe_dnewK (pa_cons (pe_lst pa_nil) (pa_cons (c_make T.mk_Spread (ok_Spread_init T) (hr.mono (by decide)) T.g_Spread takes0 (pa_cons (pe_lst pa_nil) pa_nil)) (pa_cons (c_make T.mk_Ring (ok_Ring_init T) (hr.mono (by decide)) T.g_Ring takes0 (pa_cons pe_str pa_nil)) (pa_cons pe_str pa_nil))))))))))))) (pv 3) (fun _ _ => rfl)))
      (pss_one (ps_if (PW.pt (pw_or (pt_not (pt_val (c_call (ok__law_refused T) (hr.mono (by decide)) T.g__law_refused T.k__law_refused takes0 (pa_cons (pv 7) pa_nil)))) (pw_or1 (pt_cmpR op_ne (c_call (ok_show_card T) (hr.mono (by decide)) T.g_show_card T.k_show_card takes0 (pa_cons (pv 5) pa_nil)) (pv 6) (nomark _)))))
      (pss_one (ps_ret pe_bl))
      pss_nil))))))))))
      (pss_one (ps_ret pe_bl))), ?_⟩
    refine ⟨_, rfl, _, _, rfl, .inl ⟨_, hS, rfl⟩, _, _, rfl, _, _, rfl, _, rfl, (turns_lo 4 _ (by decide)), (turns_hi 4 _ (by decide)), for_range (fun i σ G => Ex H G ∧ ∃ v : Nat → Option V, σ = [some (.ref a), v 1, v 2, v 3, v 4, v 5, v 6, v 7]) ⟨.refl H, fun _ => none, rfl⟩ ?_ ?_⟩
    · rintro i σ H1 hi ⟨X1, v, rfl⟩
      have i1 : i < 1000 := turns_lt 4 _ (by decide) hi
      refine ⟨_, rfl, _, rfl, a, ns, _, rfl, ex_sql X1 hS, by omega, by omega, fun p H2 np P2 K2 => ?_⟩
      have X2 : Ex H H2 := fun b o e => by rw [K2 b (ne_of_none (X1 b o e) np)]; exact X1 b o e
      have np0 : H p = none := ex_fresh X1 np
      refine ⟨_, rfl, p, 12, rfl, P2, by decide, lt_100 (by decide), fun d H3 d12 Q3 => ?_⟩
      have d12 : d < 12 := d12
      refine ⟨_, rfl, p, rfl, Q3.1, fun t c H4 hk wc nt tp hT Q4 => ?_⟩
      have Q24 := Q3.trans Q4
      have X4 := PotOnN.ex X2 np0 Q24
      obtain ⟨okc, rok⟩ := c.tok_ok hk (by omega)
      refine ⟨_, rfl, _, t, c, rfl, hT, hk, by omega, by omega, fun m H5 X5 nm hP => ?_⟩
      have hA := hP.at
      have X05 := X4.trans X5
      refine ⟨_, rfl, _, rfl, _, t, m, c, rfl, hT.mono X5, hk, hA, by omega, fun H6 X6 => ⟨_, rfl, ?_⟩⟩
      refine iteF ?_
      refine ⟨_, rfl, _, rfl, _, t, m, c, rfl, (hT.mono X5).mono X6, hk, hA.mono X6, by omega, fun H7 X7 => ⟨_, rfl, ?_⟩⟩
      refine iteF ?_
      have X57 := X6.trans X7
      have hA7 := hA.mono X57
      refine ⟨_, rfl, _, true, rfl, CdX.is T (r := some c.card) ⟨m, rfl, hA7⟩, nofun, fun _ => ⟨m, c.card, rfl, hA7, okc, rok, by omega, fun H8 X8 => ?_⟩⟩
      have X08 := (X05.trans X57).trans X8
      refine ⟨_, rfl, _, rfl, (by show 1 ≤ sizeLine; decide), ?_⟩
      intro a1 na1
      have Xa1 := ex_new (o := HO.lst [V.ref m]) na1
      have ha1 : upd H8 a1 (HO.lst [V.ref m]) a1 = some (HO.lst [V.ref m]) := upd_same
      generalize upd H8 a1 (HO.lst [V.ref m]) = Ga1 at Xa1 ha1 ⊢
      refine ⟨_, rfl, (by show 1 ≤ sizeLine; decide), ?_⟩
      intro a2 na2
      have Xa2 := ex_new (o := HO.tup [V.ref m]) na2
      have ha2 : upd Ga1 a2 (HO.tup [V.ref m]) a2 = some (HO.tup [V.ref m]) := upd_same
      generalize upd Ga1 a2 (HO.tup [V.ref m]) = Ga2 at Xa2 ha2 ⊢
      intro a3 na3
      have Xa3 := ex_new (o := HO.dK []) na3
      have ha3 : upd Ga2 a3 (HO.dK []) a3 = some (HO.dK []) := upd_same
      generalize upd Ga2 a3 (HO.dK []) = Ga3 at Xa3 ha3 ⊢
      refine ⟨(by show 0 ≤ sizeLine; decide), ?_⟩
      intro a4 na4
      have Xa4 := ex_new (o := HO.lst []) na4
      have ha4 : upd Ga3 a4 (HO.lst []) a4 = some (HO.lst []) := upd_same
      generalize upd Ga3 a4 (HO.lst []) = Ga4 at Xa4 ha4 ⊢
      refine ⟨(by show 0 ≤ sizeLine; decide), ?_⟩
      intro a5 na5
      have Xa5 := ex_new (o := HO.lst []) na5
      have ha5 : upd Ga4 a5 (HO.lst []) a5 = some (HO.lst ([].map V.ref)) := upd_same
      generalize upd Ga4 a5 (HO.lst []) = Ga5 at Xa5 ha5 ⊢
      intro x6 dx6 nx6 nd6 ne6
      refine spread_new (as := []) (ts := []) nx6 nd6 ne6 (.inl ha5) (by unfold ShsAt; rfl) (by simp [nestL]) (by unfold okL_; trivial) rfl fun H6' X6' hS6 => ⟨rfl, ?_⟩
      intro x7 dx7 nx7 nd7 ne7
      refine ring_new (l := [49]) nx7 nd7 ne7 rfl fun H7' X7' hR7 => ⟨rfl, ?_⟩
      refine ⟨(by show 12 ≤ sizeLine; decide), ?_⟩
      intro a6 na6
      have Xa6 := ex_new (o := HO.lst   [V.non, V.int 7, V.bl true, V.str (Str.ofString "join"), V.str (SX.S (cardTx (CtD.card c))), V.ref a1, V.ref a2,     V.ref a3, V.ref a4, V.ref x6, V.ref x7, V.str (Str.ofString "")]) na6
      have ha6 : upd H7' a6 (HO.lst   [V.non, V.int 7, V.bl true, V.str (Str.ofString "join"), V.str (SX.S (cardTx (CtD.card c))), V.ref a1, V.ref a2,     V.ref a3, V.ref a4, V.ref x6, V.ref x7, V.str (Str.ofString "")]) a6 = some (HO.lst   [V.non, V.int 7, V.bl true, V.str (Str.ofString "join"), V.str (SX.S (cardTx (CtD.card c))), V.ref a1, V.ref a2,     V.ref a3, V.ref a4, V.ref x6, V.ref x7, V.str (Str.ofString "")]) := upd_same
      generalize upd H7' a6 (HO.lst   [V.non, V.int 7, V.bl true, V.str (Str.ofString "join"), V.str (SX.S (cardTx (CtD.card c))), V.ref a1, V.ref a2,     V.ref a3, V.ref a4, V.ref x6, V.ref x7, V.str (Str.ofString "")]) = Ga6 at Xa6 ha6 ⊢
      refine ⟨_, rfl, ?_⟩
      obtain ⟨dS, kp, hd, as6, hS1, _⟩ := hS6
      obtain ⟨dR, hR1⟩ := hR7
      have X67 := X7'.trans Xa6
      obtain ⟨y, ey, cy⟩ : ∃ y, atI [V.non, V.int 7, V.bl true, V.str (Str.ofString "join"), V.str (SX.S (cardTx c.card)), V.ref a1, V.ref a2, V.ref a3, V.ref a4, V.ref x6, V.ref x7, V.str (Str.ofString "")] ((d : Nat) : Int) = some y ∧ CdIs K Ga6 y false := by
        have Y1 : Ex Ga1 Ga6 := fun b o e => X67 _ _ (X6' _ _ (Xa5 _ _ (Xa4 _ _ (Xa3 _ _ (Xa2 _ _ e)))))
        have Y2 : Ex Ga2 Ga6 := fun b o e => X67 _ _ (X6' _ _ (Xa5 _ _ (Xa4 _ _ (Xa3 _ _ e))))
        have Y3 : Ex Ga3 Ga6 := fun b o e => X67 _ _ (X6' _ _ (Xa5 _ _ (Xa4 _ _ e)))
        have Y4 : Ex Ga4 Ga6 := fun b o e => X67 _ _ (X6' _ _ (Xa5 _ _ e))
        rcases (by omega : d = 0 ∨ d = 1 ∨ d = 2 ∨ d = 3 ∨ d = 4 ∨ d = 5 ∨ d = 6 ∨ d = 7 ∨ d = 8 ∨ d = 9 ∨ d = 10 ∨ d = 11) with rfl | rfl | rfl | rfl | rfl | rfl | rfl | rfl | rfl | rfl | rfl | rfl
        · exact ⟨_, rfl, _, .base .non, T.kit_NoneType_Card⟩
        · exact ⟨_, rfl, _, .base (.int _), T.kit_int_Card⟩
        · exact ⟨_, rfl, _, .base (.bl _), T.kit_bool_Card⟩
        · exact ⟨_, rfl, _, .base (.str _), T.kit_str_Card⟩
        · exact ⟨_, rfl, _, .base (.str _), T.kit_str_Card⟩
        · exact ⟨_, rfl, _, .base (.lst (Y1 _ _ ha1)), T.kit_list_Card⟩
        · exact ⟨_, rfl, _, .base (.tup (Y2 _ _ ha2)), T.kit_tuple_Card⟩
        · exact ⟨_, rfl, _, .base (.dK (Y3 _ _ ha3)), T.kit_dict_Card⟩
        · exact ⟨_, rfl, _, .base (.lst (Y4 _ _ ha4)), T.kit_list_Card⟩
        · exact ⟨_, rfl, _, ty_ins T.i_Spread T.c_Spread (X67 _ _ hS1), T.kit_Spread_Card⟩
        · exact ⟨_, rfl, _, ty_ins T.i_Ring T.c_Ring (Xa6 _ _ hR1), T.kit_Ring_Card⟩
        · exact ⟨_, rfl, _, .base (.str _), T.kit_str_Card⟩
      refine ⟨a6, _, _, _, rfl, rfl, sq_lst ha6, ey, ?_⟩
      refine ⟨_, rfl, y, rfl, cy, fun H9 X9 => ⟨_, rfl, iteF ?_⟩⟩
      have X89 : Ex H8 H9 := fun b o e => X9 _ _ (X67 _ _ (X6' _ _ (Xa5 _ _ (Xa4 _ _ (Xa3 _ _ (Xa2 _ _ (Xa1 _ _ e)))))))
      have hA9 := (hA7.mono X8).mono X89
      refine ⟨_, rfl, _, true, rfl, CdX.is T (r := some c.card) ⟨m, rfl, hA9⟩, nofun, fun _ => ⟨m, c.card, rfl, hA9, okc, rok, by omega, fun H10 X10 => ?_⟩⟩
      refine ⟨_, rfl, rfl, _, rfl, ?_⟩
      try dsimp only [tNil]
      rw [decide_eq_true rfl]
      refine iteF ?_
      exact ⟨(X08.trans X89).trans X10, fun n => ([none, some (.int (0 + (i : Nat))), some (.ref p), some (.int (d : Nat)), some (.ref t), some (.ref m), some (.str (SX.S (cardTx c.card))), some y].getD n none), rfl⟩
    · rintro σ H1 ⟨_, _, rfl⟩
      exact q _
end
end Toy
namespace Toy
open PySem PySem.Spec PyProof.Rows L2 L3
theorem env_of {K : PySem.W.Frag} {h : Heap} {mg : Str → Option Value} (X : K.In h) (G : h.Ns mainGlobals mg) (c : SaysX xf fn K) : Env K mg :=
  ⟨He.glo_ok X G (c.fact 0 (f := fun K => (He.Fa.glo "is_whole").ok K) rfl),
  He.glo_ok X G (c.fact 1 (f := fun K => (He.Fa.glo "is_moment").ok K) rfl),
  He.glo_ok X G (c.fact 2 (f := fun K => (He.Fa.glo "want_moment").ok K) rfl),
  He.glo_ok X G (c.fact 3 (f := fun K => (He.Fa.glo "clock_of").ok K) rfl),
  He.glo_ok X G (c.fact 4 (f := fun K => (He.Fa.glo "show_moment").ok K) rfl),
  He.glo_ok X G (c.fact 5 (f := fun K => (He.Fa.glo "want_day").ok K) rfl),
  He.glo_ok X G (c.fact 6 (f := fun K => (He.Fa.glo "are_signs").ok K) rfl),
  He.glo_ok X G (c.fact 7 (f := fun K => (He.Fa.glo "told_days").ok K) rfl),
  He.glo_ok X G (c.fact 8 (f := fun K => (He.Fa.glo "want_till").ok K) rfl),
  He.glo_ok X G (c.fact 9 (f := fun K => (He.Fa.glo "is_name").ok K) rfl),
  He.glo_ok X G (c.fact 10 (f := fun K => (He.Fa.glo "notes_of").ok K) rfl),
  He.glo_ok X G (c.fact 11 (f := fun K => (He.Fa.glo "is_number").ok K) rfl),
  He.glo_ok X G (c.fact 12 (f := fun K => (He.Fa.glo "all_rising").ok K) rfl),
  He.glo_ok X G (c.fact 13 (f := fun K => (He.Fa.glo "shorts_in").ok K) rfl),
  He.glo_ok X G (c.fact 14 (f := fun K => (He.Fa.glo "row_moments").ok K) rfl),
  He.glo_ok X G (c.fact 15 (f := fun K => (He.Fa.glo "row_many").ok K) rfl),
  He.glo_ok X G (c.fact 16 (f := fun K => (He.Fa.glo "row_text").ok K) rfl),
  He.glo_ok X G (c.fact 17 (f := fun K => (He.Fa.glo "want").ok K) rfl),
  He.glo_ok X G (c.fact 18 (f := fun K => (He.Fa.glo "notes_text").ok K) rfl),
  He.glo_ok X G (c.fact 19 (f := fun K => (He.Fa.glo "row_of").ok K) rfl),
  He.glo_ok X G (c.fact 20 (f := fun K => (He.Fa.glo "rows_of").ok K) rfl),
  He.glo_ok X G (c.fact 21 (f := fun K => (He.Fa.glo "show_card").ok K) rfl),
  He.glo_ok X G (c.fact 22 (f := fun K => (He.Fa.glo "_law_pot").ok K) rfl),
  He.glo_ok X G (c.fact 23 (f := fun K => (He.Fa.glo "_law_draw").ok K) rfl),
  He.glo_ok X G (c.fact 24 (f := fun K => (He.Fa.glo "_law_moment").ok K) rfl),
  He.glo_ok X G (c.fact 25 (f := fun K => (He.Fa.glo "_law_spread_text").ok K) rfl),
  He.glo_ok X G (c.fact 26 (f := fun K => (He.Fa.glo "_law_days_text").ok K) rfl),
  He.glo_ok X G (c.fact 27 (f := fun K => (He.Fa.glo "_law_row").ok K) rfl),
  He.glo_ok X G (c.fact 28 (f := fun K => (He.Fa.glo "_law_inner").ok K) rfl),
  He.glo_ok X G (c.fact 29 (f := fun K => (He.Fa.glo "_law_rows").ok K) rfl),
  He.glo_ok X G (c.fact 30 (f := fun K => (He.Fa.glo "_law_written").ok K) rfl),
  He.glo_ok X G (c.fact 31 (f := fun K => (He.Fa.glo "_law_name").ok K) rfl),
  He.glo_ok X G (c.fact 32 (f := fun K => (He.Fa.glo "_law_notes").ok K) rfl),
  He.glo_ok X G (c.fact 33 (f := fun K => (He.Fa.glo "_law_means").ok K) rfl),
  He.glo_ok X G (c.fact 34 (f := fun K => (He.Fa.glo "_law_spread").ok K) rfl),
  He.glo_ok X G (c.fact 35 (f := fun K => (He.Fa.glo "_law_days").ok K) rfl),
  He.glo_ok X G (c.fact 36 (f := fun K => (He.Fa.glo "_law_card").ok K) rfl),
  He.glo_ok X G (c.fact 37 (f := fun K => (He.Fa.glo "_law_whole_card").ok K) rfl),
  He.glo_ok X G (c.fact 38 (f := fun K => (He.Fa.glo "_law_made_parts").ok K) rfl),
  He.glo_ok X G (c.fact 39 (f := fun K => (He.Fa.glo "_law_made_spread").ok K) rfl),
  He.glo_ok X G (c.fact 40 (f := fun K => (He.Fa.glo "_law_made_days").ok K) rfl),
  He.glo_ok X G (c.fact 41 (f := fun K => (He.Fa.glo "_law_made_leaf").ok K) rfl),
  He.glo_ok X G (c.fact 42 (f := fun K => (He.Fa.glo "_law_made").ok K) rfl),
  He.glo_ok X G (c.fact 43 (f := fun K => (He.Fa.glo "_law_refused").ok K) rfl),
  He.glo_ok X G (c.fact 44 (f := fun K => (He.Fa.glo "_law_right").ok K) rfl),
  He.glo_ok X G (c.fact 45 (f := fun K => (He.Fa.glo "_law_twice_right").ok K) rfl),
  He.glo_ok X G (c.fact 46 (f := fun K => (He.Fa.glo "law").ok K) rfl),
  gint_of X G (c.fact 47 (f := fun K => (He.Fa.int "HOUR" (60)).ok K) rfl),
  gint_of X G (c.fact 48 (f := fun K => (He.Fa.int "DAY" (1440)).ok K) rfl),
  gstr_of X G (c.fact 49 (f := fun K => (He.Fa.str "COLON" ":").ok K) rfl),
  gstr_of X G (c.fact 50 (f := fun K => (He.Fa.str "BLANK" " ").ok K) rfl),
  gint_of X G (c.fact 51 (f := fun K => (He.Fa.int "MOST_SIGNS" (7)).ok K) rfl),
  gstr_of X G (c.fact 52 (f := fun K => (He.Fa.str "NOUGHT" "0").ok K) rfl),
  gstr_of X G (c.fact 53 (f := fun K => (He.Fa.str "ONE" "1").ok K) rfl),
  gint_of X G (c.fact 54 (f := fun K => (He.Fa.int "MOST_DAYS" (8)).ok K) rfl),
  gstr_of X G (c.fact 55 (f := fun K => (He.Fa.str "FROM" "from").ok K) rfl),
  gstr_of X G (c.fact 56 (f := fun K => (He.Fa.str "TO" "to").ok K) rfl),
  gstr_of X G (c.fact 57 (f := fun K => (He.Fa.str "NOT" "not").ok K) rfl),
  gstr_of X G (c.fact 58 (f := fun K => (He.Fa.str "ALSO" "also").ok K) rfl),
  gstr_of X G (c.fact 59 (f := fun K => (He.Fa.str "NAME_SIGNS" "abcdefghijklmnopqrstuvwxyz").ok K) rfl),
  gint_of X G (c.fact 60 (f := fun K => (He.Fa.int "LONGEST_NAME" (8)).ok K) rfl),
  gint_of X G (c.fact 61 (f := fun K => (He.Fa.int "MOST_MOMENTS" (1440)).ok K) rfl),
  gint_of X G (c.fact 62 (f := fun K => (He.Fa.int "MOST_NESTED" (8)).ok K) rfl),
  gstr_of X G (c.fact 63 (f := fun K => (He.Fa.str "NO_PARTS" "-").ok K) rfl),
  gint_of X G (c.fact 64 (f := fun K => (He.Fa.int "MOST_CARDS" (60)).ok K) rfl),
  gint_of X G (c.fact 65 (f := fun K => (He.Fa.int "LATEST" (10080)).ok K) rfl),
  gstr_of X G (c.fact 66 (f := fun K => (He.Fa.str "DEEPER" "  ").ok K) rfl),
  gstr_of X G (c.fact 67 (f := fun K => (He.Fa.str "NOTE" " note ").ok K) rfl),
  gstr_of X G (c.fact 68 (f := fun K => (He.Fa.str "AT" " at ").ok K) rfl),
  gstr_of X G (c.fact 69 (f := fun K => (He.Fa.str "JOIN" "join").ok K) rfl),
  gstr_of X G (c.fact 70 (f := fun K => (He.Fa.str "LESS" "less").ok K) rfl),
  He.free_ok X G (c.fact 71 (f := fun K => (He.Fa.free "LookupError").ok K) rfl),
  He.free_ok X G (c.fact 72 (f := fun K => (He.Fa.free "RuntimeError").ok K) rfl),
  He.free_ok X G (c.fact 73 (f := fun K => (He.Fa.free "ValueError").ok K) rfl),
  He.free_ok X G (c.fact 74 (f := fun K => (He.Fa.free "all").ok K) rfl),
  He.free_ok X G (c.fact 75 (f := fun K => (He.Fa.free "any").ok K) rfl),
  He.free_ok X G (c.fact 76 (f := fun K => (He.Fa.free "bool").ok K) rfl),
  He.free_ok X G (c.fact 77 (f := fun K => (He.Fa.free "dict").ok K) rfl),
  He.free_ok X G (c.fact 78 (f := fun K => (He.Fa.free "divmod").ok K) rfl),
  He.free_ok X G (c.fact 79 (f := fun K => (He.Fa.free "int").ok K) rfl),
  He.free_ok X G (c.fact 80 (f := fun K => (He.Fa.free "isinstance").ok K) rfl),
  He.free_ok X G (c.fact 81 (f := fun K => (He.Fa.free "len").ok K) rfl),
  He.free_ok X G (c.fact 82 (f := fun K => (He.Fa.free "list").ok K) rfl),
  He.free_ok X G (c.fact 83 (f := fun K => (He.Fa.free "max").ok K) rfl),
  He.free_ok X G (c.fact 84 (f := fun K => (He.Fa.free "min").ok K) rfl),
  He.free_ok X G (c.fact 85 (f := fun K => (He.Fa.free "range").ok K) rfl),
  He.free_ok X G (c.fact 86 (f := fun K => (He.Fa.free "set").ok K) rfl),
  He.free_ok X G (c.fact 87 (f := fun K => (He.Fa.free "sorted").ok K) rfl),
  He.free_ok X G (c.fact 88 (f := fun K => (He.Fa.free "str").ok K) rfl),
  He.free_ok X G (c.fact 89 (f := fun K => (He.Fa.free "sum").ok K) rfl),
  He.free_ok X G (c.fact 90 (f := fun K => (He.Fa.free "tuple").ok K) rfl),
  He.free_ok X G (c.fact 91 (f := fun K => (He.Fa.free "zip").ok K) rfl),
  He.glo_ok X G (c.fact 92 (f := fun K => (He.Fa.glo "GoingError").ok K) rfl),
  He.glo_ok X G (c.fact 93 (f := fun K => (He.Fa.glo "NoTime").ok K) rfl),
  exo_of (c.fact 94 (f := exoB bmV "ValueError.__new__" "NoTime") rfl),
  He.glo_ok X G (c.fact 95 (f := fun K => (He.Fa.glo "NoPiece").ok K) rfl),
  exo_of (c.fact 96 (f := exoB bmV "ValueError.__new__" "NoPiece") rfl),
  He.glo_ok X G (c.fact 97 (f := fun K => (He.Fa.glo "NoDays").ok K) rfl),
  exo_of (c.fact 98 (f := exoB bmV "ValueError.__new__" "NoDays") rfl),
  He.glo_ok X G (c.fact 99 (f := fun K => (He.Fa.glo "NoCard").ok K) rfl),
  exo_of (c.fact 100 (f := exoB bmV "ValueError.__new__" "NoCard") rfl),
  He.glo_ok X G (c.fact 101 (f := fun K => (He.Fa.glo "NoName").ok K) rfl),
  He.glo_ok X G (c.fact 102 (f := fun K => (He.Fa.glo "NoRow").ok K) rfl),
  He.glo_ok X G (c.fact 103 (f := fun K => (He.Fa.glo "NoText").ok K) rfl),
  He.glo_ok X G (c.fact 104 (f := fun K => (He.Fa.glo "Ring").ok K) rfl),
  He.glo_ok X G (c.fact 105 (f := fun K => (He.Fa.glo "Days").ok K) rfl),
  He.glo_ok X G (c.fact 106 (f := fun K => (He.Fa.glo "Short").ok K) rfl),
  He.glo_ok X G (c.fact 107 (f := fun K => (He.Fa.glo "At").ok K) rfl),
  He.glo_ok X G (c.fact 108 (f := fun K => (He.Fa.glo "Over").ok K) rfl),
  He.glo_ok X G (c.fact 109 (f := fun K => (He.Fa.glo "Spread").ok K) rfl),
  He.glo_ok X G (c.fact 110 (f := fun K => (He.Fa.glo "Card").ok K) rfl),
  He.glo_ok X G (c.fact 111 (f := fun K => (He.Fa.glo "Once").ok K) rfl),
  He.glo_ok X G (c.fact 112 (f := fun K => (He.Fa.glo "Every").ok K) rfl),
  He.glo_ok X G (c.fact 113 (f := fun K => (He.Fa.glo "Join").ok K) rfl),
  He.glo_ok X G (c.fact 114 (f := fun K => (He.Fa.glo "Less").ok K) rfl),
  He.glo_ok X G (c.fact 115 (f := fun K => (He.Fa.glo "Swap").ok K) rfl),
  He.glo_ok X G (c.fact 116 (f := fun K => (He.Fa.glo "Later").ok K) rfl),
  He.glo_ok X G (c.fact 117 (f := fun K => (He.Fa.glo "Noted").ok K) rfl),
  He.glo_ok X G (c.fact 118 (f := fun K => (He.Fa.glo "As").ok K) rfl),
  clsM_of (c.fact 119 (f := clsMF "Card" "__init__") rfl),
  He.cls_ok (c.fact 120 (f := fun K => (He.Fa.cls "Ring").ok K) rfl),
  insC_of (c.fact 121 (f := insB "Ring") rfl),
  He.noat_ok (c.fact 122 (f := fun K => (He.Fa.noat "Ring" "bits").ok K) rfl),
  He.meth_ok (c.fact 123 (f := fun K => (He.Fa.meth "Ring" "__str__").ok K) rfl),
  He.meth_ok (c.fact 124 (f := fun K => (He.Fa.meth "Ring" "rings").ok K) rfl),
  He.mkr_ok (c.fact 125 (f := fun K => (He.Fa.mkr "Ring").ok K) rfl),
  of_decide_eq_true (c.fact 126 (f := kitF "Ring" "Ring" true) rfl),
  of_decide_eq_true (c.fact 127 (f := kitF "Ring" "Card" false) rfl),
  He.cls_ok (c.fact 128 (f := fun K => (He.Fa.cls "Days").ok K) rfl),
  insC_of (c.fact 129 (f := insB "Days") rfl),
  He.noat_ok (c.fact 130 (f := fun K => (He.Fa.noat "Days" "ring").ok K) rfl),
  He.noat_ok (c.fact 131 (f := fun K => (He.Fa.noat "Days" "since").ok K) rfl),
  He.noat_ok (c.fact 132 (f := fun K => (He.Fa.noat "Days" "till").ok K) rfl),
  He.noat_ok (c.fact 133 (f := fun K => (He.Fa.noat "Days" "out").ok K) rfl),
  He.noat_ok (c.fact 134 (f := fun K => (He.Fa.noat "Days" "also").ok K) rfl),
  He.meth_ok (c.fact 135 (f := fun K => (He.Fa.meth "Days" "__str__").ok K) rfl),
  He.mkr_ok (c.fact 136 (f := fun K => (He.Fa.mkr "Days").ok K) rfl),
  fmtC_of (c.fact 137 (f := fmtB "Days") rfl),
  of_decide_eq_true (c.fact 138 (f := kitF "Days" "Days" true) rfl),
  He.cls_ok (c.fact 139 (f := fun K => (He.Fa.cls "At").ok K) rfl),
  insC_of (c.fact 140 (f := insB "At") rfl),
  He.noat_ok (c.fact 141 (f := fun K => (He.Fa.noat "At" "moment").ok K) rfl),
  He.meth_ok (c.fact 142 (f := fun K => (He.Fa.meth "At" "moments").ok K) rfl),
  He.meth_ok (c.fact 143 (f := fun K => (He.Fa.meth "At" "begins").ok K) rfl),
  He.meth_ok (c.fact 144 (f := fun K => (He.Fa.meth "At" "ends").ok K) rfl),
  He.meth_ok (c.fact 145 (f := fun K => (He.Fa.meth "At" "means_many").ok K) rfl),
  He.meth_ok (c.fact 146 (f := fun K => (He.Fa.meth "At" "nested").ok K) rfl),
  He.meth_ok (c.fact 147 (f := fun K => (He.Fa.meth "At" "__str__").ok K) rfl),
  He.mkr_ok (c.fact 148 (f := fun K => (He.Fa.mkr "At").ok K) rfl),
  of_decide_eq_true (c.fact 149 (f := kitF "At" "Short" true) rfl),
  He.cls_ok (c.fact 150 (f := fun K => (He.Fa.cls "Over").ok K) rfl),
  insC_of (c.fact 151 (f := insB "Over") rfl),
  He.noat_ok (c.fact 152 (f := fun K => (He.Fa.noat "Over" "kept").ok K) rfl),
  He.noat_ok (c.fact 153 (f := fun K => (He.Fa.noat "Over" "many").ok K) rfl),
  He.noat_ok (c.fact 154 (f := fun K => (He.Fa.noat "Over" "step").ok K) rfl),
  He.meth_ok (c.fact 155 (f := fun K => (He.Fa.meth "Over" "moments").ok K) rfl),
  He.meth_ok (c.fact 156 (f := fun K => (He.Fa.meth "Over" "begins").ok K) rfl),
  He.meth_ok (c.fact 157 (f := fun K => (He.Fa.meth "Over" "ends").ok K) rfl),
  He.meth_ok (c.fact 158 (f := fun K => (He.Fa.meth "Over" "means_many").ok K) rfl),
  He.meth_ok (c.fact 159 (f := fun K => (He.Fa.meth "Over" "nested").ok K) rfl),
  He.meth_ok (c.fact 160 (f := fun K => (He.Fa.meth "Over" "__str__").ok K) rfl),
  He.mkr_ok (c.fact 161 (f := fun K => (He.Fa.mkr "Over").ok K) rfl),
  of_decide_eq_true (c.fact 162 (f := kitF "Over" "Short" true) rfl),
  He.cls_ok (c.fact 163 (f := fun K => (He.Fa.cls "Spread").ok K) rfl),
  insC_of (c.fact 164 (f := insB "Spread") rfl),
  He.noat_ok (c.fact 165 (f := fun K => (He.Fa.noat "Spread" "kept").ok K) rfl),
  He.noat_ok (c.fact 166 (f := fun K => (He.Fa.noat "Spread" "held").ok K) rfl),
  He.meth_ok (c.fact 167 (f := fun K => (He.Fa.meth "Spread" "moments").ok K) rfl),
  He.meth_ok (c.fact 168 (f := fun K => (He.Fa.meth "Spread" "__str__").ok K) rfl),
  He.mkr_ok (c.fact 169 (f := fun K => (He.Fa.mkr "Spread").ok K) rfl),
  fmtC_of (c.fact 170 (f := fmtB "Spread") rfl),
  of_decide_eq_true (c.fact 171 (f := kitF "Spread" "Spread" true) rfl),
  of_decide_eq_true (c.fact 172 (f := kitF "Spread" "Card" false) rfl),
  He.cls_ok (c.fact 173 (f := fun K => (He.Fa.cls "Once").ok K) rfl),
  insC_of (c.fact 174 (f := insB "Once") rfl),
  He.noat_ok (c.fact 175 (f := fun K => (He.Fa.noat "Once" "spread").ok K) rfl),
  He.noat_ok (c.fact 176 (f := fun K => (He.Fa.noat "Once" "notes").ok K) rfl),
  He.noat_ok (c.fact 177 (f := fun K => (He.Fa.noat "Once" "own").ok K) rfl),
  He.noat_ok (c.fact 178 (f := fun K => (He.Fa.noat "Once" "held").ok K) rfl),
  He.noat_ok (c.fact 179 (f := fun K => (He.Fa.noat "Once" "weight").ok K) rfl),
  He.meth_ok (c.fact 180 (f := fun K => (He.Fa.meth "Once" "inner").ok K) rfl),
  of_decide_eq_true (c.fact 181 (f := sameF "Once" "Card" "inner") rfl),
  He.mkr_ok (c.fact 182 (f := fun K => (He.Fa.mkr "Once").ok K) rfl),
  of_decide_eq_true (c.fact 183 (f := kitF "Once" "Card" true) rfl),
  of_decide_eq_true (c.fact 184 (f := kitF "Once" "Once" true) rfl),
  He.cls_ok (c.fact 185 (f := fun K => (He.Fa.cls "Every").ok K) rfl),
  insC_of (c.fact 186 (f := insB "Every") rfl),
  He.noat_ok (c.fact 187 (f := fun K => (He.Fa.noat "Every" "days").ok K) rfl),
  He.noat_ok (c.fact 188 (f := fun K => (He.Fa.noat "Every" "spread").ok K) rfl),
  He.noat_ok (c.fact 189 (f := fun K => (He.Fa.noat "Every" "notes").ok K) rfl),
  He.noat_ok (c.fact 190 (f := fun K => (He.Fa.noat "Every" "own").ok K) rfl),
  He.noat_ok (c.fact 191 (f := fun K => (He.Fa.noat "Every" "held").ok K) rfl),
  He.noat_ok (c.fact 192 (f := fun K => (He.Fa.noat "Every" "weight").ok K) rfl),
  He.meth_ok (c.fact 193 (f := fun K => (He.Fa.meth "Every" "inner").ok K) rfl),
  of_decide_eq_true (c.fact 194 (f := sameF "Every" "Card" "inner") rfl),
  He.mkr_ok (c.fact 195 (f := fun K => (He.Fa.mkr "Every").ok K) rfl),
  of_decide_eq_true (c.fact 196 (f := kitF "Every" "Card" true) rfl),
  of_decide_eq_true (c.fact 197 (f := kitF "Every" "Once" false) rfl),
  of_decide_eq_true (c.fact 198 (f := kitF "Every" "Every" true) rfl),
  He.cls_ok (c.fact 199 (f := fun K => (He.Fa.cls "Join").ok K) rfl),
  insC_of (c.fact 200 (f := insB "Join") rfl),
  He.noat_ok (c.fact 201 (f := fun K => (He.Fa.noat "Join" "held").ok K) rfl),
  He.noat_ok (c.fact 202 (f := fun K => (He.Fa.noat "Join" "weight").ok K) rfl),
  He.meth_ok (c.fact 203 (f := fun K => (He.Fa.meth "Join" "inner").ok K) rfl),
  of_decide_eq_true (c.fact 204 (f := sameF "Join" "Card" "inner") rfl),
  He.mkr_ok (c.fact 205 (f := fun K => (He.Fa.mkr "Join").ok K) rfl),
  of_decide_eq_true (c.fact 206 (f := kitF "Join" "Card" true) rfl),
  of_decide_eq_true (c.fact 207 (f := kitF "Join" "Once" false) rfl),
  of_decide_eq_true (c.fact 208 (f := kitF "Join" "Every" false) rfl),
  of_decide_eq_true (c.fact 209 (f := kitF "Join" "Join" true) rfl),
  He.cls_ok (c.fact 210 (f := fun K => (He.Fa.cls "Less").ok K) rfl),
  insC_of (c.fact 211 (f := insB "Less") rfl),
  He.noat_ok (c.fact 212 (f := fun K => (He.Fa.noat "Less" "held").ok K) rfl),
  He.noat_ok (c.fact 213 (f := fun K => (He.Fa.noat "Less" "weight").ok K) rfl),
  He.meth_ok (c.fact 214 (f := fun K => (He.Fa.meth "Less" "inner").ok K) rfl),
  of_decide_eq_true (c.fact 215 (f := sameF "Less" "Card" "inner") rfl),
  He.mkr_ok (c.fact 216 (f := fun K => (He.Fa.mkr "Less").ok K) rfl),
  of_decide_eq_true (c.fact 217 (f := kitF "Less" "Card" true) rfl),
  of_decide_eq_true (c.fact 218 (f := kitF "Less" "Once" false) rfl),
  of_decide_eq_true (c.fact 219 (f := kitF "Less" "Every" false) rfl),
  of_decide_eq_true (c.fact 220 (f := kitF "Less" "Join" false) rfl),
  of_decide_eq_true (c.fact 221 (f := kitF "Less" "Less" true) rfl),
  He.cls_ok (c.fact 222 (f := fun K => (He.Fa.cls "Swap").ok K) rfl),
  insC_of (c.fact 223 (f := insB "Swap") rfl),
  He.noat_ok (c.fact 224 (f := fun K => (He.Fa.noat "Swap" "days").ok K) rfl),
  He.noat_ok (c.fact 225 (f := fun K => (He.Fa.noat "Swap" "held").ok K) rfl),
  He.noat_ok (c.fact 226 (f := fun K => (He.Fa.noat "Swap" "weight").ok K) rfl),
  He.meth_ok (c.fact 227 (f := fun K => (He.Fa.meth "Swap" "inner").ok K) rfl),
  of_decide_eq_true (c.fact 228 (f := sameF "Swap" "Card" "inner") rfl),
  He.mkr_ok (c.fact 229 (f := fun K => (He.Fa.mkr "Swap").ok K) rfl),
  of_decide_eq_true (c.fact 230 (f := kitF "Swap" "Card" true) rfl),
  of_decide_eq_true (c.fact 231 (f := kitF "Swap" "Once" false) rfl),
  of_decide_eq_true (c.fact 232 (f := kitF "Swap" "Every" false) rfl),
  of_decide_eq_true (c.fact 233 (f := kitF "Swap" "Join" false) rfl),
  of_decide_eq_true (c.fact 234 (f := kitF "Swap" "Less" false) rfl),
  of_decide_eq_true (c.fact 235 (f := kitF "Swap" "Swap" true) rfl),
  He.cls_ok (c.fact 236 (f := fun K => (He.Fa.cls "Later").ok K) rfl),
  insC_of (c.fact 237 (f := insB "Later") rfl),
  He.noat_ok (c.fact 238 (f := fun K => (He.Fa.noat "Later" "minutes").ok K) rfl),
  He.noat_ok (c.fact 239 (f := fun K => (He.Fa.noat "Later" "held").ok K) rfl),
  He.noat_ok (c.fact 240 (f := fun K => (He.Fa.noat "Later" "weight").ok K) rfl),
  He.meth_ok (c.fact 241 (f := fun K => (He.Fa.meth "Later" "inner").ok K) rfl),
  of_decide_eq_true (c.fact 242 (f := sameF "Later" "Card" "inner") rfl),
  He.mkr_ok (c.fact 243 (f := fun K => (He.Fa.mkr "Later").ok K) rfl),
  of_decide_eq_true (c.fact 244 (f := kitF "Later" "Card" true) rfl),
  of_decide_eq_true (c.fact 245 (f := kitF "Later" "Once" false) rfl),
  of_decide_eq_true (c.fact 246 (f := kitF "Later" "Every" false) rfl),
  of_decide_eq_true (c.fact 247 (f := kitF "Later" "Join" false) rfl),
  of_decide_eq_true (c.fact 248 (f := kitF "Later" "Less" false) rfl),
  of_decide_eq_true (c.fact 249 (f := kitF "Later" "Swap" false) rfl),
  of_decide_eq_true (c.fact 250 (f := kitF "Later" "Later" true) rfl),
  He.cls_ok (c.fact 251 (f := fun K => (He.Fa.cls "Noted").ok K) rfl),
  insC_of (c.fact 252 (f := insB "Noted") rfl),
  He.noat_ok (c.fact 253 (f := fun K => (He.Fa.noat "Noted" "note").ok K) rfl),
  He.noat_ok (c.fact 254 (f := fun K => (He.Fa.noat "Noted" "held").ok K) rfl),
  He.noat_ok (c.fact 255 (f := fun K => (He.Fa.noat "Noted" "weight").ok K) rfl),
  He.meth_ok (c.fact 256 (f := fun K => (He.Fa.meth "Noted" "inner").ok K) rfl),
  of_decide_eq_true (c.fact 257 (f := sameF "Noted" "Card" "inner") rfl),
  He.mkr_ok (c.fact 258 (f := fun K => (He.Fa.mkr "Noted").ok K) rfl),
  of_decide_eq_true (c.fact 259 (f := kitF "Noted" "Card" true) rfl),
  of_decide_eq_true (c.fact 260 (f := kitF "Noted" "Once" false) rfl),
  of_decide_eq_true (c.fact 261 (f := kitF "Noted" "Every" false) rfl),
  of_decide_eq_true (c.fact 262 (f := kitF "Noted" "Join" false) rfl),
  of_decide_eq_true (c.fact 263 (f := kitF "Noted" "Less" false) rfl),
  of_decide_eq_true (c.fact 264 (f := kitF "Noted" "Swap" false) rfl),
  of_decide_eq_true (c.fact 265 (f := kitF "Noted" "Later" false) rfl),
  of_decide_eq_true (c.fact 266 (f := kitF "Noted" "Noted" true) rfl),
  He.cls_ok (c.fact 267 (f := fun K => (He.Fa.cls "As").ok K) rfl),
  insC_of (c.fact 268 (f := insB "As") rfl),
  He.noat_ok (c.fact 269 (f := fun K => (He.Fa.noat "As" "name").ok K) rfl),
  He.noat_ok (c.fact 270 (f := fun K => (He.Fa.noat "As" "held").ok K) rfl),
  He.noat_ok (c.fact 271 (f := fun K => (He.Fa.noat "As" "weight").ok K) rfl),
  He.meth_ok (c.fact 272 (f := fun K => (He.Fa.meth "As" "inner").ok K) rfl),
  of_decide_eq_true (c.fact 273 (f := sameF "As" "Card" "inner") rfl),
  He.mkr_ok (c.fact 274 (f := fun K => (He.Fa.mkr "As").ok K) rfl),
  of_decide_eq_true (c.fact 275 (f := kitF "As" "Card" true) rfl),
  of_decide_eq_true (c.fact 276 (f := kitF "As" "Once" false) rfl),
  of_decide_eq_true (c.fact 277 (f := kitF "As" "Every" false) rfl),
  of_decide_eq_true (c.fact 278 (f := kitF "As" "Join" false) rfl),
  of_decide_eq_true (c.fact 279 (f := kitF "As" "Less" false) rfl),
  of_decide_eq_true (c.fact 280 (f := kitF "As" "Swap" false) rfl),
  of_decide_eq_true (c.fact 281 (f := kitF "As" "Later" false) rfl),
  of_decide_eq_true (c.fact 282 (f := kitF "As" "Noted" false) rfl),
  of_decide_eq_true (c.fact 283 (f := kitBF "int" "Card" false) rfl),
  of_decide_eq_true (c.fact 284 (f := kitBF "bool" "Card" false) rfl),
  of_decide_eq_true (c.fact 285 (f := kitBF "str" "Card" false) rfl),
  of_decide_eq_true (c.fact 286 (f := kitBF "NoneType" "Card" false) rfl),
  of_decide_eq_true (c.fact 287 (f := kitBF "list" "Card" false) rfl),
  of_decide_eq_true (c.fact 288 (f := kitBF "tuple" "Card" false) rfl),
  of_decide_eq_true (c.fact 289 (f := kitBF "dict" "Card" false) rfl),
  of_decide_eq_true (c.fact 290 (f := exm1F "NoCard" "GoingError" true) rfl),
  excC_of (c.fact 291 (f := excCB "NoCard") rfl),
  of_decide_eq_true (c.fact 292 (f := kitF "NoCard" "NoTime" false) rfl),
  of_decide_eq_true (c.fact 293 (f := kitF "NoCard" "NoPiece" false) rfl),
  of_decide_eq_true (c.fact 294 (f := kitF "NoCard" "NoDays" false) rfl),
  of_decide_eq_true (c.fact 295 (f := kitF "NoCard" "NoCard" true) rfl),
  of_decide_eq_true (c.fact 296 (f := kitF "NoCard" "NoName" false) rfl),
  of_decide_eq_true (c.fact 297 (f := kitF "NoCard" "NoRow" false) rfl),
  of_decide_eq_true (c.fact 298 (f := kitF "NoCard" "NoText" false) rfl),
  of_decide_eq_true (c.fact 299 (f := kitFT "NoCard" "ValueError" true) rfl),
  of_decide_eq_true (c.fact 300 (f := kitFT "NoCard" "LookupError" false) rfl),
  of_decide_eq_true (c.fact 301 (f := kitFT "NoCard" "RuntimeError" false) rfl),
  c.def_ 0 (d := d_is_whole) rfl,
  c.def_ 1 (d := d_is_moment) rfl,
  c.def_ 2 (d := d_want_moment) rfl,
  c.def_ 3 (d := d_clock_of) rfl,
  c.def_ 4 (d := d_show_moment) rfl,
  c.def_ 5 (d := d_want_day) rfl,
  c.def_ 6 (d := d_are_signs) rfl,
  c.def_ 7 (d := d_Ring_init) rfl,
  c.def_ 8 (d := d_Ring_str) rfl,
  c.def_ 9 (d := d_Ring_rings) rfl,
  c.def_ 10 (d := d_told_days) rfl,
  c.def_ 11 (d := d_want_till) rfl,
  c.def_ 12 (d := d_Days_init) rfl,
  c.def_ 13 (d := d_Days_str) rfl,
  c.def_ 14 (d := d_Days_has) rfl,
  c.def_ 15 (d := d_is_name) rfl,
  c.def_ 16 (d := d_notes_of) rfl,
  c.def_ 17 (d := d_is_number) rfl,
  c.def_ 18 (d := d_all_rising) rfl,
  c.def_ 19 (d := d_shorts_in) rfl,
  c.def_ 20 (d := d_row_moments) rfl,
  c.def_ 21 (d := d_row_many) rfl,
  c.def_ 22 (d := d_row_text) rfl,
  c.def_ 23 (d := d_At_init) rfl,
  c.def_ 24 (d := d_At_moments) rfl,
  c.def_ 25 (d := d_At_begins) rfl,
  c.def_ 26 (d := d_At_ends) rfl,
  c.def_ 27 (d := d_At_means_many) rfl,
  c.def_ 28 (d := d_At_nested) rfl,
  c.def_ 29 (d := d_At_str) rfl,
  c.def_ 30 (d := d_Over_init) rfl,
  c.def_ 31 (d := d_Over_moments) rfl,
  c.def_ 32 (d := d_Over_begins) rfl,
  c.def_ 33 (d := d_Over_ends) rfl,
  c.def_ 34 (d := d_Over_means_many) rfl,
  c.def_ 35 (d := d_Over_nested) rfl,
  c.def_ 36 (d := d_Over_str) rfl,
  c.def_ 37 (d := d_Spread_init) rfl,
  c.def_ 38 (d := d_Spread_moments) rfl,
  c.def_ 39 (d := d_Spread_str) rfl,
  c.def_ 40 (d := d_want) rfl,
  c.def_ 41 (d := d_Card_init) rfl,
  c.def_ 42 (d := d_Card_inner) rfl,
  c.def_ 43 (d := d_Once_init) rfl,
  c.def_ 44 (d := d_Every_init) rfl,
  c.def_ 45 (d := d_Join_init) rfl,
  c.def_ 46 (d := d_Less_init) rfl,
  c.def_ 47 (d := d_Swap_init) rfl,
  c.def_ 48 (d := d_Later_init) rfl,
  c.def_ 49 (d := d_Noted_init) rfl,
  c.def_ 50 (d := d_As_init) rfl,
  c.def_ 51 (d := d_notes_text) rfl,
  c.def_ 52 (d := d_row_of) rfl,
  c.def_ 53 (d := d_rows_of) rfl,
  c.def_ 54 (d := d_show_card) rfl,
  c.def_ 55 (d := d__law_pot) rfl,
  c.def_ 56 (d := d__law_draw) rfl,
  c.def_ 57 (d := d__law_moment) rfl,
  c.def_ 58 (d := d__law_spread_text) rfl,
  c.def_ 59 (d := d__law_days_text) rfl,
  c.def_ 60 (d := d__law_row) rfl,
  c.def_ 61 (d := d__law_inner) rfl,
  c.def_ 62 (d := d__law_rows) rfl,
  c.def_ 63 (d := d__law_written) rfl,
  c.def_ 64 (d := d__law_name) rfl,
  c.def_ 65 (d := d__law_notes) rfl,
  c.def_ 66 (d := d__law_means) rfl,
  c.def_ 67 (d := d__law_spread) rfl,
  c.def_ 68 (d := d__law_days) rfl,
  c.def_ 69 (d := d__law_card) rfl,
  c.def_ 70 (d := d__law_whole_card) rfl,
  c.def_ 71 (d := d__law_made_parts) rfl,
  c.def_ 72 (d := d__law_made_spread) rfl,
  c.def_ 73 (d := d__law_made_days) rfl,
  c.def_ 74 (d := d__law_made_leaf) rfl,
  c.def_ 75 (d := d__law_made) rfl,
  c.def_ 76 (d := d__law_refused) rfl,
  c.def_ 77 (d := d__law_right) rfl,
  c.def_ 78 (d := d__law_twice_right) rfl,
  c.def_ 79 (d := d_law) rfl⟩
end Toy
open PySem PySem.W PySem.Calls PyProof.Rows
set_option maxRecDepth 100000 in
set_option maxHeartbeats 0 in
theorem PySem.Challenge.cw_shortgoings_k71_cards_written_holds : PySem.Challenge.rw_shortgoings_k71_cards_written.Holds := by
  w_on; o_law
  refine HandSHeadRun.head_any (r := OpenLaw.row PySem.Challenge.rw_shortgoings_k71_cards_written) (q := view (OpenLaw.row PySem.Challenge.rw_shortgoings_k71_cards_written).prog [109]) (H := Toy.hk) (ob := Toy.ob) (M := 10900) (loose := Toy.nss) (d := HandSHeadRun.topDef (OpenLaw.row PySem.Challenge.rw_shortgoings_k71_cards_written).prog 109) (kwd := []) Toy.ob_eq
    (by kernel_rfl) (fun s => by kernel_rfl) Toy.run (by kernel_rfl) (by kernel_rfl) (by kernel_rfl) (by rfl) (by first | assumption | decide +kernel) (by decide +kernel) ⟨rfl, rfl, rfl, rfl, rfl, by decide +kernel⟩ ?hw ?hc
  case hw => w_witness2
  case hc =>
    refine L3.walk_end (l := PySem.Challenge.rw_shortgoings_k71_cards_written) (n := 63) (k := 185) (x := "_law_script") rfl (by decide) (by kernel_rfl) (L3.rm_caller.mono (by decide)) ?F
    intro w mg fa h Y G hmg0
    obtain ⟨K, KX, c⟩ := Y
    have hmg : mg ("law" : PySem.Str) = some (.ref fa) := by
      have e : (HandSHeadRun.topDef (OpenLaw.row PySem.Challenge.rw_shortgoings_k71_cards_written).prog 109).name = ("law" : PySem.Str) := by kernel_rfl
      rw [← e]
      exact hmg0
    have T := Toy.env_of KX G c
    have e := hmg.symm.trans T.g_law
    cases e
    obtain ⟨fd, F⟩ := T.f_law
    have b := L2.FunD.bindsA (ps := ["_law_script"]) F fun _ _ _ _ _ _ us hl => match us, hl with | [_], _ => rfl
    exact ⟨K, fd, Toy.sp_law K, KX, fun s v => b s [v] rfl, fun H a ns hl hS => ⟨a, ns, rfl, hS, hl, fun _ => rfl⟩, fun base _ _ => Toy.ok_law T F⟩
