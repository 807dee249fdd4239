import PyProof.Rows.All
import Wide.All
import OpenK.AllK
import Wide.FinOn
import PyProof.EqAt
import PyProof.EqKinds
import PyProof.TupleCall
import HandS.ForMost
import HandS.ForExc
import HandS.Defaults
import HandS.MakeKwOnly
import HandS.WideBits
import HandS.IsInst
import HandS.Flow
import HandS.Style
import HandS.Evl
import HandS.StrMore
import HandS.TupAny
import HandS.SortInts
import HandS.RaiseMore
import HandS.Zip
import HandS.Head0
import HandS.Head1
import HandS.Head2
import HandS.HeadEnd
import HandS.HeadHook1
import HandS.HeadHook2
import HandS.Walk
import PyProof.Rows.StrJoinRep
import PyProof.StrLawsLast
import HandS.Codes
import HandS.ExcIs
import KE.KTryMore
import KE.KFmtOwn
import PyProof.InstSpecial
import HandS.TryOnly
import HandS.FStr
import HandS.Conv
import HandS.SetFor
import HandS.Strs
import HandS.OwnEq
import HandS.Deep
import HandS.RaiseFrom
import HandS.SuiteRaise
import HandS.Exc
import KE.GoesMore
import HandS.HotCalls
import HandS.ExcField
import HandS.More
import PySem.Challenge.RW_shortgoings_k31_shortest_is_the_list
set_option Elab.async false
set_option linter.all false
set_option maxRecDepth 100000
set_option maxHeartbeats 4000000
namespace L3
open PySem PySem.Spec PyProof.Rows L2
structure Rm (k : Nat) (A : Around) : Prop where
  rm : Room k A
  gd : A.guards = some []
theorem Rm.mono {j k : Nat} {A : Around} (r : Rm k A) (h : j ≤ k) : Rm j A := ⟨r.rm.mono h, r.gd⟩
theorem Rm.deeper {k : Nat} {A : Around} (r : Rm (k + 1) A) (env : Env) : Rm k (A.deeper env) := ⟨r.rm.deeper env, r.gd⟩
theorem make_guards {A : Around} {C : Addr} {us : List Value} {kw : List (Str × Value)} : (A.under (.builtin "type.__call__" ⟨.ref C :: us, kw⟩)).guards = A.guards := by
  have e : Code.guards (.builtin "type.__call__" ⟨.ref C :: us, kw⟩) = [] := by
    first | rfl | simp [Code.guards, Code.isGuard, guardIds]
  show pushGuards (Code.guards (.builtin "type.__call__" ⟨.ref C :: us, kw⟩)) A.guards = A.guards
  rw [e]
  cases A.guards <;> rfl
theorem Rm.make {k : Nat} {A : Around} (r : Rm (k + 1) A) (C : Addr) (us : List Value) (kw : List (Str × Value)) : Rm k (A.under (.builtin "type.__call__" ⟨.ref C :: us, kw⟩)) :=
  ⟨r.rm.make C us kw, make_guards.trans r.gd⟩
structure Fb (P : Program) (w : World) (K : PySem.W.Frag) (mg : Str → Option Value) (base : Heap) (k : Nat) (f : Addr) (fd : FuncData) (ps : List Str) (sp : Sp) : Prop where
  len : ∀ vs H Q E, sp vs H Q E → vs.length = ps.length
  run : ∀ (A : Around) (outer : List Env) (s : Shared) (H : Hp) (args : Args) (us : List Value) (vs : List V) (Q : VK) (E : XK), Rm k A → Env0 P w K mg base A outer s H → BindsTo s fd args (ps.zip us) → Vals vs us → sp vs H Q E →
    codeAny (model P w) A (.call (.ref f) args) (CR (L2.CX P w) outer P w H s Q E) s
section
variable {P : Program} {w : World} {K : PySem.W.Frag} {mg : Str → Option Value} {base : Heap} {x qual : Str} {params : Arguments} {body : List Stmt} {scope : Scope} {dvs : List V} {kws : List (Str × V)} {f : Addr} {fd : FuncData} {k : Nat} {ps N : List Str} {sp : Sp}
theorem fb_of (F : FunD K x qual params body scope dvs kws f fd) (S : FnScope N ps scope) (len : ∀ vs H Q E, sp vs H Q E → vs.length = ps.length)
    (hbody : ∀ (cdv : Value) (A : Around) (outer : List Env) (s : Shared) (H : Hp) (vs : List V) (Q : VK) (E : XK), Rm k (A.deeper (envOfC qual scope s.heap.objs.size f cdv)) → sp vs H Q E →
      ∃ t, PSs (cxOf (L2.CX P w) P w K mg base N qual scope f cdv A outer s H E) body t ∧ t { nx := fun _ H' => Q .non H', rt := Q } (start N vs) H) : Fb P w K mg base (k + 1) f fd ps sp := by
  obtain ⟨oc, od, dV, kV, doc, pm, an, cdv, ct, osl, rfl, lk, hcd, _, _⟩ := F.ex
  refine ⟨len, fun A outer s H args us vs Q E hr e0 hb r hsp => ?_⟩
  have hl := len _ _ _ _ hsp
  have KX : K.In s.heap := e0.mod.kin.keeps fun b o e => (e0.bs b o e).1
  have lim : s.heap.NoLimit := e0.mod.nolimit.keeps fun b o e => (e0.bs b o e).1
  have hkind : ∀ y ∈ ps.zip us, scope.names.lookup y.1 = some .local ∨ (scope.names.lookup y.1 = some .cell ∧ ((cellsFrom (s.heap.objs.size + 1) scope.names []).lookup y.1).isSome = true) := fun ⟨n, v⟩ hy => by
    rcases S.par n (List.of_mem_zip hy).1 with q | q
    · exact .inl q
    · exact .inr ⟨q, PySem.W.cellsFrom_some _ _ _ (.inl q)⟩
  refine codeAny_call_function hr.rm.depth (KX _ _ lk) rfl S.co S.gen rfl (PySem.W.codeRec_of KX hcd) (hb _ _ _ _ ?_)
  refine wpAny_newFunctionEnv_cells S.kind hkind fun env he s1 x => ?_
  subst he
  refine ⟨lim.keeps x.toInCall.keep, codeAny_func ?_⟩
  obtain ⟨t, ht, hq⟩ := hbody cdv A outer s H vs Q E (hr.deeper _) hsp
  have I : Inv (cxOf (L2.CX P w) P w K mg base N qual scope f cdv A outer s H E) [] (start N vs) H s1 := inv_start S hr.rm.hd e0 hl r x
  refine wpAny_mono (ht.run [] s1 (start N vs) H _ I hq) (fun fl s' hs => ?_) fun e s' hs => hs
  have fin : ∀ {σ' : L2.St} {H' : Hp} {v : V} {u : Value}, Inv (cxOf (L2.CX P w) P w K mg base N qual scope f cdv A outer s H E) [] σ' H' s' → RelV v u → Q v H' → CE outer P w H s Q u s' :=
    fun {σ' H' v u} J rv q => ⟨v, H', J.os, J.bare, J.base, J.hok, rv, q⟩
  cases fl with
  | ret u =>
    obtain ⟨v, σ', H', J, rv, q⟩ := hs
    exact fin J rv q
  | next =>
    obtain ⟨σ', H', J, q⟩ := hs
    exact fin (v := V.non) (u := Value.none) J rfl q
  | brk =>
    obtain ⟨_, _, _, q⟩ := hs
    exact False.elim q
  | cont =>
    obtain ⟨_, _, _, q⟩ := hs
    exact False.elim q
theorem Fb.mono {j : Nat} (F : Fb P w K mg base j f fd ps sp) (h : j ≤ k) : Fb P w K mg base k f fd ps sp := ⟨F.len, fun A outer s H args us vs Q E hr => F.run A outer s H args us vs Q E (hr.mono h)⟩
theorem Fb.imp {sp' : Sp} (F : Fb P w K mg base k f fd ps sp) (h : ∀ vs H Q E, sp' vs H Q E → sp vs H Q E) : Fb P w K mg base k f fd ps sp' :=
  ⟨fun vs H Q E q => F.len vs H Q E (h _ _ _ _ q), fun A outer s H args us vs Q E hr he hb hv hs => F.run A outer s H args us vs Q E hr he hb hv (h _ _ _ _ hs)⟩
def Fc (P : Program) (w : World) (K : PySem.W.Frag) (mg : Str → Option Value) (base : Heap) (k : Nat) (f : Addr) (ks : List Str) (sp : Sp) : Prop :=
  ∀ (A : Around) (outer : List Env) (s : Shared) (H : Hp) (us ws : List Value) (vs : List V) (Q : VK) (E : XK), Rm k A → Env0 P w K mg base A outer s H → Vals vs (us ++ ws) → ws.length = ks.length → sp vs H Q E →
    codeAny (model P w) A (.call (.ref f) ⟨us, ks.zip ws⟩) (CR (L2.CX P w) outer P w H s Q E) s
theorem Fc.mono {j : Nat} {ks : List Str} (F : Fc P w K mg base j f ks sp) (h : j ≤ k) : Fc P w K mg base k f ks sp := fun A outer s H us ws vs Q E hr => F A outer s H us ws vs Q E (hr.mono h)
theorem Fc.imp {sp' : Sp} {ks : List Str} (F : Fc P w K mg base k f ks sp) (h : ∀ vs H Q E, sp' vs H Q E → sp vs H Q E) : Fc P w K mg base k f ks sp' :=
  fun A outer s H us ws vs Q E hr he hv hl hs => F A outer s H us ws vs Q E hr he hv hl (h _ _ _ _ hs)
/-- every parameter is given by place -/
theorem Fb.all (F : Fb P w K mg base k f fd ps sp) (hb : Binds K fd ps []) : Fc P w K mg base k f [] sp := fun A outer s H us ws vs Q E hr e0 r hl h => by
  cases ws with
  | cons w ws => cases hl
  | nil =>
    rw [List.append_nil] at r
    have KX : K.In s.heap := e0.mod.kin.keeps fun b o e => (e0.bs b o e).1
    have l2 : us.length = ps.length := by rw [← r.length]; exact F.len _ _ _ _ h
    have b := hb s us KX (by rw [List.append_nil]; exact l2)
    rw [List.append_nil] at b
    exact F.run A outer s H ⟨us, []⟩ us vs Q E hr e0 b r h
/-- some by place, some by name, some left out: g puts the given ones and the defaults into the parameters' order -/
theorem Fb.shape (D : FunD K x qual params body scope dvs kws f fd) (F : Fb P w K mg base k f fd ps sp) (n : Nat) (ks : List Str) (g : {α : Type} → List α → List α → List α) (hd : dvs ≠ [])
    (hrel : ∀ {vs ds : List V} {us its : List Value}, Vals vs us → Vals ds its → Vals (g vs ds) (g us its))
    (h : ∀ (T : Addr) (kV doc pm : Value) (an : Option Addr) (cdv ct : Value) (us ws its : List Value), us.length = n → ws.length = ks.length → its.length = dvs.length →
      ∃ k, bindArgs (PySem.W.fnOf x qual params body scope (.ref T) kV doc pm an cdv ct) ⟨us, ks.zip ws⟩ = seqItems? (.ref T) >>= k ∧ k (some its.toArray) = pure (ps.zip (g (us ++ ws) its))) :
    Fc P w K mg base k f ks (fun vs H Q E => vs.length = n + ks.length ∧ sp (g vs dvs) H Q E) := by
  obtain ⟨oc, od, dV, kV, doc, pm, an, cdv, ct, osl, rfl, lk, hcd, hD, hK⟩ := D.ex
  rcases hD with ⟨e, _⟩ | ⟨_, T, o, its, m, rfl, lT, oT, rT⟩
  · exact absurd e hd
  · intro A outer s H us ws vs Q E hr e0 r hl hsp
    have KX : K.In s.heap := e0.mod.kin.keeps fun b o e => (e0.bs b o e).1
    have l1 : its.length = dvs.length := rT.length.symm
    have l2 : us.length = n := by
      have e := r.length
      rw [hsp.1, List.length_append, hl] at e
      omega
    obtain ⟨k, e1, e2⟩ := h T kV doc pm an cdv ct us ws its l2 hl l1
    refine F.run A outer s H ⟨us, ks.zip ws⟩ (g (us ++ ws) its) (g vs dvs) Q E hr e0 (BindsTo.of_looks fun M => ?_) (hrel r rT) hsp.2
    rw [e1]
    exact looks_items KX lT oT (.of_pure e2)
/-- all parameters given, some by name, no defaults -/
theorem Fb.names (D : FunD K x qual params body scope [] kws f fd) (F : Fb P w K mg base k f fd ps sp) (n : Nat) (ks : List Str) (g : {α : Type} → List α → List α)
    (hrel : ∀ {vs : List V} {us : List Value}, Vals vs us → Vals (g vs) (g us))
    (h : ∀ (kV doc pm : Value) (an : Option Addr) (cdv ct : Value) (us ws : List Value), us.length = n → ws.length = ks.length →
      bindArgs (PySem.W.fnOf x qual params body scope .none kV doc pm an cdv ct) ⟨us, ks.zip ws⟩ = pure (ps.zip (g (us ++ ws)))) :
    Fc P w K mg base k f ks (fun vs H Q E => vs.length = n + ks.length ∧ sp (g vs) H Q E) := by
  obtain ⟨oc, od, dV, kV, doc, pm, an, cdv, ct, osl, rfl, lk, hcd, hD, hK⟩ := D.ex
  rcases hD with ⟨_, rfl⟩ | ⟨e, _⟩
  · intro A outer s H us ws vs Q E hr e0 r hl hsp
    have l2 : us.length = n := by
      have e := r.length
      rw [hsp.1, List.length_append, hl] at e
      omega
    exact F.run A outer s H ⟨us, ks.zip ws⟩ (g (us ++ ws)) (g vs) Q E hr e0 (.of_eq (h kV doc pm an cdv ct us ws l2 hl)) (hrel r) hsp.2
  · exact absurd rfl e
end
def tFc (sp : Sp) (W : WX) (t : TA) : TE := fun σ H Q => t σ H fun vs H1 => sp vs H1 Q (WE W σ)
section
variable {X : Cx} {k : Nat} {f C : Addr} {ks : List Str} {sp : Sp} {W : WX} {x m : Str} {p pos apos : Pos} {e o : Expr} {es : List Expr} {kws : List Keyword} {ta : TE} {t tk : TA}
theorem run_fc {pins : List (Addr × Obj)} {σ : L2.St} {H : Hp} {s : Shared} {Q : VK} {us ws : List Value} {vs : List V} (F : Fc X.prog X.w X.K X.mg X.base k f ks sp) (hr : Rm k X.A) (hx : Takes X W)
    (I : Inv X pins σ H s) (r : Vals vs (us ++ ws)) (hl : ws.length = ks.length) (h : sp vs H Q (WE W σ)) : wpAny (model X.prog X.w) X.A (call (.ref f) us (ks.zip ws)) (EP X pins σ Q) X.xe s := by
  refine wpAny_call (codeAny_mono (F X.A X.stack s H us ws vs Q (WE W σ) hr I.env0 r hl h) fun r s' hq => ?_)
  cases r with
  | error e => exact passAt hx σ pins H s e s' I hq
  | ok fl =>
    cases fl with
    | ret u => exact I.after hq
    | next => exact False.elim hq
    | brk => exact False.elim hq
    | cont => exact False.elim hq
/-- f(e, ..) -/
theorem c_call (F : Fc X.prog X.w X.K X.mg X.base k f [] sp) (hr : Rm k X.A) (hm : X.mg x = some (.ref f)) (hk : PySem.W.keepIn X.K (.ref f) = true) (hx : Takes X W)
    (ha : PA X (e :: es) t) (hg : Gl X x := by rfl) (hdb : (x == ("__debug__" : Str)) = false := by decide) (he : starEach (e :: es) X.env = (false, eval e X.env) :: starEach es X.env := by rfl) (hpl : (backTo pos (starEach es X.env)).any (·.1) = false := by rfl) :
    PE X (.Call (.Name x p) (e :: es) [] pos) (tFc sp W t) := by
  refine ⟨fun pins s σ H Q I h => ?_⟩
  refine wpAny_Call_Name_kw (ld_glob I hg hm ?_ hdb)
  refine PySem.W.callWith_K (h₀ := X.base) I.ok.mod.kin hk (thn (ha.run pos pins s σ H _ I h) fun us s1 ⟨vs, H1, I1, r, q⟩ => ⟨I1.kIn, ?_⟩) he hpl
  exact run_fc (ws := []) F hr hx I1 (by rw [List.append_nil]; exact r) rfl q
/-- f(k = v, ..) -/
theorem c_callK0 (F : Fc X.prog X.w X.K X.mg X.base k f ks sp) (hr : Rm k X.A) (hm : X.mg x = some (.ref f)) (hk : PySem.W.keepIn X.K (.ref f) = true) (hx : Takes X W)
    (hkw : PK X kws tk) (hg : Gl X x := by rfl) (hall : (backToKw pos (keywordEach kws X.env)).all (·.1.isSome) = true := by rfl) (hks : (backToKw pos (keywordEach kws X.env)).filterMap (·.1) = ks := by rfl)
    (hdb : (x == ("__debug__" : Str)) = false := by decide)
    (hpl : ((backTo pos (starEach [] X.env)).any (·.1) || (backToKw pos (keywordEach kws X.env)).any (·.1.isNone)) = false := by rfl) :
    PE X (.Call (.Name x p) [] kws pos) (fun σ H Q => tk σ H fun zs H2 => zs.length = ks.length ∧ sp zs H2 Q (WE W σ)) := by
  refine ⟨fun pins s σ H Q I h => ?_⟩
  refine wpAny_Call_Name_kw (ld_glob I hg hm ?_ hdb)
  refine PySem.W.callWith_KW0 (h₀ := X.base) I.ok.mod.kin hk hall ?_ hpl
  refine thn (hkw.run pos pins s σ H _ I h) fun ws s2 ⟨zs, H2, I2, rz, l2, q2⟩ => ⟨I2.kIn, ?_⟩
  rw [hks]
  exact run_fc (us := []) F hr hx I2 rz (rz.length.symm.trans l2) q2
end
@[irreducible] def rRepr (K : PySem.W.Frag) : List V → Hp → VK → Prop := fun xs H Q => ∃ (a : Addr) (d : PyData), xs = [.ref a] ∧ Dp K H (.ref a) d ∧ d.hasDict = false ∧ d.showable = true ∧ d.depth ≤ 60 ∧ d.shown.length ≤ sizeLine ∧ Q (.str d.shown) H
theorem call_repr {X : Cx} {k : Nat} (hr : Rm k X.A) : CallR X (.builtin "repr") (rRepr X.K) := by
  intro pins s σ H xs us Q I r h
  unfold rRepr at h
  obtain ⟨a, d, rfl, hd, hnd, hs, hdp, hsz, q⟩ := h
  cases r with
  | cons r1 r2 =>
    cases r2
    obtain ⟨as, rd⟩ := Dp.reads I d (.ref a) _ hd r1
    obtain rfl : _ = Value.ref a := r1
    refine repr_of_reads' rd hs (PyData.noDict_hsm hnd) hr.gd (by have := hr.rm.un; omega) (fun _ _ e => e) (fun h' u tk hk => ?_) hsz
    exact ⟨.str d.shown, H, I.kept hk, ⟨u, rfl⟩, q⟩
theorem rm_caller : Rm 230 callerA := ⟨⟨rfl, by decide, by decide⟩, rfl⟩
section
variable {P : Program} {w : World} {K : PySem.W.Frag} {mg mb : Str → Option Value} {k : Nat} {fa a : Addr} {fd : FuncData} {x : Str} {sp : Sp} {s₁ : Shared} {vs : List Value} {ns : List Int}
/-- the law's call over one abstract heap, in which at most the script is tracked -/
theorem law_core (H : Hp) (KX : K.In s₁.heap) (hns : s₁.heap.Ns mainGlobals mg) (hb : s₁.heap.Ns builtinsNs mb) (hbb : ∀ x : Str, x ≠ "__name__" → mb x = bootBuiltins x) (hlim : s₁.heap.NoLimit) (hg : s₁.gens = #[])
    (ha : s₁.heap.get? a = some { cls := .type "list", data := .seq vs.toArray }) (hr : Rm k callerA)
    (F : ∀ base : Heap, K.In base → base.Ns mainGlobals mg → Fb P w K mg base k fa fd [x] sp) (hbind : ∀ (s : Shared) (u : Value), BindsTo s fd ⟨[u], []⟩ [(x, u)])
    (hO : Only H) (hsp : sp [.ref a] H (fun v _ => v = .bl true) fun _ _ _ => False) (hok : HOk P w H s₁.heap) (hA : ∀ b, H b ≠ none → b = a) (hK : H a ≠ none → K.lookup a = none) :
    codeAny (model P w) callerA (.call (.ref fa) ⟨[.ref a], []⟩) (fun r s' => r = .ok (.ret (.bool true)) ∧ OldK s₁.heap s'.heap ∧ s'.os = s₁.os ∧ AllBare s'.gens) s₁ := by
  have isA : ∀ {b : Addr} {u : HO}, H b = some u → b = a := fun {b u} q => hA b (fun z => nomatch (q.symm.trans z))
  have free : ∀ {b : Addr} {o : Obj} {es : Array DictEntry} {ep : Nat}, s₁.heap.get? b = some o → o.data = .dict es ep → H b = none := fun {b o es ep} e d => by
    cases q : H b with
    | none => rfl
    | some u =>
      have eb := isA q
      subst eb
      rw [ha] at e
      cases e
      cases (show Data.seq vs.toArray _ = Data.dict es ep from d)
  have nsK : ∀ {b : Addr} {m : Str → Option Value}, s₁.heap.Ns b m → (hidT s₁.heap H).Ns b m := fun {b m} ⟨o, es, ep, e, d, r⟩ => ⟨o, es, ep, hidT_get e (free e d), d, r⟩
  have inK : K.In (hidT s₁.heap H) := fun b o e => hidT_get (KX b o e) (by
    cases q : H b with
    | none => rfl
    | some u =>
      have eb := isA q
      subst eb
      rw [hK (fun z => nomatch (q.symm.trans z))] at e
      cases e)
  have hM : Mod K mg (hidT s₁.heap H) := ⟨inK, nsK hns, ⟨mb, nsK hb, hbb⟩, let ⟨mc, h1, h2⟩ := hlim; ⟨mc, nsK h1, h2⟩⟩
  have e0 : Env0 P w K mg (hidT s₁.heap H) callerA [] s₁ H := ⟨rfl, hM, fun b o e => of_hidT e, Nat.le_of_eq (hidT_size _ _), trivial, (fun b z => nomatch (show b ∈ ([] : List Addr) from z)), hok, .of_eq hg⟩
  refine codeAny_mono ((F _ inK (nsK hns)).run callerA [] s₁ H ⟨[.ref a], []⟩ [.ref a] [.ref a] _ _ hr e0 (hbind s₁ (.ref a)) (.cons rfl .nil) hsp) fun r s' h => ?_
  cases r with
  | error e =>
    obtain ⟨_, _, _, _, _, _, _, _, _, _, _, _, z⟩ := h
    exact z.elim
  | ok fl =>
    cases fl with
    | next => exact h.elim
    | brk => exact h.elim
    | cont => exact h.elim
    | ret u =>
      obtain ⟨v, H', os, bare, un, hok2, rv, rfl⟩ := h
      obtain rfl : u = Value.bool true := rv
      refine ⟨rfl, OldK.of_keep fun b o e => ?_, os, bare⟩
      cases q : H b with
      | none => exact un.keep b o e q (fun z => nomatch (show b ∈ ([] : List Addr) from z)) (fun z => nomatch z)
      | some u =>
        rcases hO b with z | ⟨ob, xs, z⟩
        · exact nomatch (q.symm.trans z)
        · have e1 := (hok b _ z).1
          have e2 := (hok2 b _ (un.frzs b ob _ z)).1
          rw [e] at e1
          cases e1
          exact e2
theorem law_end (KX : K.In s₁.heap) (hns : s₁.heap.Ns mainGlobals mg) (hb : s₁.heap.Ns builtinsNs mb) (hbb : ∀ x : Str, x ≠ "__name__" → mb x = bootBuiltins x) (hlim : s₁.heap.NoLimit) (hg : s₁.gens = #[])
    (ha : s₁.heap.get? a = some { cls := .type "list", data := .seq vs.toArray }) (hi : IntsAre vs ns) (hl : ns.length ≤ sizeLine) (hr : Rm k callerA)
    (F : ∀ base : Heap, K.In base → base.Ns mainGlobals mg → Fb P w K mg base k fa fd [x] sp) (hbind : ∀ (s : Shared) (u : Value), BindsTo s fd ⟨[u], []⟩ [(x, u)])
    (hsp : ∀ H : Hp, SqL K H a (ns.map V.int) → sp [.ref a] H (fun v _ => v = .bl true) fun _ _ _ => False) :
    codeAny (model P w) callerA (.call (.ref fa) ⟨[.ref a], []⟩) (fun r s' => r = .ok (.ret (.bool true)) ∧ OldK s₁.heap s'.heap ∧ s'.os = s₁.os ∧ AllBare s'.gens) s₁ := by
  have rv := vals_ints hi
  cases hk : K.lookup a with
  | some o =>
    have e := KX a o hk
    rw [ha] at e
    cases e
    have sq : SqL K (fun _ => none) a (ns.map V.int) := .inr ⟨_, vs.toArray, _, hk, rfl, rfl, rfl, by rw [List.size_toArray, hi.length]; exact hl, by simpa using rv⟩
    exact law_core (fun _ => none) KX hns hb hbb hlim hg ha hr F hbind (fun _ => .inl rfl) (hsp _ sq) (fun b u z => nomatch (show (none : Option HO) = some u from z)) (fun b z => absurd rfl z) fun z => absurd rfl z
  | none =>
    have h1 : ∀ b, b ≠ a → (upd (fun _ => none) a (.frz { cls := .type "list", data := .seq vs.toArray } (.lst (ns.map V.int)))) b = none := fun b n => upd_ne n
    refine law_core (upd (fun _ => none) a (.frz { cls := .type "list", data := .seq vs.toArray } (.lst (ns.map V.int)))) KX hns hb hbb hlim hg ha hr F hbind (fun b => ?_) (hsp _ (.inl (.inr ⟨_, upd_same⟩))) (fun b u z => ?_) (fun b z => ?_) fun _ => hk
    · by_cases n : b = a
      · subst n
        exact .inr ⟨_, _, upd_same⟩
      · exact .inl (h1 b n)
    · by_cases n : b = a
      · subst n
        rw [upd_same] at z
        cases z
        exact ⟨ha, by rw [List.length_map]; exact hl, vs, _, rv, ha⟩
      · rw [h1 b n] at z
        cases z
    · by_cases n : b = a
      · exact n
      · exact absurd (h1 b n) z
end
theorem walk_end {l : PySem.W.OpenLaw} {n k : Nat} {q : Program} {loose : List Str} {XP : (Str → Option Value) → Heap → Prop} {YP : World → Heap → Prop} {d : DefRec} {x : Str}
    (hn : l.most = some n) (hn2 : n ≤ sizeLine) (hdf : d.params.defaults = []) (hr : Rm k callerA)
    (F : ∀ (w : World) (mg : Str → Option Value) (fa : Addr) (h : Heap), YP w h → h.Ns mainGlobals mg → mg d.name = some (.ref fa) →
      ∃ (K : PySem.W.Frag) (fd : FuncData) (sp : Sp), K.In h ∧ (∀ (s : Shared) (u : Value), BindsTo s fd ⟨[u], []⟩ [(x, u)]) ∧
        (∀ (H : Hp) (a : Addr) (ns : List Int), ns.length ≤ n → SqL K H a (ns.map V.int) → sp [.ref a] H (fun v _ => v = .bl true) fun _ _ _ => False) ∧
        ∀ base : Heap, K.In base → base.Ns mainGlobals mg → Fb l.prog w K mg base k fa fd [x] sp) :
    PySem.W.WalkO q loose XP YP l.row.toRowW d [] (fun f vs => PySem.call f vs) := by
  refine Att.attach_call hn hdf fun w s₀ s₁ mg mb fa o pm cd doc a vs ns G Y ho hd hcd hmg hobj hints hlen hg => ?_
  obtain ⟨K, fd, sp, KX, hb, hsp, hF⟩ := F w mg fa _ Y G.T.g hmg
  exact law_end KX G.T.g G.T.b G.T.builtins G.T.nolimit hg hobj hints (Nat.le_trans hlen hn2) hr hF hb (fun H hS => hsp H a ns hlen hS)
end L3
set_option Elab.async false
set_option linter.all false
set_option maxRecDepth 100000
set_option maxHeartbeats 4000000
namespace L3
open PySem PySem.Spec PyProof.Rows L2
abbrev Fx := PySem.W.Frag → Bool
def obsX (xf : List Fx) (fn : List He.DefD) (K : PySem.W.Frag) : He.AlD := ((xf.all fun p => p K) && fn.all fun d => d.ok K, fn.map fun d => He.fnW K d.at_)
def SaysX (xf : List Fx) (fn : List He.DefD) (K : PySem.W.Frag) : Prop := obsX xf fn K = He.valD fn
section
variable {xf : List Fx} {fn : List He.DefD} {K : PySem.W.Frag}
theorem SaysX.fact (c : SaysX xf fn K) (i : Nat) {f : Fx} (h : xf[i]? = some f := by rfl) : f K = true := by
  have c1 := (He.ba (show ((xf.all fun f => f K) && fn.all fun d => d.ok K) = true from congrArg (fun z : He.AlD => z.1) c)).1
  exact List.all_eq_true.mp c1 f (List.mem_of_getElem? h)
theorem SaysX.def_ (c : SaysX xf fn K) (i : Nat) {d : He.DefD} (h : fn[i]? = some d := by rfl) : ∃ fd, FunD K d.name d.qual d.params d.body d.scope (d.dvs K) (d.kws K) (He.fAd K d.at_) fd := by
  have c2 := (He.ba (show ((xf.all fun f => f K) && fn.all fun d => d.ok K) = true from congrArg (fun z : He.AlD => z.1) c)).2
  have e : fn.map (fun d => He.fnW K d.at_) = fn.map He.DefD.val := congrArg (fun z : He.AlD => z.2) c
  have e2 : (fn.map fun d => He.fnW K d.at_)[i]? = (fn.map He.DefD.val)[i]? := by rw [e]
  rw [List.getElem?_map, List.getElem?_map, h] at e2
  exact He.DefD.funD (Option.some.inj e2) (List.all_eq_true.mp c2 d (List.mem_of_getElem? h))
end
structure Exo (K : PySem.W.Frag) (C : Addr) (bmB : List Value) (newId : String) : Prop where
  x : PySem.W.excIn K C bmB newId = true
  kp : PySem.W.keepIn K (.ref C) = true
  sub : PySem.W.subIn K (.ref C) (.type "BaseException") = some true
  ty : PySem.W.typeIn K (.ref C) = some (.type "type")
abbrev bmV : List Value := [.type "ValueError", .type "Exception", .type "BaseException", .type "object"]
def exoB (bmB : List Value) (newId : String) (x : Str) : Fx := fun K => PySem.W.excIn K (He.ga K x) bmB newId && (PySem.W.keepIn K (.ref (He.ga K x)) && (decide (PySem.W.subIn K (.ref (He.ga K x)) (.type "BaseException") = some true) && decide (PySem.W.typeIn K (.ref (He.ga K x)) = some (.type "type"))))
theorem exo_of {bmB : List Value} {newId : String} {x : Str} {K : PySem.W.Frag} (h : exoB bmB newId x K = true) : Exo K (He.ga K x) bmB newId := by
  obtain ⟨h1, h⟩ := He.ba h
  obtain ⟨h2, h⟩ := He.ba h
  obtain ⟨h3, h4⟩ := He.ba h
  exact ⟨h1, h2, of_decide_eq_true h3, of_decide_eq_true h4⟩
section
variable {K : PySem.W.Frag} {h : Heap} {mg : Str → Option Value}
theorem gint_of (X : K.In h) (G : h.Ns mainGlobals mg) {x : Str} {i : Int} (c : (He.Fa.int x i).ok K = true) : ∃ u, mg x = some u ∧ RelV (.int i) u := by
  obtain ⟨t, e⟩ := He.int_ok X G c
  exact ⟨_, e, ⟨t, rfl⟩⟩
theorem gstr_of (X : K.In h) (G : h.Ns mainGlobals mg) {x z : Str} (c : (He.Fa.str x z).ok K = true) : ∃ u, mg x = some u ∧ RelV (.str z) u := by
  obtain ⟨t, e⟩ := He.str_ok X G c
  exact ⟨_, e, ⟨t, rfl⟩⟩
end
/-- a module's constant -/
theorem pe_k {X : Cx} {x : Str} {v : V} {pos : Pos} (h : ∃ u, X.mg x = some u ∧ RelV v u) (hg : Gl X x := by rfl) (hdb : (x == ("__debug__" : Str)) = false := by decide) : PE X (.Name x pos) (tC v) := by
  obtain ⟨u, e, r⟩ := h
  exact pe_glob hg e r hdb
end L3
set_option Elab.async false
set_option linter.all false
set_option maxRecDepth 100000
set_option maxHeartbeats 4000000
namespace L3
open PySem PySem.Spec PyProof.Rows L2
abbrev Ex (H H' : Hp) : Prop := Same H H'
theorem ex_new {H : Hp} {p : Addr} {o : HO} (h : H p = none) : Ex H (upd H p o) := fun a u e => by
  rw [upd_ne (ne_of_none e h)]
  exact e
/-- an object that H does not know may change -/
theorem ex_mut {H H' : Hp} {p : Addr} {o : HO} (e : Ex H H') (h : H p = none) : Ex H (upd H' p o) := fun a u ha => by
  rw [upd_ne (ne_of_none ha h)]
  exact e a u ha
theorem ex_sql {K : PySem.W.Frag} {H H' : Hp} {a : Addr} {xs : List V} (e : Ex H H') (h : SqL K H a xs) : SqL K H' a xs := Same.seq e h
theorem ex_sqt {K : PySem.W.Frag} {H H' : Hp} {a : Addr} {xs : List V} (e : Ex H H') (h : SqT K H a xs) : SqT K H' a xs := by
  rcases h with (h | ⟨o, h⟩) | h
  · exact .inl (.inl (e _ _ h))
  · exact .inl (.inr ⟨o, e _ _ h⟩)
  · exact .inr h
theorem ex_fresh {H H' : Hp} {p : Addr} (e : Ex H H') (h : H' p = none) : H p = none := Same.free e h
theorem sq_lst {K : PySem.W.Frag} {H : Hp} {a : Addr} {xs : List V} (h : H a = some (.lst xs)) : SqL K H a xs := .inl (.inl h)
theorem sq_tup {K : PySem.W.Frag} {H : Hp} {a : Addr} {xs : List V} (h : H a = some (.tup xs)) : SqT K H a xs := .inl (.inl h)
/-- a value of a known type -/
def isW : V → Bool
  | .int _ => true
  | _ => false
def isM : V → Bool
  | .int i => decide (0 ≤ i)
  | _ => false
def Cl (K : PySem.W.Frag) (H : Hp) (x : V) : Prop := ∃ t b c, TyX K H x t ∧ PySem.W.kitOne K t (.type "int") = some b ∧ PySem.W.kitOne K t (.type "bool") = some c ∧ isW x = (b && !c)
section
variable {K : PySem.W.Frag} {H : Hp}
theorem cl_int (i : Int) : Cl K H (.int i) := ⟨_, true, false, .base (.int i), kit_ty (by decide +kernel), kit_ty (by decide +kernel), rfl⟩
end
theorem isM_w {x : V} (h : isM x = true) : ∃ i, x = .int i ∧ 0 ≤ i := by
  cases x with
  | int i => exact ⟨i, rfl, of_decide_eq_true h⟩
  | _ => cases h
theorem isM_f {x : V} (h : isW x = false) : isM x = false := by
  cases x with
  | int i => cases h
  | _ => rfl
/-- given values and defaults in the parameters' order -/
def pick {α : Type} (ix : List (Sum Nat Nat)) (us its : List α) : List α := ix.filterMap fun j => match j with
  | .inl i => us[i]?
  | .inr i => its[i]?
theorem pick_vals {vs ds : List V} {us its : List Value} (ix : List (Sum Nat Nat)) (r1 : Vals vs us) (r2 : Vals ds its) : Vals (pick ix vs ds) (pick ix us its) := by
  have one : ∀ {vs : List V} {us : List Value} (i : Nat), Vals vs us → (∃ v u, vs[i]? = some v ∧ us[i]? = some u ∧ RelV v u) ∨ (vs[i]? = none ∧ us[i]? = none) := fun {vs us} i r => by
    cases e : vs[i]? with
    | none => exact .inr ⟨rfl, r.none_of e⟩
    | some v =>
      obtain ⟨u, h1, h2⟩ := r.get e
      exact .inl ⟨v, u, rfl, h1, h2⟩
  induction ix with
  | nil => exact .nil
  | cons j ix ih =>
    unfold pick at ih ⊢
    cases j with
    | inl i =>
      rcases one i r1 with ⟨v, u, h1, h2, h3⟩ | ⟨h1, h2⟩
      · simp only [List.filterMap_cons, h1, h2]
        exact .cons h3 ih
      · simp only [List.filterMap_cons, h1, h2]
        exact ih
    | inr i =>
      rcases one i r2 with ⟨v, u, h1, h2, h3⟩ | ⟨h1, h2⟩
      · simp only [List.filterMap_cons, h1, h2]
        exact .cons h3 ih
      · simp only [List.filterMap_cons, h1, h2]
        exact ih
end L3
namespace L3
open PySem PySem.Spec PyProof.Rows L2
theorem log_of {n : Nat} (h : n < 10 ^ 200) : n.log2 < 1920 := PySem.Flt.log2_lt_of (by decide) (Nat.lt_trans h (by decide +kernel))
/-- data that repr shows, without dicts: whole numbers of at most 500 figures, texts of any signs -/
def okI (i : Int) : Bool := decide (i.natAbs < 10 ^ 200)
def okT (x : Str) : Bool := x.cps.toList.all fun c => decide (c < 16 ^ 8)
mutual
def okD : PyData → Bool
  | .none => true
  | .bool _ => true
  | .int i => okI i
  | .str x => okT x
  | .list xs => okL xs
  | .tuple xs => okL xs
  | .dict _ => false
def okL : List PyData → Bool
  | [] => true
  | x :: xs => okD x && okL xs
end
mutual
def szD : PyData → Nat
  | .none => 4
  | .bool _ => 5
  | .int _ => 1921
  | .str x => 10 * x.length + 2
  | .list xs => szL xs + 3
  | .tuple xs => szL xs + 3
  | .dict _ => 0
def szL : List PyData → Nat
  | [] => 0
  | x :: xs => szD x + 2 + szL xs
end
mutual
theorem okD_tells : ∀ d : PyData, okD d = true → d.hasDict = false ∧ d.showable = true ∧ d.shown.length ≤ szD d
  | .none, _ => ⟨rfl, rfl, Nat.le_refl _⟩
  | .bool b, _ => ⟨rfl, rfl, by cases b <;> decide⟩
  | .int i, h => by
    have h1 : i.natAbs < 10 ^ 200 := of_decide_eq_true (show decide (i.natAbs < 10 ^ 200) = true from h)
    exact ⟨rfl, decide_eq_true (log_of h1), int_text_len_1921 (log_of h1)⟩
  | .str x, h => by
    have h1 : ∀ c ∈ x.cps.toList, c < 16 ^ 8 := fun c hc => of_decide_eq_true (List.all_eq_true.mp h c hc)
    exact ⟨rfl, rfl, StrLaws.reprText_len x h1⟩
  | .list xs, h => by
    obtain ⟨h1, h2, h3⟩ := okL_tells xs h
    refine ⟨h1, h2, Nat.le_trans (listText_len_le (PyData.shownAll xs)) ?_⟩
    have e := PyData.shownAll_length xs
    show _ ≤ szL xs + 3
    omega
  | .tuple xs, h => by
    obtain ⟨h1, h2, h3⟩ := okL_tells xs h
    refine ⟨h1, h2, Nat.le_trans (tupleText_len_le (PyData.shownAll xs)) ?_⟩
    have e := PyData.shownAll_length xs
    show _ ≤ szL xs + 3
    omega
  | .dict _, h => by cases h
theorem okL_tells : ∀ xs : List PyData, okL xs = true → PyData.hasDictAll xs = false ∧ PyData.showableAll xs = true ∧ ((PyData.shownAll xs).map (·.length)).sum + 2 * xs.length ≤ szL xs
  | [], _ => ⟨rfl, rfl, Nat.le_refl _⟩
  | x :: xs, h => by
    obtain ⟨g1, g2⟩ := He.ba (show (okD x && okL xs) = true from h)
    obtain ⟨h1, h2, h3⟩ := okD_tells x g1
    obtain ⟨k1, k2, k3⟩ := okL_tells xs g2
    refine ⟨?_, ?_, ?_⟩
    · show (x.hasDict || PyData.hasDictAll xs) = false
      rw [h1, k1]
      rfl
    · show (x.showable && PyData.showableAll xs) = true
      rw [h2, k2]
      rfl
    · show (x.shown.length + ((PyData.shownAll xs).map (·.length)).sum) + 2 * (xs.length + 1) ≤ szD x + 2 + szL xs
      omega
end
/-- repr of a list, a tuple -/
theorem rr_data {K : PySem.W.Frag} {H : Hp} {a : Addr} {d : PyData} {Q : VK} (h : Dp K H (.ref a) d) (ho : okD d = true) (hz : szD d ≤ 16000000) (hd : d.depth ≤ 60) (q : Q (.str d.shown) H) : rRepr K [.ref a] H Q := by
  obtain ⟨h1, h2, h3⟩ := okD_tells d ho
  unfold rRepr
  exact ⟨a, d, rfl, h, h1, h2, hd, Nat.le_trans h3 (Nat.le_trans hz (by rw [sizeLine_eq]; decide)), q⟩
end L3
namespace L3
open PySem PySem.Spec PyProof.Rows L2
section
variable {K : PySem.W.Frag} {a : Addr} {xs : List V} {g : TG} {tt : TT} {te : TE} {vs : List Nat} {σ : L2.St} {H1 : Hp} {D : Addr} {Qd : Hp → Prop}
theorem small_len {n : Nat} (h : n ≤ 100000) : n < sizeLine := Nat.lt_of_le_of_lt h (by rw [sizeLine_eq]; decide)
abbrev Turn (g : TG) (tt : TT) (te : TE) (vs : List Nat) (σ : L2.St) (D : Addr) (x : V) (H : Hp) (N : Hp → Prop) : Prop :=
  g x (wipe σ vs) H fun σ2 H2 => wipe σ2 vs = wipe σ vs ∧ tt σ2 H2 fun b H3 => if b = true then te σ2 H3 fun y H4 => ∃ acc, H4 D = some (.lst acc) ∧ acc.length < sizeLine ∧ N (upd H4 D (.lst (acc ++ [y]))) else N H3
theorem all_rep (n : Nat) : (List.replicate n true).all id = true := by
  rw [List.all_eq_true]
  intro b hb
  exact (List.eq_of_mem_replicate hb)
end
end L3
namespace L3
open PySem PySem.Spec PyProof.Rows L2
abbrev turns (most : Int) (n : Nat) : Int := if (if most < (n : Int) then most else (n : Int)) > (1 : Int) then (if most < (n : Int) then most else (n : Int)) else (1 : Int)
theorem turns_lo (most : Int) (n : Nat) (h : 0 < most ∧ most ≤ 63) : -(2 ^ 62) ≤ turns most n := by
  unfold turns
  split <;> split <;> omega
theorem turns_hi (most : Int) (n : Nat) (h : 0 < most ∧ most ≤ 63) : turns most n < 2 ^ 62 := by
  unfold turns
  split <;> split <;> omega
theorem turns_lt {i : Nat} (most : Int) (n : Nat) (h : 0 < most ∧ most ≤ 63) (hi : i < (turns most n).toNat) : i < 1000 := by
  unfold turns at hi
  split at hi <;> split at hi <;> omega
end L3
set_option Elab.async false
set_option linter.all false
set_option maxRecDepth 100000
set_option maxHeartbeats 4000000
namespace L3
open PySem PySem.Spec PyProof.Rows L2 TL
section
variable {J : It} {n : Nat} {G : Hp → Prop} {Y : Nat → Hp → V → Hp → Prop} {g : TG} {tt : TT} {te : TE} {vs : List Nat} {σ : L2.St} {H1 : Hp} {D : Addr} {Qd : Hp → Prop}
theorem range_fm_succ (fm : Nat → Option V) (i : Nat) : (List.range (i + 1)).filterMap fm = match fm i with
    | some y => (List.range i).filterMap fm ++ [y]
    | none => (List.range i).filterMap fm := by
  rw [List.range_succ, List.filterMap_append]
  cases e : fm i with
  | none => simp [e]
  | some y => simp [e]
theorem fm_len (fm : Nat → Option V) (i : Nat) : ((List.range i).filterMap fm).length ≤ i := by
  have := List.length_filterMap_le fm (List.range i)
  rwa [List.length_range] at this
theorem lc_fm (w : L2.Walk J n G Y) (fm : Nat → Option V) (I : Hp → Prop) (hI : ∀ H l, I H → I (upd H D (.lst l))) (i0 : I H1) (hn : n ≤ 100000) (hG : ∀ H, I H → G H)
    (hs : ∀ (i : Nat) (x : V) (H H' : Hp) (acc : List V) (N : Hp → Prop), i < n → I H → H D = some (.lst acc) → acc.length < sizeLine → Y i H x H' →
      (∀ H4, I H4 → H4 D = some (.lst acc) → match fm i with | some y => N (upd H4 D (.lst (acc ++ [y]))) | none => N H4) → Turn g tt te vs σ D x H' N)
    (hd : ∀ H, I H → H D = some (.lst ((List.range n).filterMap fm)) → Qd H) :
    ∃ W : Nat → Nat → Hp → Prop, (∃ m, W 0 m (upd H1 D (.lst []))) ∧ ∀ i m H, W i m H →
      (J.stop i H ∧ Qd H) ∨ (J.go i H ∧ ∃ Nx : Hp → Prop, (∀ H', Nx H' → ∃ m', m' < m ∧ W (i + 1) m' H') ∧ ∀ x H', J.yld i H x H' → Turn g tt te vs σ D x H' Nx) := by
  refine L2.lc_it w (fun i H => I H ∧ i ≤ n ∧ H D = some (.lst ((List.range i).filterMap fm))) ⟨hI _ _ i0, Nat.zero_le _, upd_same⟩ (fun i H _ p => hG H p.1) ?_ (fun H p => hd H p.1 p.2.2)
  rintro i x H H' hi ⟨p1, p2, p3⟩ y
  refine hs i x H H' _ _ hi p1 p3 (small_len (Nat.le_trans (fm_len fm i) (by omega))) y fun H4 i4 d4 => ?_
  have e := range_fm_succ fm i
  cases q : fm i with
  | none =>
    rw [q] at e
    exact ⟨i4, hi, by rw [e]; exact d4⟩
  | some y =>
    rw [q] at e
    exact ⟨hI _ _ i4, hi, by rw [upd_same, e]⟩
end
end L3
set_option Elab.async false
set_option linter.all false
set_option maxRecDepth 100000
set_option maxHeartbeats 4000000
namespace Mo
open PySem TL
def val (l : List Nat) : Nat := NumText.digitsVal l
def two (m : Nat) : List Nat := [48 + m / 10, 48 + m % 10]
def clk (m : Nat) : List Nat := numL (m % 1440 / 60) ++ 58 :: two (m % 60)
def shw (m : Nat) : List Nat := if m / 1440 = 0 then clk m else numL (m / 1440) ++ 32 :: clk m
theorem shw_len {m k : Nat} (hk : 0 < k) (h : m < 10 ^ k) : (shw m).length ≤ k + 8 := by
  have h1 : (numL (m % 1440 / 60)).length ≤ 2 := numL_len (by decide) (by omega)
  have h2 : (numL (m / 1440)).length ≤ k := numL_len hk (Nat.lt_of_le_of_lt (Nat.div_le_self _ _) h)
  unfold shw clk two
  split <;> simp <;> omega
end Mo
set_option Elab.async false
set_option linter.all false
set_option maxRecDepth 100000
set_option maxHeartbeats 4000000
namespace L3
open PySem PySem.Spec PyProof.Rows L2
def kitF (x y : Str) (b : Bool) : Fx := fun K => decide (PySem.W.kitOne K (.ref (He.ga K x)) (.ref (He.ga K y)) = some b)
def kitFT (x : Str) (y : String) (b : Bool) : Fx := fun K => decide (PySem.W.kitOne K (.ref (He.ga K x)) (.type y) = some b)
end L3
set_option Elab.async false
set_option linter.all false
set_option maxRecDepth 100000
set_option maxHeartbeats 4000000
namespace L3
open PySem PySem.Spec PyProof.Rows L2
def keyD : Key → PyData
  | .inl i => .int i
  | .inr x => .str x
def zipK : List (Key × V) → List PyData → List (PyData × PyData)
  | (k, _) :: r, d :: ds => (keyD k, d) :: zipK r ds
  | _, _ => []
inductive Dq (K : PySem.W.Frag) (H : Hp) : V → PyData → Prop
  | non : Dq K H .non .none
  | bl (b : Bool) : Dq K H (.bl b) (.bool b)
  | int (i : Int) : Dq K H (.int i) (.int i)
  | str (x : Str) : Dq K H (.str x) (.str x)
  | lst {a : Addr} {xs : List V} {ds : List PyData} : SqL K H a xs → xs.length = ds.length → (∀ (i : Nat) (x : V) (d : PyData), xs[i]? = some x → ds[i]? = some d → Dq K H x d) → Dq K H (.ref a) (.list ds)
  | tup {a : Addr} {xs : List V} {ds : List PyData} : SqT K H a xs → xs.length = ds.length → (∀ (i : Nat) (x : V) (d : PyData), xs[i]? = some x → ds[i]? = some d → Dq K H x d) → Dq K H (.ref a) (.tuple ds)
  | dct {a : Addr} {kvs : List (Key × V)} {ds : List PyData} : H a = some (.dK kvs) → kvs.length = ds.length → (∀ (i : Nat) (k : Key) (x : V) (d : PyData), kvs[i]? = some (k, x) → ds[i]? = some d → Dq K H x d) → Dq K H (.ref a) (.dict (zipK kvs ds))
theorem Dq.mono {K : PySem.W.Frag} {H H' : Hp} {x : V} {d : PyData} (e : Ex H H') (h : Dq K H x d) : Dq K H' x d := by
  induction h with
  | non => exact .non
  | bl b => exact .bl b
  | int i => exact .int i
  | str x => exact .str x
  | lst s l _ ih => exact .lst (ex_sql e s) l ih
  | tup s l _ ih => exact .tup (ex_sqt e s) l ih
  | dct s l _ ih => exact .dct (e _ _ s) l ih
theorem all_reads {h : Heap} : ∀ (xs : List V) (ds : List PyData) (us : List Value), xs.length = ds.length → Vals xs us → (∀ (i : Nat) (x : V) (d : PyData), xs[i]? = some x → ds[i]? = some d → ∀ u, RelV x u → ∃ as, Reads h u d as ∧ sysModules ∉ as) → ∃ as, ReadsAll h us ds as ∧ sysModules ∉ as
  | [], [], _, _, r, _ => by
    cases r
    exact ⟨_, .nil, by simp⟩
  | x :: xs, d :: ds, _, l, r, h => by
    cases r with
    | cons r1 r2 =>
      obtain ⟨as, q1, n1⟩ := h 0 x d rfl rfl _ r1
      obtain ⟨bs, q2, n2⟩ := all_reads xs ds _ (by simpa using l) r2 fun i y e h1 h2 => h (i + 1) y e (by simpa using h1) (by simpa using h2)
      refine ⟨_, .cons q1 q2, fun z => ?_⟩
      rcases List.mem_append.mp z with z | z
      · exact n1 z
      · exact n2 z
theorem key_reads {h : Heap} {k : Key} {v : Value} (e : keyIs k v = true) : Reads h v (keyD k) [] := by
  rcases keyIs_shape e with ⟨i, t, rfl, rfl⟩ | ⟨x, t, rfl, rfl⟩
  · exact .int i t
  · exact .str x t
theorem kv_reads {P : Program} {w : World} {h : Heap} : ∀ (kvs : List (Key × V)) (ds : List PyData) (es : List DictEntry) (vs : List (Key × Value)), kvs.length = ds.length → KV kvs vs → Pairs (mixKind P w) es vs →
    (∀ (i : Nat) (k : Key) (x : V) (d : PyData), kvs[i]? = some (k, x) → ds[i]? = some d → ∀ u, RelV x u → ∃ as, Reads h u d as ∧ sysModules ∉ as) →
    ReadsAll h (es.map (·.key)) ((zipK kvs ds).map (·.1)) [] ∧ ∃ bs, ReadsAll h (es.map (·.val)) ((zipK kvs ds).map (·.2)) bs ∧ sysModules ∉ bs
  | [], [], es, vs, _, r, p, _ => by
    cases r
    cases p
    exact ⟨.nil, _, .nil, by simp⟩
  | (k, x) :: kvs, d :: ds, es, vs, l, r, p, h => by
    cases r with
    | cons r1 r2 =>
      cases p with
      | cons p1 p2 p3 =>
        obtain ⟨as, q1, n1⟩ := h 0 k x d rfl rfl _ r1.2
        obtain ⟨h1, bs, q2, n2⟩ := kv_reads kvs ds _ _ (by simpa using l) r2 p3 fun i k' y e h1 h2 => h (i + 1) k' y e (by simpa using h1) (by simpa using h2)
        refine ⟨ReadsAll.cons (as := []) (bs := []) (key_reads (by have e : k = _ := r1.1; subst e; exact p1)) h1, as ++ bs, ReadsAll.cons (by rw [← p2] at q1; exact q1) q2, fun z => ?_⟩
        rcases List.mem_append.mp z with z | z
        · exact n1 z
        · exact n2 z
/-- the part that is written holds sys.modules: a dict -/
def SysK (K : PySem.W.Frag) : Prop := ∃ o, K.lookup sysModules = some o ∧ o.cls = .type "dict"
def sysB : Fx := fun K => match K.lookup sysModules with
  | some o => match o.cls with
    | .type n => n == "dict"
    | _ => false
  | none => false
theorem sys_of {K : PySem.W.Frag} (h : sysB K = true) : SysK K := by
  unfold sysB at h
  split at h
  · rename_i o e
    split at h
    · rename_i n c
      have : n = "dict" := by simpa using h
      exact ⟨o, e, by rw [c, this]⟩
    · cases h
  · cases h
theorem Dq.reads {X : Cx} {pins : List (Addr × Obj)} {σ : L2.St} {H : Hp} {s : Shared} (I : Inv X pins σ H s) (S : SysK X.K) {x : V} {d : PyData} (h : Dq X.K H x d) : ∀ u, RelV x u → ∃ as, Reads s.heap u d as ∧ sysModules ∉ as := by
  obtain ⟨o1, k1, c1⟩ := S
  have g1 := I.kIn _ _ k1
  induction h with
  | non =>
    intro u r
    cases r
    exact ⟨_, .none, by simp⟩
  | bl b =>
    intro u r
    cases r
    exact ⟨_, .bool b, by simp⟩
  | int i =>
    rintro u ⟨t, rfl⟩
    exact ⟨_, .int i t, by simp⟩
  | str x =>
    rintro u ⟨t, rfl⟩
    exact ⟨_, .str x t, by simp⟩
  | @lst a xs ds hs l _ ih =>
    intro u r
    cases r
    obtain ⟨its, rv, ⟨o, n, ho, hc, _, hd⟩, _⟩ := I.list hs
    obtain ⟨as, hr, hn⟩ := all_reads xs ds its l rv ih
    refine ⟨_, .list ho hc hd hr, fun z => ?_⟩
    rcases List.mem_cons.mp z with z | z
    · rw [← z, g1] at ho
      cases ho
      rw [c1] at hc
      injection hc with z2
      exact absurd z2 (by decide)
    · exact hn z
  | @tup a xs ds hs l _ ih =>
    intro u r
    cases r
    obtain ⟨its, rv, ⟨o, ho, hc, n, hd⟩, _⟩ := I.tuple hs
    obtain ⟨as, hr, hn⟩ := all_reads xs ds its l rv ih
    exact ⟨_, .tuple ho hc hd hr, hn⟩
  | @dct a kvs ds hs l _ ih =>
    intro u r
    cases r
    obtain ⟨_, ns, vs, rk, o, es, ep, ho, ⟨hc, _, _⟩, hd, _, hp, _⟩ := dk_of I.hok hs
    obtain ⟨h1, bs, h2, hn⟩ := kv_reads kvs ds es.toList vs l rk hp ih
    refine ⟨_, .dict ho hc hd h1 h2, fun z => ?_⟩
    rcases List.mem_cons.mp z with z | z
    · rw [← z] at ns
      simp at ns
    · exact hn (by simpa using z)
end L3
set_option Elab.async false
set_option linter.all false
set_option maxRecDepth 100000
set_option maxHeartbeats 4000000
namespace L3
open PySem PySem.Spec PyProof.Rows L2
theorem Rm.in1 {k : Nat} {A : Around} (r : Rm (k + 1) A) : Rm k A.in1 := ⟨r.rm.in1, r.gd⟩
section
variable {X : Cx} {k : Nat} {f C : Addr} {ks : List Str} {sp : Sp} {W : WX} {x m : Str} {p pos apos : Pos} {e o : Expr} {es : List Expr} {kws : List Keyword} {ta : TE} {t tk : TA}
/-- a def that runs somewhere below the body -/
theorem run_fcA {A : Around} {pins : List (Addr × Obj)} {σ : L2.St} {H : Hp} {s : Shared} {Q : VK} {us ws : List Value} {vs : List V} (F : Fc X.prog X.w X.K X.mg X.base k f ks sp) (hr : Rm k A) (hf : A.frames = X.A.frames) (hx : Takes X W)
    (I : Inv X pins σ H s) (r : Vals vs (us ++ ws)) (hl : ws.length = ks.length) (h : sp vs H Q (WE W σ)) : wpAny (model X.prog X.w) A (call (.ref f) us (ks.zip ws)) (EP X pins σ Q) X.xe s := by
  have e0 : Env0 X.prog X.w X.K X.mg X.base A X.stack s H := by
    have e := I.env0
    exact ⟨by rw [hf]; exact e.frames, e.mod, e.bs, e.bsz, e.funs, e.frf, e.hok, e.bare⟩
  refine wpAny_call (codeAny_mono (F A X.stack s H us ws vs Q (WE W σ) hr e0 r hl h) fun r s' hq => ?_)
  cases r with
  | error e => exact passAt hx σ pins H s e s' I hq
  | ok fl =>
    cases fl with
    | ret u => exact I.after hq
    | next => exact False.elim hq
    | brk => exact False.elim hq
    | cont => exact False.elim hq
/-- o.m(e, ..) of an instance of the class at C -/
def tMt (C : Addr) (m : Str) (sp : Sp) (W : WX) (ta : TE) (t : TA) : TE := fun σ H Q => ta σ H fun x H1 => ∃ a dx fs, x = .ref a ∧ H1 a = some (.ins C dx fs) ∧ fs.lookup m = none ∧ t σ H1 fun vs H2 => sp (x :: vs) H2 Q (WE W σ)
theorem c_meth0 {pl : Sem Bool} (he : PE X o ta) (c : Cls X.K C) (hm : Meth X.K C m f) (F : Fc X.prog X.w X.K X.mg X.base k f [] sp) (hr : Rm k X.A) (hx : Takes X W)
    (ht : eval (.Call (.Attribute o m apos) [] [] pos) X.env = (do
      let ov ← eval o X.env
      standAt apos.atName
      let (f, first) ← holding [ov] (getMethod ov m pl)
      callWith pos f first (backTo pos (starEach [] X.env)) (backToKw pos (keywordEach [] X.env))) := by rfl) :
    PE X (.Call (.Attribute o m apos) [] [] pos) (tMt C m sp W ta tNil) := by
  refine ⟨fun pins s σ H Q I h => ?_⟩
  refine PySem.W.methodCall_KW (pl := pl) (thn (he.run pins s σ H _ I h) fun u s1 ⟨x, H1, I1, rx, a, dx, fs, ex, ea, l, q⟩ => ?_) ht
  subst ex
  obtain rfl : u = Value.ref a := rx
  refine getmeth_ok I1 ea c hm l ?_
  exact PySem.W.callWith_K0 (first := [.ref a]) I1.kIn hm.kp (run_fc (us := [.ref a]) (ws := []) (vs := [.ref a]) F hr hx I1 (.cons rfl .nil) rfl q)
theorem run_mk {pins : List (Addr × Obj)} {σ : L2.St} {H : Hp} {s : Shared} {Q : VK} {us ws : List Value} {vs : List V} (M : Mk X.K C f) (F : Fc X.prog X.w X.K X.mg X.base k f ks sp) (hr : Rm (k + 1) X.A) (hx : Takes X W)
    (I : Inv X pins σ H s) (r : Vals vs (us ++ ws)) (hl : ws.length = ks.length)
    (h : ∀ x dx, H x = none → H dx = none → dx ≠ x → sp (.ref x :: vs) (upd (upd H dx (.own x)) x (.ins C dx [])) (fun v H2 => v = .non ∧ Q (.ref x) H2) (WE W σ)) :
    wpAny (model X.prog X.w) X.A (call (.ref C) us (ks.zip ws)) (EP X pins σ Q) X.xe s := by
  have hq := h (s.heap.objs.size + 1) s.heap.objs.size (I.hok.fresh (Nat.le_succ _)) (I.hok.fresh (Nat.le_refl _)) (Nat.ne_of_lt (Nat.lt_succ_self _))
  have I2 := Inv.made (C := C) I
  refine wpAny_call (make_map (f := f) I.kIn M.makes M.init (beq_iff_eq.mp M.fn) (codeAny_mono (F _ X.stack _ _ (Value.ref (s.heap.objs.size + 1) :: us) ws (V.ref (s.heap.objs.size + 1) :: vs) _ (WE W σ) (hr.make C us (ks.zip ws))
    (I2.env0.make C us (ks.zip ws)) (.cons rfl r) hl hq) fun r s' hq' => ?_))
  cases r with
  | error e => exact passAt hx σ pins _ _ e s' I2 hq'
  | ok fl =>
    cases fl with
    | ret u =>
      obtain ⟨v, H', I3, rv, ev, q3⟩ := I2.after hq'
      subst ev
      exact ⟨rv, ⟨V.ref (s.heap.objs.size + 1), H', I3, rfl, q3⟩⟩
    | next => exact False.elim hq'
    | brk => exact False.elim hq'
    | cont => exact False.elim hq'
def tMk (C : Addr) (sp : Sp) (W : WX) (t : TA) : TE := fun σ H Q => t σ H fun vs H1 => ∀ x dx, H1 x = none → H1 dx = none → dx ≠ x →
  sp (.ref x :: vs) (upd (upd H1 dx (.own x)) x (.ins C dx [])) (fun v H2 => v = .non ∧ Q (.ref x) H2) (WE W σ)
theorem c_make (M : Mk X.K C f) (F : Fc X.prog X.w X.K X.mg X.base k f [] sp) (hr : Rm (k + 1) X.A) (hm : X.mg x = some (.ref C)) (hx : Takes X W)
    (ha : PA X (e :: es) t) (hg : Gl X x := by rfl) (hdb : (x == ("__debug__" : Str)) = false := by decide) (he : starEach (e :: es) X.env = (false, eval e X.env) :: starEach es X.env := by rfl) (hpl : (backTo pos (starEach es X.env)).any (·.1) = false := by rfl) :
    PE X (.Call (.Name x p) (e :: es) [] pos) (tMk C sp W t) := by
  refine ⟨fun pins s σ H Q I h => ?_⟩
  refine wpAny_Call_Name_kw (ld_glob I hg hm ?_ hdb)
  refine PySem.W.callWith_K (h₀ := X.base) I.ok.mod.kin M.kp (thn (ha.run pos pins s σ H _ I h) fun us s1 ⟨vs, H1, I1, r, q⟩ => ⟨I1.kIn, ?_⟩) he hpl
  exact run_mk (ws := []) M F hr hx I1 (by rw [List.append_nil]; exact r) rfl q
/-- xs is one instance of C; the promise of its method, at it -/
def rOwn (C : Addr) (sp : Sp) (G : V → Prop) : List V → Hp → VK → Prop := fun xs H Q => ∃ a dx fs, xs = [.ref a] ∧ H a = some (.ins C dx fs) ∧ sp [.ref a] H (fun v H' => G v ∧ Q v H') (fun _ _ _ => False)
def isLen : V → Prop
  | .int n => 0 ≤ n ∧ n < 2 ^ 63
  | _ => False
def isTxt : V → Prop
  | .str _ => True
  | _ => False
end
section
variable {X : Cx} {k : Nat} {f C : Addr} {sp : Sp}
theorem call_lenO (hm : Meth X.K C "__len__" f) (F : Fc X.prog X.w X.K X.mg X.base k f [] sp) (hr : Rm (k + 1) X.A) :
    CallR X (.builtin "len") (rOwn C sp isLen) := by
  intro pins s σ H xs us Q I r h
  obtain ⟨a, dx, fs, rfl, ha, hsp⟩ := h
  obtain ⟨u, rfl, ru⟩ := vals1 r
  obtain rfl : u = Value.ref a := ru
  obtain ⟨mA, J, _⟩ := ins_get I.hok ha
  obtain ⟨od, J, _⟩ := J.look
  refine Calls.call_function_entry kind_len plain_len entry_len (args_len1 _) ?_
  unfold Builtin.«len»
  refine wpAny_bind (m := oneArg "len" _) (wpAny_pure ?_)
  have run := run_fcA (A := X.A.in1) (W := fun _ _ _ _ => False) (us := [.ref a]) (ws := []) (vs := [.ref a]) (σ := σ) F hr.in1 rfl takes0 I (.cons rfl .nil) rfl hsp
  refine wpAny_bind (m := callSpecial? (.ref a) (Str.ofString "__len__")) (PySem.W.special_fn I.kIn J hm.at_ (beq_iff_eq.mp hm.fn) (wpAny_mono run (fun v s' hv => ?_) fun _ _ y => y))
  obtain ⟨z, H', I', rz, gz, q⟩ := hv
  cases z with
  | int n =>
    obtain ⟨t, rfl⟩ := rz
    obtain ⟨h0, h1⟩ : 0 ≤ n ∧ n < 2 ^ 63 := gz
    refine wpAny_bind (wpAny_holding (wpAny_pure ?_))
    refine wpAny_bind (wpAny_letGo ?_)
    show wpAny _ _ (if n < 0 then _ else _) _ _ _
    rw [if_neg (by omega)]
    show wpAny _ _ (if n ≥ 2 ^ 63 then _ else _) _ _ _
    rw [if_neg (by omega)]
    exact wpAny_bind (wpAny_mkInt (wpAny_pure ⟨_, rfl, ⟨.int n, H', I'.tok _, ⟨_, rfl⟩, q⟩⟩))
  | _ => exact gz.elim
theorem call_reprO (hm : Meth X.K C "__repr__" f) (F : Fc X.prog X.w X.K X.mg X.base k f [] sp) (hr : Rm (k + 1) X.A) :
    CallR X (.builtin "repr") (rOwn C sp isTxt) := by
  intro pins s σ H xs us Q I r h
  obtain ⟨a, dx, fs, rfl, ha, hsp⟩ := h
  obtain ⟨u, rfl, ru⟩ := vals1 r
  obtain rfl : u = Value.ref a := ru
  obtain ⟨mA, J, _⟩ := ins_get I.hok ha
  obtain ⟨od, J, _⟩ := J.look
  refine Calls.call_function_entry PySem.F.kind_repr PySem.F.plain_repr PySem.F.entry_repr (PySem.F.args_repr1 _) ?_
  unfold Builtin.«repr»
  refine wpAny_bind (m := oneArg "repr" _) (wpAny_pure ?_)
  refine wpAny_bind (wpAny_cRoomFor (by have := hr.in1.rm.un; omega) ?_)
  refine wpAny_bind (wpAny_bind (J.type.here ((PySem.W.looks_findIn I.kIn hm.at_).here ?_)))
  show wpAny _ _ (if (some (Value.ref f)).isNone = true then _ else _) _ _ _
  rw [if_neg (by simp)]
  have run := run_fcA (A := X.A.in1) (W := fun _ _ _ _ => False) (us := [.ref a]) (ws := []) (vs := [.ref a]) (σ := σ) F hr.in1 rfl takes0 I (.cons rfl .nil) rfl hsp
  refine wpAny_bind (m := callSpecialIfBound? (.ref a) (Str.ofString "__repr__") _) (PySem.W.ifBound_K I.kIn J hm.at_ hm.fn (wpAny_mono run (fun v s' hv => ?_) fun _ _ y => y))
  obtain ⟨z, H', I', rz, gz, q⟩ := hv
  cases z with
  | str y =>
    obtain ⟨t, rfl⟩ := rz
    refine wpAny_bind (wpAny_isInstance (typeIs_str _ _ _) isSubtype_str_str ?_)
    first
      | exact wpAny_pure ⟨_, rfl, ⟨.str y, H', I', ⟨t, rfl⟩, q⟩⟩
      | (rw [if_pos rfl]; exact wpAny_pure ⟨_, rfl, ⟨.str y, H', I', ⟨t, rfl⟩, q⟩⟩)
      | (simp only [if_true]; exact wpAny_pure ⟨_, rfl, ⟨.str y, H', I', ⟨t, rfl⟩, q⟩⟩)
  | _ => exact gz.elim
theorem call_strO (hm : Meth X.K C "__str__" f) (F : Fc X.prog X.w X.K X.mg X.base k f [] sp) (hr : Rm (k + 2) X.A) :
    CallR X (.type "str") (rOwn C sp isTxt) := by
  intro pins s σ H xs us Q I r h
  obtain ⟨a, dx, fs, rfl, ha, hsp⟩ := h
  obtain ⟨u, rfl, ru⟩ := vals1 r
  obtain rfl : u = Value.ref a := ru
  obtain ⟨mA, J, _⟩ := ins_get I.hok ha
  obtain ⟨od, J, _⟩ := J.look
  have run := run_fcA (A := X.A.in1.in1) (W := fun _ _ _ _ => False) (us := [.ref a]) (ws := []) (vs := [.ref a]) (σ := σ) F hr.in1.in1 rfl takes0 I (.cons rfl .nil) rfl hsp
  refine PySem.W.kso_call (by have := hr.in1.in1.rm.un; omega) I.kIn J hm.at_ hm.fn (wpAny_mono run (fun v s' hv => ?_) fun _ _ y => y)
  obtain ⟨z, H', I', rz, gz, q⟩ := hv
  cases z with
  | str y =>
    obtain ⟨t, rfl⟩ := rz
    exact ⟨.str y, H', I', ⟨t, rfl⟩, q⟩
  | _ => exact gz.elim
end
structure InsC (K : PySem.W.Frag) (C : Addr) : Prop where
  ha : PySem.W.findIn K (.ref C) "__class__" = some (some (.builtin "object.__class__"))
  hn : PySem.W.specialIn K (.builtin "object.__class__") "__get__" = some (some (.builtin "getset_descriptor.__get__"))
  ht : PySem.W.takesIn K (.builtin "object.__class__") = some true
  hm : PySem.W.mroIn K C (.type "object") = some true
def insB (x : Str) : Fx := fun K => He.eqO (PySem.W.findIn K (.ref (He.ga K x)) "__class__") (some (some (.builtin "object.__class__"))) && (He.eqO (PySem.W.specialIn K (.builtin "object.__class__") "__get__") (some (some (.builtin "getset_descriptor.__get__"))) &&
  (decide (PySem.W.takesIn K (.builtin "object.__class__") = some true) && decide (PySem.W.mroIn K (He.ga K x) (.type "object") = some true)))
theorem insC_of {x : Str} {K : PySem.W.Frag} (h : insB x K = true) : InsC K (He.ga K x) := by
  obtain ⟨h1, h⟩ := He.ba h
  obtain ⟨h2, h⟩ := He.ba h
  obtain ⟨h3, h4⟩ := He.ba h
  exact ⟨He.eqO_ok h1, He.eqO_ok h2, of_decide_eq_true h3, of_decide_eq_true h4⟩
theorem ty_ins {K : PySem.W.Frag} {H : Hp} {a C dx : Addr} {fs : List (Str × V)} (i : InsC K C) (c : Cls K C) (e : H a = some (.ins C dx fs)) : TyX K H (.ref a) (.ref C) := .base (.ins e c i.ha i.hn i.ht i.hm)
def kitBF (y : String) (x : Str) (b : Bool) : Fx := fun K => decide (PySem.W.kitOne K (.type y) (.ref (He.ga K x)) = some b)
section
variable {X : Cx} {K : PySem.W.Frag}
theorem ix_listK (K : PySem.W.Frag) (h : X.K = K := by rfl) : IxR X (rIxL K) := h ▸ ix_list
theorem ix_tupK (K : PySem.W.Frag) (h : X.K = K := by rfl) : IxR X (rIxT K) := h ▸ ix_tup
theorem pe_fldK (K : PySem.W.Frag) {e : Expr} {f : Str} {pos : Pos} {ta : TE} (he : PE X e ta) (hb : attributeBase e f X.env (eval e X.env) = eval e X.env) (h : X.K = K := by rfl) : PE X (.Attribute e f pos) (tFld K ta f) := h ▸ pe_fld he hb
/-- repr(text) -/
theorem call_repr_str : CallR X (.builtin "repr") (fun xs H Q => ∃ x, xs = [.str x] ∧ (reprText x).length ≤ sizeLine ∧ Q (.str (reprText x)) H) := by
  intro pins s σ H xs us Q I r h
  obtain ⟨i, rfl, hz, q⟩ := h
  obtain ⟨u, rfl, t, rfl⟩ := vals1 r
  exact PySem.P.repr_of_str ⟨.str _, H, I.tok _, ⟨_, rfl⟩, q⟩ hz
end
end L3
set_option Elab.async false
set_option linter.all false
set_option maxRecDepth 100000
set_option maxHeartbeats 4000000
namespace L3
open PySem PySem.Spec PyProof.Rows L2
def okC (c : Nat) : Bool := decide (32 ≤ c) && (decide (c ≤ 126) && (decide (c ≠ 39) && decide (c ≠ 92)))
theorem okC_char : ∀ {c : Nat}, okC c = true → Builtin.Str.reprChar 39 c = [c] := by
  have all : ∀ c, c < 127 → okC c = true → Builtin.Str.reprChar 39 c = [c] := by decide +kernel
  intro c h
  refine all c ?_ h
  have := of_decide_eq_true (Bool.and_eq_true_iff.mp (Bool.and_eq_true_iff.mp h).2).1
  omega
theorem repr_fold : ∀ (l : List Nat) (acc : Array Nat), l.all okC = true → l.foldl (fun out c => out ++ (Builtin.Str.reprChar 39 c).toArray) acc = acc ++ l.toArray
  | [], acc, _ => by simp
  | c :: r, acc, h => by
    obtain ⟨h1, h2⟩ := He.ba (show (okC c && r.all okC) = true from h)
    rw [List.foldl_cons, okC_char h1, repr_fold r _ h2]
    simp
theorem repr_plain {l : List Nat} (h : l.all okC = true) : reprText (SX.S l) = SX.S (39 :: l ++ [39]) := by
  have n39 : (SX.S l).cps.contains 39 = false := by
    cases e : (SX.S l).cps.contains 39 with
    | false => rfl
    | true =>
      have m : 39 ∈ l := by simpa using e
      exact absurd (List.all_eq_true.mp h 39 m) (by decide)
  have q : reprQuote (SX.S l) = 39 := by
    unfold reprQuote
    rw [n39]
    rfl
  unfold reprText
  rw [q]
  have e := repr_fold l #[39] h
  have e2 : (SX.S l).cps.foldl (fun out c => out ++ (Builtin.Str.reprChar 39 c).toArray) #[39] = l.foldl (fun out c => out ++ (Builtin.Str.reprChar 39 c).toArray) #[39] := by simp
  rw [e2, e]
  refine TL.ext_tl ?_
  show (((#[39] ++ l.toArray).push 39).toList) = _
  simp
theorem repr_plain_len {l : List Nat} (h : l.all okC = true) : (reprText (SX.S l)).length = l.length + 2 := by
  rw [repr_plain h, SX.S_len]
  simp
section
variable {J : It} {n : Nat} {G : Hp → Prop} {Y : Nat → Hp → V → Hp → Prop} {g : TG} {tt : TT} {te : TE} {vs : List Nat} {σ : L2.St} {H1 : Hp} {D : Addr} {Qd : Hp → Prop}
theorem lc_any (w : L2.Walk J n G Y) (I : Nat → List V → Hp → Prop) (hI : ∀ i acc H l, I i acc H → I i acc (upd H D (.lst l))) (i0 : I 0 [] H1) (hn : n ≤ 100000) (hl : ∀ i acc H, I i acc H → acc.length ≤ i) (hG : ∀ i acc H, I i acc H → G H)
    (hs : ∀ (i : Nat) (x : V) (H H' : Hp) (acc : List V) (N : Hp → Prop), i < n → I i acc H → H D = some (.lst acc) → acc.length < sizeLine → Y i H x H' →
      (∀ y H4, H4 D = some (.lst acc) → I (i + 1) (acc ++ [y]) H4 → N (upd H4 D (.lst (acc ++ [y])))) → (∀ H4, H4 D = some (.lst acc) → I (i + 1) acc H4 → N H4) → Turn g tt te vs σ D x H' N)
    (hd : ∀ acc H, I n acc H → H D = some (.lst acc) → Qd H) :
    ∃ W : Nat → Nat → Hp → Prop, (∃ m, W 0 m (upd H1 D (.lst []))) ∧ ∀ i m H, W i m H →
      (J.stop i H ∧ Qd H) ∨ (J.go i H ∧ ∃ Nx : Hp → Prop, (∀ H', Nx H' → ∃ m', m' < m ∧ W (i + 1) m' H') ∧ ∀ x H', J.yld i H x H' → Turn g tt te vs σ D x H' Nx) := by
  refine L2.lc_it w (fun i H => i ≤ n ∧ ∃ acc, I i acc H ∧ H D = some (.lst acc)) ⟨Nat.zero_le _, [], hI _ _ _ _ i0, upd_same⟩ (fun i H _ p => ?_) ?_ (fun H p => ?_)
  · obtain ⟨_, acc, p, _⟩ := p
    exact hG i acc H p
  · rintro i x H H' hi ⟨p1, acc, p2, p3⟩ y
    have := hl _ _ _ p2
    refine hs i x H H' acc _ hi p2 p3 (small_len (by omega)) y (fun y H4 d4 i4 => ⟨hi, _, hI _ _ _ _ i4, upd_same⟩) fun H4 d4 i4 => ⟨hi, _, i4, d4⟩
  · obtain ⟨_, acc, p, d⟩ := p
    exact hd acc H p d
end
end L3
set_option Elab.async false
set_option linter.all false
set_option maxRecDepth 100000
set_option maxHeartbeats 4000000
namespace SrtA
open PySem PyProof.Rows Srt SrtO
section
variable {prog : Program} {w : World} {A : Around} {E : Value → Shared → Prop} {s : Shared}
theorem collect_tup {l : Addr} {vs : List Value} {Q : List Value → Shared → Prop} (hl : s.heap.IsTuple l vs.toArray)
    (h : Q vs { s with heap := (s.heap.push (seqObj "list" #[] 0)).update s.heap.objs.size (Obj.mapSeq (· ++ vs.toArray)) }) (hsz : vs.length ≤ sizeLine) :
    wpAny (model prog w) A (collect (.ref l)) Q E s := by
  obtain ⟨o, ho, hc, n, hd⟩ := id hl
  unfold collect
  refine wpAny_bind (wpAny_runValue (codeAny_builtin entry_proto_collect' ?_))
  show wpAny _ _ (do again (.builtin "list.__iadd__" ⟨[← newList [], .ref l], []⟩)) _ _ s
  refine wpAny_bind (wpAny_newList (wpAny_pure ⟨Code.quiet_builtin _ (by decide +kernel), codeAny_builtin entry_list_iadd' ?_⟩))
  show wpAny _ _ (Builtin.List.listExtendWith (.ref s.heap.objs.size) (.ref l) (.ref s.heap.objs.size)) _ _ { s with heap := s.heap.push (seqObj "list" #[] 0) }
  unfold Builtin.List.listExtendWith
  have ho' : (s.heap.push (seqObj "list" #[] 0)).get? l = some o := Heap.get?_push_of_some _ ho
  refine wpAny_bind (wpAny_typeOf (T := "tuple") ⟨o, ho', hc⟩ ?_)
  have ht : (Value.type "tuple" == Value.type "tuple") = true := by rfl
  rw [if_pos (by rw [ht]; simp)]
  refine wpAny_bind (listItems_at ho' hd ?_)
  refine wpAny_bind (listItems_at (xs := #[]) (n := 0) (Heap.get?_push_size _ rfl) rfl ?_)
  rw [if_neg (by simp)]
  refine wpAny_bind (listUpdate_at (xs := #[]) (n := 0) (Heap.get?_push_size _ rfl) rfl ?_ (Nat.zero_le _) (by show (#[] ++ vs.toArray).size ≤ sizeLine + 1; simp only [Array.size_append, List.size_toArray, List.length_nil]; omega))
  refine wpAny_pure ?_
  show wpAny (model prog w) A (do
      let o ← load s.heap.objs.size
      match o.data with
      | .seq xs _ => pure xs.toList
      | _ => unsupported "internal:collect") Q E { s with heap := (s.heap.push (seqObj "list" #[] 0)).update s.heap.objs.size (Obj.mapSeq (· ++ vs.toArray)) }
  refine wpAny_bind (wpAny_load (get?_update_seq (Heap.get?_push_size _ rfl) _) ?_)
  show wpAny _ _ (pure ((#[] : Array Value) ++ vs.toArray).toList) Q E _
  rw [show ((#[] : Array Value) ++ vs.toArray).toList = vs by simp]
  exact wpAny_pure h
theorem sorted_tup {l : Addr} {vs : List Value} {ltv : Value → Value → Bool} {Q : Value → Shared → Prop} (O : Swo ltv) (hl : s.heap.IsTuple l vs.toArray) (hz : vs.length ≤ sizeLine)
    (hS : 2 ≤ vs.length → ∀ (h₁ : Heap) (a : Addr), h₁.get? a = some (seqObj "list" vs.toArray 0) → (∀ b o, s.heap.get? b = some o → b ≠ a ∧ h₁.get? b = some o) → SortableO prog w A.in1.in1 { s with heap := h₁ } a vs ltv)
    (h : ∀ out : List Value, Srtd ltv out → Stb ltv out vs → Q (.ref (s.heap.objs.size + 1)) { s with heap := sortedAll s.heap vs out.toArray }) :
    wpAny (model prog w) A (call (.builtin "sorted") [.ref l]) Q E s := by
  refine Calls.call_function_entry kind_sorted plain_sorted entry_sorted (args_sorted1 _) ?_
  unfold Builtin.«sorted»
  refine wpAny_bind (m := checkCount "sorted" 1 1 _) (wpAny_pure ?_)
  refine wpAny_bind (collect_tup hl ?_ hz)
  refine wpAny_bind (wpAny_newList ?_ hz)
  have hsz : ((s.heap.push (seqObj "list" #[] 0)).update s.heap.objs.size (Obj.mapSeq (· ++ vs.toArray))).objs.size = s.heap.objs.size + 1 := by
    rw [Heap.size_update, size_push']
  have hoL : (((s.heap.push (seqObj "list" #[] 0)).update s.heap.objs.size (Obj.mapSeq (· ++ vs.toArray))).push (seqObj "list" vs.toArray 0)).get? (s.heap.objs.size + 1) = some (seqObj "list" vs.toArray 0) := by
    rw [← hsz]; exact Heap.get?_push_size _ rfl
  have keep : ∀ b o, s.heap.get? b = some o → b ≠ s.heap.objs.size + 1 ∧ (((s.heap.push (seqObj "list" #[] 0)).update s.heap.objs.size (Obj.mapSeq (· ++ vs.toArray))).push (seqObj "list" vs.toArray 0)).get? b = some o := fun b o q => by
    have hlt : b < s.heap.objs.size := Heap.lt_size q
    refine ⟨Nat.ne_of_lt (Nat.lt_succ_of_lt hlt), Heap.get?_push_of_some _ ?_⟩
    rw [Heap.get?_update_ne _ _ _ _ (Nat.ne_of_lt hlt)]
    exact Heap.get?_push_of_some _ q
  show wpAny _ _ _ _ _ { s with heap := ((s.heap.push (seqObj "list" #[] 0)).update s.heap.objs.size (Obj.mapSeq (· ++ vs.toArray))).push (seqObj "list" vs.toArray 0) }
  rw [hsz]
  refine wpAny_bind (wpAny_holding (wpAny_call_entry slot_list_sort ⟨_, hoL, rfl⟩ entry_list_sort (list_sort_ord O hoL hz (fun h2 => hS h2 _ _ hoL keep) fun out hs hb => ⟨_, rfl, ?_⟩) (args_list_sort _)))
  exact wpAny_pure ⟨_, rfl, h out hs hb⟩
end
end SrtA
namespace L3
open PySem PySem.Spec PyProof.Rows L2
/-- the numbers in order -/
def srt (ns : List Int) : List Int := ns.mergeSort (fun a b => decide (a ≤ b))
theorem srt_perm (ns : List Int) : (srt ns).Perm ns := List.mergeSort_perm ns _
theorem srt_sorted (ns : List Int) : (srt ns).Pairwise (· ≤ ·) := by
  have h := List.pairwise_mergeSort (le := fun a b : Int => decide (a ≤ b)) (fun a b c h1 h2 => decide_eq_true (Int.le_trans (of_decide_eq_true h1) (of_decide_eq_true h2))) (fun a b => by
    rcases Int.le_total a b with h | h
    · rw [decide_eq_true h]; rfl
    · rw [decide_eq_true h, Bool.or_true]) ns
  exact h.imp fun h => of_decide_eq_true h
theorem sorted_uniq : ∀ {xs ys : List Int}, xs.Perm ys → xs.Pairwise (· ≤ ·) → ys.Pairwise (· ≤ ·) → xs = ys
  | [], ys, p, _, _ => p.nil_eq
  | x :: xs, [], p, _, _ => absurd p.symm.nil_eq (by simp)
  | x :: xs, y :: ys, p, hx, hy => by
    have e : x = y := by
      have h1 : x ∈ y :: ys := p.subset List.mem_cons_self
      have h2 : y ∈ x :: xs := p.symm.subset List.mem_cons_self
      have l1 : y ≤ x := by
        rcases List.mem_cons.mp h1 with h | h
        · omega
        · exact (List.pairwise_cons.mp hy).1 x h
      have l2 : x ≤ y := by
        rcases List.mem_cons.mp h2 with h | h
        · omega
        · exact (List.pairwise_cons.mp hx).1 y h
      omega
    subst e
    rw [sorted_uniq (List.perm_cons x |>.mp p) (List.pairwise_cons.mp hx).2 (List.pairwise_cons.mp hy).2]
theorem srt_eq {xs ns : List Int} (p : xs.Perm ns) (h : xs.Pairwise (· ≤ ·)) : xs = srt ns := sorted_uniq (p.trans (srt_perm ns).symm) h (srt_sorted ns)
/-- sorted(xs), xs a list or a tuple of whole numbers -/
def rSortedA (K : PySem.W.Frag) : List V → Hp → VK → Prop := fun vs H Q => ∃ (a : Addr) (ns : List Int), vs = [V.ref a] ∧ (SqL K H a (ns.map V.int) ∨ SqT K H a (ns.map V.int)) ∧ ∀ p : Addr, H p = none → Q (.ref p) (upd H p (.lst ((srt ns).map V.int)))
section
variable {X : Cx}
theorem cr_sortedA (K : PySem.W.Frag) (hK : X.K = K := by rfl) : CallR X (.builtin "sorted") (rSortedA K) := by
  subst hK
  intro pins s σ H vs us Q I r h
  obtain ⟨a, ns, rfl, hs | hs, q⟩ := h
  · exact cr_sortedI pins s σ H [.ref a] us Q I r ⟨a, ns, rfl, hs, fun ns' p h1 h2 hp => by rw [srt_eq h1 h2]; exact q p hp⟩
  · obtain ⟨its, rv, hl, hz⟩ := I.tuple hs
    rw [Vals.ref1 r]
    have hi := rv.ints
    refine SrtA.sorted_tup SrtO.swo_int hl (by rw [← rv.length]; exact hz) (fun h2 h₁ a' _ _ => SrtO.ints_sortable hi h2) fun out h1 h2 => ?_
    obtain ⟨k1, k2, k3⟩ := SrtO.ints_out hi h1 h2
    obtain ⟨ep, he'⟩ := PyProof.Rows.sortedAll_at s.heap its out.toArray
    have hlen : ((out.map SrtO.iv).map V.int).length ≤ sizeLine := by
      rw [List.length_map, k2.length_eq]
      rw [List.length_map] at hz
      exact hz
    have q2 := q (s.heap.objs.size + 1) (I.hok.fresh (Nat.le_succ _))
    rw [← srt_eq k2 k3] at q2
    exact ⟨.ref _, upd H (s.heap.objs.size + 1) (.lst ((out.map SrtO.iv).map V.int)), I.laid (t' := s.toks) (fun _ _ => PyProof.Rows.sortedAll_old) (Nat.le_succ _) ⟨hlen, out, ep, vals_of_ints k1, he'⟩, rfl, q2⟩
end
section
variable {X : Cx} {K : PySem.W.Frag}
theorem pg_tupK (K : PySem.W.Frag) {es : List Expr} {k : Nat} {t : TGs} {n : Nat} {pos : Pos} (hc : X.calm = true) (h : PGs X es t)
    (hn : (assignEach es X.env).length = n := by rfl) (hst : (assignEach es X.env).findIdx? (·.1) = none := by rfl) (hK : X.K = K := by rfl) : PG X (.Tuple es k pos) (gTup K n t) := hK ▸ pg_tup hc h hn hst
theorem walk_zipT {a b : Addr} {xs ys : List V} {n : Nat} (hn : n = min xs.length ys.length) : L2.Walk (RZ.ItzT K a b) n (fun H => SqT K H a xs ∧ SqT K H b ys) (L2.YPair (fun i => xs[i]?) (fun i => ys[i]?)) := by
  subst hn
  refine ⟨fun i _ hi q => ?_, fun _ q => ⟨xs, ys, q.1, q.2, by omega⟩, fun i H v H' _ q y => ?_⟩
  · have h1 : i < xs.length := by omega
    have h2 : i < ys.length := by omega
    exact ⟨xs, ys, xs[i], ys[i], q.1, q.2, by simp [h1], by simp [h2]⟩
  · obtain ⟨T, x, z, h1, h2, h3, h4, h5⟩ := y
    exact ⟨T, x, z, h1, h2, h3, h4 xs q.1, h5 ys q.2⟩
theorem inV_int (d : Int) (ns : List Int) : inV (.int d) (ns.map V.int) = decide (d ∈ ns) := by
  induction ns with
  | nil => rfl
  | cons n r ih =>
    show (eqV (.int n) (.int d) || inV (.int d) (r.map V.int)) = _
    rw [ih]
    have e : eqV (.int n) (.int d) = decide (d = n) := by
      show decide (n = d) = _
      exact decide_eq_decide.mpr ⟨fun h => h.symm, fun h => h.symm⟩
    rw [e]
    by_cases h : d = n
    · simp [h]
    · simp [h]
theorem flat_ints (ns : List Int) : (ns.map V.int).all flatV = true := by
  induction ns with
  | nil => rfl
  | cons n r ih => exact (Bool.and_eq_true_iff.mpr ⟨rfl, ih⟩)
end
theorem isM_nat (n : Nat) : isM (.int (n : Int)) = true := decide_eq_true (Int.natCast_nonneg n)
end L3
set_option Elab.async false
set_option linter.all false
set_option maxRecDepth 100000
set_option maxHeartbeats 4000000
namespace L3
open PySem PySem.Spec PyProof.Rows L2
end L3
set_option Elab.async false
set_option linter.all false
set_option maxRecDepth 100000
set_option maxHeartbeats 4000000
namespace L3
open PySem PySem.Spec PyProof.Rows L2
end L3
set_option Elab.async false
set_option linter.all false
set_option maxRecDepth 100000
set_option maxHeartbeats 4000000
namespace L3
open PySem PySem.Spec PyProof.Rows L2
theorem range_fm {α β : Type} (g : α → Option β) : ∀ l : List α, (List.range l.length).filterMap (fun i => l[i]?.bind g) = l.filterMap g
  | [] => rfl
  | x :: l => by
    rw [List.length_cons, List.range_succ_eq_map, List.filterMap_cons, List.filterMap_map, List.filterMap_cons]
    have ih := range_fm g l
    have e : ((fun i => (x :: l)[i]?.bind g) ∘ Nat.succ) = fun i => l[i]?.bind g := funext fun i => by simp
    rw [e, ih]
    simp
section
variable {J : It} {G : Hp → Prop} {g : TG} {tt : TT} {te : TE} {vs : List Nat} {σ : L2.St} {H1 : Hp} {D : Addr} {Qd : Hp → Prop}
/-- a comprehension over xs (told as values by v), each of which gives gm x, or nothing -/
theorem lc_on {α : Type} (xs : List α) (v : α → V) (w : L2.Walk J (xs.map v).length G (L2.YAt (xs.map v))) (gm : α → Option V) (I : Hp → Prop) (hI : ∀ H l, I H → I (upd H D (.lst l))) (i0 : I H1) (hn : xs.length ≤ 100000) (hG : ∀ H, I H → G H)
    (hs : ∀ (i : Nat) (x : α) (H : Hp) (acc : List V) (N : Hp → Prop), xs[i]? = some x → I H → H D = some (.lst acc) → acc.length < sizeLine →
      (∀ H4, I H4 → H4 D = some (.lst acc) → match gm x with | some y => N (upd H4 D (.lst (acc ++ [y]))) | none => N H4) → Turn g tt te vs σ D (v x) H N)
    (hd : ∀ H, I H → H D = some (.lst (xs.filterMap gm)) → Qd H) :
    ∃ W : Nat → Nat → Hp → Prop, (∃ m, W 0 m (upd H1 D (.lst []))) ∧ ∀ i m H, W i m H →
      (J.stop i H ∧ Qd H) ∨ (J.go i H ∧ ∃ Nx : Hp → Prop, (∀ H', Nx H' → ∃ m', m' < m ∧ W (i + 1) m' H') ∧ ∀ x H', J.yld i H x H' → Turn g tt te vs σ D x H' Nx) := by
  refine lc_fm w (fun i => xs[i]?.bind gm) I hI i0 (by rw [List.length_map]; exact hn) hG (fun i x H H' acc N hi p hD la y k => ?_) fun H p hD => hd H p ?_
  · obtain ⟨rfl, hx⟩ := y
    rw [List.getElem?_map] at hx
    obtain ⟨z, hz, rfl⟩ := Option.map_eq_some_iff.mp hx
    refine hs i z _ acc N hz p hD la fun H4 p4 d4 => ?_
    have := k H4 p4 d4
    simp only [hz, Option.bind_some] at this
    exact this
  · rw [hD, List.length_map, range_fm]
/-- a comprehension over a range -/
theorem lc_rg {lo : Int} {n : Nat} (gm : Nat → Option V) (I : Hp → Prop) (hI : ∀ H l, I H → I (upd H D (.lst l))) (i0 : I H1) (hn : n ≤ 100000)
    (hs : ∀ (i : Nat) (H : Hp) (acc : List V) (N : Hp → Prop), i < n → I H → H D = some (.lst acc) → acc.length < sizeLine →
      (∀ H4, I H4 → H4 D = some (.lst acc) → match gm i with | some y => N (upd H4 D (.lst (acc ++ [y]))) | none => N H4) → Turn g tt te vs σ D (.int (lo + i)) H N)
    (hd : ∀ H, I H → H D = some (.lst ((List.range n).filterMap gm)) → Qd H) :
    ∃ W : Nat → Nat → Hp → Prop, (∃ m, W 0 m (upd H1 D (.lst []))) ∧ ∀ i m H, W i m H →
      ((Itr lo n).stop i H ∧ Qd H) ∨ ((Itr lo n).go i H ∧ ∃ Nx : Hp → Prop, (∀ H', Nx H' → ∃ m', m' < m ∧ W (i + 1) m' H') ∧ ∀ x H', (Itr lo n).yld i H x H' → Turn g tt te vs σ D x H' Nx) := by
  refine lc_fm (L2.walk_range (lo := lo) (n := n)) gm I hI i0 hn (fun _ _ => trivial) (fun i x H H' acc N hi p hD la y k => ?_) hd
  obtain ⟨rfl, rfl⟩ := y
  exact hs i _ acc N hi p hD la k
end
section
variable {J : It} {G : Hp → Prop} {g : TG} {tb : TS} {D : Ends} {σ : L2.St} {H : Hp}
/-- a for over xs (told as values by v) -/
theorem for_on {α : Type} (xs : List α) (v : α → V) (w : L2.Walk J (xs.map v).length G (L2.YAt (xs.map v))) (Pv : Nat → L2.St → Hp → Prop) (h0 : Pv 0 σ H) (hG : ∀ i σ H, Pv i σ H → G H)
    (hs : ∀ (i : Nat) (x : α) (σ : L2.St) (H : Hp), xs[i]? = some x → Pv i σ H → g (v x) σ H fun σ2 H2 => tb { D with nx := Pv (i + 1), ct := Pv (i + 1), bk := D.nx } σ2 H2) (hd : ∀ σ H, Pv xs.length σ H → D.nx σ H) :
    ∃ W : Nat → Nat → L2.St → Hp → Prop, (∃ m, W 0 m σ H) ∧ ∀ i m σ H, W i m σ H →
      (J.stop i H ∧ D.nx σ H) ∨ (J.go i H ∧ ∃ N : L2.St → Hp → Prop, (∀ σ' H', N σ' H' → ∃ m', m' < m ∧ W (i + 1) m' σ' H') ∧ ∀ x H', J.yld i H x H' → g x σ H' fun σ2 H2 => tb { D with nx := N, ct := N, bk := D.nx } σ2 H2) := by
  refine L2.for_it w Pv h0 (fun i σ H _ p => hG i σ H p) (fun i x σ H H' hi p y => ?_) (fun σ H p => hd σ H (by rw [List.length_map] at p; exact p))
  obtain ⟨rfl, hx⟩ := y
  rw [List.getElem?_map] at hx
  obtain ⟨z, hz, rfl⟩ := Option.map_eq_some_iff.mp hx
  exact hs i z σ _ hz p
end
theorem take_snoc {α : Type} {l : List α} {i : Nat} {x : α} (h : l[i]? = some x) : l.take (i + 1) = l.take i ++ [x] := by
  rw [List.take_add_one, h]
  rfl
/-- what stands elsewhere than at f stays -/
def Oth (f : Addr) (H H' : Hp) : Prop := ∀ b o, b ≠ f → H b = some o → H' b = some o
theorem Oth.refl (f : Addr) (H : Hp) : Oth f H H := fun _ _ _ e => e
theorem Oth.trans {f : Addr} {H H1 H2 : Hp} (a : Oth f H H1) (b : Oth f H1 H2) : Oth f H H2 := fun c o h e => b c o h (a c o h e)
theorem ex_oth {f : Addr} {H H1 : Hp} (a : Ex H H1) : Oth f H H1 := fun c o _ e => a c o e
theorem Oth.upd {f : Addr} {H H1 : Hp} {o : HO} (a : Oth f H H1) : Oth f H (L2.upd H1 f o) := fun b u nb e => by rw [upd_ne nb]; exact a b u nb e
theorem Oth.ex {f : Addr} {H0 H H1 : Hp} (x : Ex H0 H) (n : H0 f = none) (a : Oth f H H1) : Ex H0 H1 := fun b o e => a b o (ne_of_none e n) (x b o e)
theorem sz_le {n : Nat} (h : n ≤ 100000) : n ≤ sizeLine := Nat.le_of_lt (small_len h)
end L3
set_option Elab.async false
set_option linter.all false
set_option maxRecDepth 100000
set_option maxHeartbeats 4000000
namespace L3
open PySem PySem.Spec PyProof.Rows L2
theorem slA_of {K : PySem.W.Frag} {H : Hp} {a : Addr} {xs : List V} {lo hi : Option Int} {Q : VK} (ha : SqT K H a xs) (q : ∀ p H', Ex H H' → SqT K H' p (cutV xs lo hi) → Q (.ref p) H') : rSlA K (.ref a) lo hi H Q := by
  refine ⟨a, xs, rfl, ha, fun hw => q a H (.refl _) ?_, fun _ p np => q p _ (ex_new np) (sq_tup upd_same)⟩
  have e : cutV xs lo hi = xs := by
    unfold cutV
    rw [hw.1, hw.2]
    simp
  rw [e]
  exact ha
theorem tyOf_mono {K : PySem.W.Frag} {H H' : Hp} {x : V} {t : Value} (e : Ex H H') (h : TyOf K H x t) : TyOf K H' x t := by
  cases h with
  | non => exact .non
  | bl x => exact .bl x
  | int i => exact .int i
  | str x => exact .str x
  | flt x => exact .flt x
  | lst h => exact .lst (e _ _ h)
  | frz h => exact .frz (e _ _ h)
  | tup h => exact .tup (e _ _ h)
  | dK h => exact .dK (e _ _ h)
  | dT h => exact .dT (e _ _ h)
  | ins h cl ha hn htk hm => exact .ins (e _ _ h) cl ha hn htk hm
theorem tyX_mono {K : PySem.W.Frag} {H H' : Hp} {x : V} {t : Value} (e : Ex H H') (h : TyX K H x t) : TyX K H' x t := by
  cases h with
  | base h => exact .base (tyOf_mono e h)
  | byt b => exact .byt b
  | set h => exact .set (e _ _ h)
  | kList h c => exact .kList h c
  | kTuple h c => exact .kTuple h c
  | kDict h c => exact .kDict h c
  | fTuple h => exact .fTuple (e _ _ h)
  | fDict h => exact .fDict (e _ _ h)
theorem Cl.mono {K : PySem.W.Frag} {H H' : Hp} {x : V} (c : Cl K H x) (e : Ex H H') : Cl K H' x := let ⟨t, b, d, h1, h2⟩ := c; ⟨t, b, d, tyX_mono e h1, h2⟩
section
variable {J : It} {n : Nat} {G : Hp → Prop} {g : TG} {tt : TT} {te : TE} {vs : List Nat} {σ : L2.St} {H1 : Hp} {D : Addr} {Qd : Hp → Prop}
/-- a comprehension over pairs of xs and ys -/
theorem lc_zip {α β : Type} (xs : List α) (ys : List β) (v : α → V) (w : β → V) (wk : L2.Walk J n G (L2.YPair (fun i => (xs.map v)[i]?) (fun i => (ys.map w)[i]?))) (hn : n = min xs.length ys.length) (gm : α → β → Option V) (I : Hp → Prop) (hI : ∀ H l, I H → I (upd H D (.lst l))) (i0 : I H1) (hz : xs.length ≤ 100000) (hG : ∀ H, I H → G H)
    (hs : ∀ (i : Nat) (a : α) (b : β) (u : Addr) (H : Hp) (acc : List V) (N : Hp → Prop), xs[i]? = some a → ys[i]? = some b → I H → H u = none → H D = some (.lst acc) → acc.length < sizeLine →
      (∀ H4, I H4 → H4 D = some (.lst acc) → match gm a b with | some y => N (upd H4 D (.lst (acc ++ [y]))) | none => N H4) → Turn g tt te vs σ D (.ref u) (upd H u (.tup [v a, w b])) N)
    (hd : ∀ H, I H → H D = some (.lst ((xs.zip ys).filterMap fun p => gm p.1 p.2)) → Qd H) :
    ∃ W : Nat → Nat → Hp → Prop, (∃ m, W 0 m (upd H1 D (.lst []))) ∧ ∀ i m H, W i m H →
      (J.stop i H ∧ Qd H) ∨ (J.go i H ∧ ∃ Nx : Hp → Prop, (∀ H', Nx H' → ∃ m', m' < m ∧ W (i + 1) m' H') ∧ ∀ x H', J.yld i H x H' → Turn g tt te vs σ D x H' Nx) := by
  refine lc_fm wk (fun i => (xs.zip ys)[i]?.bind fun p => gm p.1 p.2) I hI i0 (by omega) hG (fun i x H H' acc N hi p hD la y k => ?_) fun H p hD => hd H p ?_
  · obtain ⟨u, x1, x2, rfl, nu, rfl, g1, g2⟩ := y
    dsimp only at g1 g2
    rw [List.getElem?_map] at g1 g2
    obtain ⟨a, ha, rfl⟩ := Option.map_eq_some_iff.mp g1
    obtain ⟨b, hb, rfl⟩ := Option.map_eq_some_iff.mp g2
    refine hs i a b u H acc N ha hb p nu hD la fun H4 p4 d4 => ?_
    have := k H4 p4 d4
    have ez : (xs.zip ys)[i]? = some (a, b) := by
      rw [List.getElem?_zip_eq_some]
      exact ⟨ha, hb⟩
    simp only [ez, Option.bind_some] at this
    exact this
  · rw [hD, hn, ← List.length_zip, range_fm]
end
end L3
set_option Elab.async false
set_option linter.all false
set_option maxRecDepth 100000
set_option maxHeartbeats 4000000
namespace L3
open PySem PySem.Spec PyProof.Rows L2 PySem.SeqAt PySem.Calls
/-- a type, of which the class at C is no base, or which is that class -/
def NoSub (K : PySem.W.Frag) (C : Addr) (t : Value) : Prop := t = .ref C ∨ PySem.W.kitOne K t (.ref C) = some false
/-- the class at C is none of the types that decline -/
structure NoBase (K : PySem.W.Frag) (C : Addr) : Prop where
  non : PySem.W.mroIn K C (.type "NoneType") = some false
  bl : PySem.W.mroIn K C (.type "bool") = some false
  int : PySem.W.mroIn K C (.type "int") = some false
  str : PySem.W.mroIn K C (.type "str") = some false
  lst : PySem.W.mroIn K C (.type "list") = some false
  tup : PySem.W.mroIn K C (.type "tuple") = some false
  dct : PySem.W.mroIn K C (.type "dict") = some false
  ne : PySem.W.findIn K (.ref C) "__ne__" = some (some (.builtin "object.__ne__"))
  ob : PySem.W.mroIn K C (.type "object") = some true
def noBaseF (x : Str) : Fx := fun K => (["NoneType", "bool", "int", "str", "list", "tuple", "dict"].all fun T => decide (PySem.W.mroIn K (He.ga K x) (.type T) = some false)) &&
  (He.eqO (PySem.W.findIn K (.ref (He.ga K x)) "__ne__") (some (some (.builtin "object.__ne__"))) && decide (PySem.W.mroIn K (He.ga K x) (.type "object") = some true))
theorem noBase_of {x : Str} {K : PySem.W.Frag} (h : noBaseF x K = true) : NoBase K (He.ga K x) := by
  obtain ⟨h1, h⟩ := He.ba h
  obtain ⟨h2, h3⟩ := He.ba h
  have g : ∀ T ∈ ["NoneType", "bool", "int", "str", "list", "tuple", "dict"], PySem.W.mroIn K (He.ga K x) (.type T) = some false := fun T hT => of_decide_eq_true (List.all_eq_true.mp h1 T hT)
  exact ⟨g _ (by decide), g _ (by decide), g _ (by decide), g _ (by decide), g _ (by decide), g _ (by decide), g _ (by decide), He.eqO_ok h2, of_decide_eq_true h3⟩
theorem noSub_look {K : PySem.W.Frag} {C : Addr} {t : Value} (h : NoSub K C t) {M : Model} {hp : Heap} (X : K.In hp) (q : (Value.ref C != t) = true) : PySem.W.Looks M hp (isSubtype t (.ref C)) false := by
  rcases h with rfl | h
  · simp at q
  · unfold PySem.W.kitOne at h
    split at h
    · cases h
    · exact (PySem.W.kit_cls X h).2.2
section
variable {prog : Program} {w : World} {A : Around} {E : Value → Shared → Prop} {s : Shared} {K : PySem.W.Frag} {x C f : Addr} {ox : Obj} {od : Option Obj} {b tb : Value}
theorem try_own {Q : Value → Shared → Prop} {n : Str} (X : K.In s.heap) (I : PySem.W.InstAt s.heap x ox C od) (hm : Meth K C n f)
    (h : wpAny (model prog w) A (call (.ref f) [.ref x, b]) (PySem.W.CmpBack Q) E s) : wpAny (model prog w) A (tryCompare (.ref x) n b) (fun r s' => ∃ v, r = some v ∧ Q v s') E s := by
  unfold tryCompare
  refine wpAny_bind (PySem.W.ifBound_K X I hm.at_ hm.fn (wpAny_mono h (fun v s' hv => ?_) fun _ _ e => e))
  cases v <;> first | exact hv.elim | exact wpAny_pure ⟨_, rfl, hv⟩
theorem rc_ownL {Q : Value → Shared → Prop} (hu : A.units < cLine) (X : K.In s.heap) (I : PySem.W.InstAt s.heap x ox C od) (hb : PySem.W.Looks (model prog w) s.heap (typeOf b) tb) (hn : NoSub K C tb) (hm : Meth K C "__eq__" f)
    (h : wpAny (model prog w) A (call (.ref f) [.ref x, b]) (PySem.W.CmpBack Q) E s) : wpAny (model prog w) A (richCompare .Eq (.ref x) b) Q E s := by
  have one := try_own (b := b) X I hm h
  simp only [richCompare, cmpInfo_Eq, oneThing_ref]
  refine wpAny_holding (wpAny_bind (wpAny_cRoomFor hu ?_))
  refine wpAny_bind (I.type.here (wpAny_bind (hb.here ?_)))
  split
  · rename_i q
    refine wpAny_bind ((noSub_look hn X q).here ?_)
    simp only [Bool.false_eq_true, if_false]
    refine wpAny_bind (wpAny_mono one (fun r s' z => ?_) fun _ _ e => e)
    obtain ⟨v, rfl, hq⟩ := z
    exact wpAny_pure hq
  · refine wpAny_bind (wpAny_pure ?_)
    simp only [Bool.false_eq_true, if_false]
    refine wpAny_bind (wpAny_mono one (fun r s' z => ?_) fun _ _ e => e)
    obtain ⟨v, rfl, hq⟩ := z
    exact wpAny_pure hq
/-- a value that declines: then the right one's own == -/
theorem rc_ownR {Q : Value → Shared → Prop} {T : String} (hu : A.units < cLine) (X : K.In s.heap) (I : PySem.W.InstAt s.heap x ox C od) (hb : s.TypeIs b T) (ho : oneThing? .Eq b (.ref x) = none) (hn : PySem.W.mroIn K C (.type T) = some false) (hm : Meth K C "__eq__" f)
    (hd : ∀ Q' : Option Value → Shared → Prop, Q' none s → wpAny (model prog w) A (tryCompare b "__eq__" (.ref x)) Q' E s)
    (h : wpAny (model prog w) A (call (.ref f) [.ref x, b]) (PySem.W.CmpBack Q) E s) : wpAny (model prog w) A (richCompare .Eq b (.ref x)) Q E s := by
  have one := try_own (b := b) X I hm h
  simp only [richCompare, cmpInfo_Eq, ho]
  refine wpAny_holding (wpAny_bind (wpAny_cRoomFor hu ?_))
  refine wpAny_bind (wpAny_typeOf hb (wpAny_bind (I.type.here ?_)))
  split
  · refine wpAny_bind ((PySem.W.looks_mroIn X hn).here ?_)
    simp only [Bool.false_eq_true, if_false, Bool.not_false, if_true]
    refine wpAny_bind (m := tryCompare b _ (.ref x)) (hd _ ?_)
    refine wpAny_bind (m := tryCompare (.ref x) _ b) (wpAny_mono one (fun r s' z => ?_) fun _ _ e => e)
    obtain ⟨v, rfl, hq⟩ := z
    exact wpAny_pure hq
  · rename_i q
    exact absurd (by simp) q
end
section
variable {prog : Program} {w : World} {A : Around} {E : Value → Shared → Prop} {s : Shared} {K : PySem.W.Frag} {x C dx : Addr} {od : Option Obj}
theorem int_dec_ins (b : Int) (u : Tok) (l C dx : Addr) :
    Meets (Builtin.«int.__eq__» ⟨[.int b u, .ref l], []⟩) (fun _ R s => s.heap.get? l = some { cls := .ref C, dict := some dx, data := .plain } ∧ R (.ok (.ret .notImplemented)) s) :=
  .of_wp fun prog w A R s h => by obtain ⟨hp, g, d, tk, os⟩ := s; obtain ⟨hl, h⟩ := h; wp_walk using wpAny_loadPart' hl, wpAny_load hl; exact ⟨_, rfl, h⟩
theorem bool_dec_ins (b : Bool) (l C dx : Addr) :
    Meets (Builtin.«int.__eq__» ⟨[.bool b, .ref l], []⟩) (fun _ R s => s.heap.get? l = some { cls := .ref C, dict := some dx, data := .plain } ∧ R (.ok (.ret .notImplemented)) s) :=
  .of_wp fun prog w A R s h => by obtain ⟨hp, g, d, tk, os⟩ := s; obtain ⟨hl, h⟩ := h; wp_walk using wpAny_loadPart' hl, wpAny_load hl; exact ⟨_, rfl, h⟩
theorem str_dec_ins (b : Str) (u : Tok) (l C dx : Addr) :
    Meets (Builtin.«str.__eq__» ⟨[.str b u, .ref l], []⟩) (fun _ R s => s.heap.get? l = some { cls := .ref C, dict := some dx, data := .plain } ∧ R (.ok (.ret .notImplemented)) s) :=
  .of_wp fun prog w A R s h => by obtain ⟨hp, g, d, tk, os⟩ := s; obtain ⟨hl, h⟩ := h; wp_walk using wpAny_loadPart' hl, wpAny_load hl; exact ⟨_, rfl, h⟩
theorem wpAny_noInst {M : Model} {T : String} {Q : Bool → Shared → Prop} (X : K.In s.heap) (I : PySem.W.InstAt s.heap x (PySem.W.instObj C dx) C od) (hn : PySem.W.mroIn K C (.type T) = some false) (h : Q false s) : wpAny M A (isInstance (.ref x) (.type T)) Q E s := by
  unfold isInstance
  exact wpAny_bind (I.type.here ((PySem.W.looks_mroIn X hn).here h))
theorem list_dec_ins (l : Addr) (X : K.In s.heap) (I : PySem.W.InstAt s.heap x (PySem.W.instObj C dx) C od) (hn : PySem.W.mroIn K C (.type "list") = some false) {Q : Fin → Shared → Prop} (h : Q (.done (.ret .notImplemented)) s) :
    wpAny (model prog w) A (Builtin.«list.__eq__» ⟨[.ref l, .ref x], []⟩) Q E s := by
  unfold Builtin.«list.__eq__»
  wp_walk using wpAny_noInst X I hn
  exact h
theorem tuple_dec_ins (l : Addr) (X : K.In s.heap) (I : PySem.W.InstAt s.heap x (PySem.W.instObj C dx) C od) (hn : PySem.W.mroIn K C (.type "tuple") = some false) {Q : Fin → Shared → Prop} (h : Q (.done (.ret .notImplemented)) s) :
    wpAny (model prog w) A (Builtin.«tuple.__eq__» ⟨[.ref l, .ref x], []⟩) Q E s := by
  unfold Builtin.«tuple.__eq__»
  wp_walk using wpAny_noInst X I hn
  exact h
theorem dict_dec_ins (l : Addr) (hT : s.TypeIs (.ref l) "dict") (X : K.In s.heap) (I : PySem.W.InstAt s.heap x (PySem.W.instObj C dx) C od) (hn : PySem.W.mroIn K C (.type "dict") = some false) {Q : Fin → Shared → Prop} (h : Q (.done (.ret .notImplemented)) s) :
    wpAny (model prog w) A (Builtin.«dict.__eq__» ⟨[.ref l, .ref x], []⟩) Q E s := by
  show wpAny _ _ (Builtin.Dict.dictSlotArgs "__eq__" ⟨[.ref l, .ref x], []⟩ >>= _) _ _ s
  refine wpAny_bind ?_
  unfold Builtin.Dict.dictSlotArgs
  refine wpAny_bind (wpAny_notOrdered_dict hT ?_)
  show wpAny _ _ (pure (Value.ref l, Value.ref x)) _ _ s
  refine wpAny_pure ?_
  refine wpAny_bind (wpAny_noInst X I hn ?_)
  simp only [Bool.not_false, if_true]
  refine wpAny_bind (wpAny_rule ?_)
  exact wpAny_pure h
end
theorem cmpback_ {P : Value → Shared → Prop} {z : V} {v : Value} {s' : Shared} (r : RelV z v) (h : P v s') : PySem.W.CmpBack P v s' := by
  cases v with
  | notImplemented =>
    cases z with
    | int i => exact nomatch (show ∃ t, Value.notImplemented = Value.int i t from r)
    | str i => exact nomatch (show ∃ t, Value.notImplemented = Value.str i t from r)
    | byt i => exact nomatch (show ∃ t, Value.notImplemented = Value.bytes i t from r)
    | flt i => exact nomatch (show ∃ t, Value.notImplemented = Value.float i t from r)
    | non => exact nomatch (show Value.notImplemented = Value.none from r)
    | bl b => exact nomatch (show Value.notImplemented = Value.bool b from r)
    | ref a => exact nomatch (show Value.notImplemented = Value.ref a from r)
    | ty n => exact nomatch (show Value.notImplemented = Value.type n from r)
  | _ => exact h
/-- values whose == declines an instance -/
inductive Dec (K : PySem.W.Frag) (H : Hp) : V → Prop where
  | non : Dec K H .non
  | bl (b : Bool) : Dec K H (.bl b)
  | int (i : Int) : Dec K H (.int i)
  | str (z : Str) : Dec K H (.str z)
  | lst {a : Addr} {xs : List V} (e : SqL K H a xs) : Dec K H (.ref a)
  | tup {a : Addr} {xs : List V} (e : SqT K H a xs) : Dec K H (.ref a)
  | dK {a : Addr} {kvs : List (Key × V)} (e : H a = some (.dK kvs)) : Dec K H (.ref a)
/-- a rich comparison below the running body -/
def RcO (X : Cx) (k : Nat) (r : R2) : Prop := ∀ (A : Around) (pins : List (Addr × Obj)) (s : Shared) (σ : L2.St) (H : Hp) (x y : V) (u v : Value) (Q : VK), Rm k A → A.frames = X.A.frames → Inv X pins σ H s → RelV x u → RelV y v → r x y H Q →
  wpAny (model X.prog X.w) A (richCompare .Eq u v) (EP X pins σ Q) X.xe s
section
variable {X : Cx} {k : Nat} {f C : Addr} {sp : Sp} {pins : List (Addr × Obj)} {σ : L2.St} {H : Hp} {s : Shared}
theorem dec_try {x : Addr} {dx : Addr} {od : Option Obj} {z : V} {u : Value} (I : Inv X pins σ H s) (r : RelV z u) (d : Dec X.K H z) (J : PySem.W.InstAt s.heap x (PySem.W.instObj C dx) C od) (nb : NoBase X.K C) :
    ∃ T, s.TypeIs u T ∧ oneThing? .Eq u (.ref x) = none ∧ PySem.W.mroIn X.K C (.type T) = some false ∧ ∀ (A : Around) (E : Value → Shared → Prop) (Q' : Option Value → Shared → Prop), Q' none s → wpAny (model X.prog X.w) A (tryCompare u "__eq__" (.ref x)) Q' E s := by
  cases d with
  | non =>
    cases (show u = Value.none from r)
    exact ⟨"NoneType", rfl, rfl, nb.non, fun A E Q' h => wpAny_tryCompare_declines (show s.TypeIs .none "NoneType" from rfl) F.slot_NoneType_eq (call_gives F.slot_NoneType_eq rfl F.entry_NoneType_eq (F.args_NoneType_eq_2 _ _) (NoneType___eq___none_ref_0 x) ⟨rfl, h⟩)⟩
  | bl b =>
    cases (show u = Value.bool b from r)
    exact ⟨"bool", rfl, rfl, nb.bl, fun A E Q' h => wpAny_tryCompare_declines (show s.TypeIs (.bool b) "bool" from rfl) F.slot_bool_eq (call_meets F.slot_bool_eq rfl F.entry_int_eq (F.args_int_eq_2 _ _) (bool_dec_ins b x C dx) ⟨J.at_, rfl, h⟩)⟩
  | int i =>
    obtain ⟨t, e⟩ := (show ∃ t, u = Value.int i t from r)
    cases e
    exact ⟨"int", typeIs_int s i t, rfl, nb.int, fun A E Q' h => wpAny_tryCompare_declines (typeIs_int s i t) F.slot_int_eq (call_meets F.slot_int_eq (typeIs_int s i t) F.entry_int_eq (F.args_int_eq_2 _ _) (int_dec_ins i t x C dx) ⟨J.at_, rfl, h⟩)⟩
  | str z =>
    obtain ⟨t, e⟩ := (show ∃ t, u = Value.str z t from r)
    cases e
    exact ⟨"str", typeIs_str s z t, rfl, nb.str, fun A E Q' h => wpAny_tryCompare_declines (typeIs_str s z t) F.slot_str_eq (call_meets F.slot_str_eq (typeIs_str s z t) F.entry_str_eq (F.args_str_eq_2 _ _) (str_dec_ins z t x C dx) ⟨J.at_, rfl, h⟩)⟩
  | @lst a xs e =>
    cases (show u = Value.ref a from r)
    obtain ⟨its, rl, pl, hz⟩ := I.list e
    obtain ⟨o, n, ho, hc, _⟩ := pl
    have hT : s.TypeIs (.ref a) "list" := ⟨_, ho, hc⟩
    exact ⟨"list", hT, oneThing_ref _ _ _, nb.lst, fun A E Q' h => wpAny_tryCompare_declines hT F.slot_list_eq (wpAny_call_entry F.slot_list_eq hT F.entry_list_eq (list_dec_ins a I.kIn J nb.lst ⟨_, rfl, rfl, h⟩) (F.args_list_eq_2 _ _))⟩
  | @tup a xs e =>
    cases (show u = Value.ref a from r)
    obtain ⟨its, rl, ⟨o, ho, hc, n, d⟩, hz⟩ := I.tuple e
    have hT : s.TypeIs (.ref a) "tuple" := ⟨_, ho, hc⟩
    exact ⟨"tuple", hT, oneThing_ref _ _ _, nb.tup, fun A E Q' h => wpAny_tryCompare_declines hT F.slot_tuple_eq (wpAny_call_entry F.slot_tuple_eq hT F.entry_tuple_eq (tuple_dec_ins a I.kIn J nb.tup ⟨_, rfl, rfl, h⟩) (F.args_tuple_eq_2 _ _))⟩
  | @dK a kvs e =>
    cases (show u = Value.ref a from r)
    have hT : s.TypeIs (.ref a) "dict" := by
      obtain ⟨_, _, vs, _, hD⟩ := (show ObjOk _ _ H s.heap a (.dK kvs) from I.hok a _ e)
      exact hD.typeIs
    exact ⟨"dict", hT, oneThing_ref _ _ _, nb.dct, fun A E Q' h => wpAny_tryCompare_declines hT F.slot_dict_eq (wpAny_call_entry F.slot_dict_eq hT F.entry_dict_eq (dict_dec_ins a hT I.kIn J nb.dct ⟨_, rfl, rfl, h⟩) (F.args_dict_eq_2 _ _))⟩
/-- x == y: x an instance of C -/
def rEqL (K : PySem.W.Frag) (C : Addr) (sp : Sp) : R2 := fun x y H Q => ∃ a dx fs t, x = .ref a ∧ H a = some (.ins C dx fs) ∧ TyX K H y t ∧ NoSub K C t ∧ sp [x, y] H Q (fun _ _ _ => False)
/-- x == y: y an instance of C, x declines -/
def rEqR (K : PySem.W.Frag) (C : Addr) (sp : Sp) : R2 := fun x y H Q => ∃ a dx fs, y = .ref a ∧ H a = some (.ins C dx fs) ∧ Dec K H x ∧ sp [y, x] H Q (fun _ _ _ => False)
theorem rco_L (hm : Meth X.K C "__eq__" f) (F : Fc X.prog X.w X.K X.mg X.base k f [] sp) : RcO X k (rEqL X.K C sp) := by
  intro A pins s σ H x y u v Q hr hf I rx ry h
  obtain ⟨a, dx, fs, t, rfl, ha, ty, ns, hsp⟩ := h
  cases (show u = Value.ref a from rx)
  obtain ⟨mA, J, _⟩ := ins_get I.hok ha
  obtain ⟨od, J, _⟩ := J.look
  obtain ⟨P, kx, hP, _⟩ := kit_of I ry ty
  have run := run_fcA (A := A) (W := fun _ _ _ _ => False) (us := [.ref a, v]) (ws := []) (vs := [.ref a, y]) (σ := σ) F hr hf takes0 I (.cons rfl (.cons ry .nil)) rfl hsp
  refine rc_ownL (by have := hr.rm.un; omega) I.kIn J (kx.ty _ _ I.kIn hP) ns hm (wpAny_mono run (fun w s' z => ?_) fun _ _ x => x)
  obtain ⟨z', H', I', rz, qz⟩ := z
  exact cmpback_ rz ⟨z', H', I', rz, qz⟩
theorem rco_R (nb : NoBase X.K C) (hm : Meth X.K C "__eq__" f) (F : Fc X.prog X.w X.K X.mg X.base k f [] sp) : RcO X k (rEqR X.K C sp) := by
  intro A pins s σ H x y u v Q hr hf I rx ry h
  obtain ⟨a, dx, fs, rfl, ha, d, hsp⟩ := h
  cases (show v = Value.ref a from ry)
  obtain ⟨mA, J, _⟩ := ins_get I.hok ha
  obtain ⟨od, J, _⟩ := J.look
  obtain ⟨T, hT, h1, hn, hd⟩ := dec_try I rx d J nb
  have run := run_fcA (A := A) (W := fun _ _ _ _ => False) (us := [.ref a, u]) (ws := []) (vs := [.ref a, x]) (σ := σ) F hr hf takes0 I (.cons rfl (.cons rx .nil)) rfl hsp
  refine rc_ownR (by have := hr.rm.un; omega) I.kIn J hT h1 hn hm (hd _ _) (wpAny_mono run (fun w s' z => ?_) fun _ _ x => x)
  obtain ⟨z', H', I', rz, qz⟩ := z
  exact cmpback_ rz ⟨z', H', I', rz, qz⟩
def rOr (r r' : R2) : R2 := fun x y H Q => r x y H Q ∨ r' x y H Q
theorem rco_or {r r' : R2} (h : RcO X k r) (h' : RcO X k r') : RcO X k (rOr r r') := fun A pins s σ H x y u v Q hr hf I rx ry q =>
  q.elim (fun q => h A pins s σ H x y u v Q hr hf I rx ry q) fun q => h' A pins s σ H x y u v Q hr hf I rx ry q
theorem rco_mono {r : R2} {j : Nat} (h : RcO X j r) (hj : j ≤ k) : RcO X k r := fun A pins s σ H x y u v Q hr hf I rx ry q => h A pins s σ H x y u v Q (hr.mono hj) hf I rx ry q
theorem op_eqO {r : R2} (h : RcO X k r) (hr : Rm k X.A) : OpR X (compareOp .Eq) r := fun pins s σ H x y u v Q I rx ry q => h X.A pins s σ H x y u v Q hr rfl I rx ry q
theorem ifBound_objNe {M : Model} {A : Around} {E : Value → Shared → Prop} {K : PySem.W.Frag} {x : Addr} {ox : Obj} {od : Option Obj} {args : List Value} {Q : Option Value → Shared → Prop} (X : K.In s.heap) (I : PySem.W.InstAt s.heap x ox C od) (hs : PySem.W.findIn K (.ref C) "__ne__" = some (some (.builtin "object.__ne__")))
    (h : wpAny M A (call (.builtin "object.__ne__") (.ref x :: args)) (fun v => Q (some v)) E s) : wpAny M A (callSpecialIfBound? (.ref x) "__ne__" args) Q E s := by
  simp only [callSpecialIfBound?, bindSpecialIfBound?]
  refine wpAny_holding (wpAny_bind (wpAny_bind (wpAny_bind (I.type.here ((PySem.W.looks_findIn X hs).here ?_)))))
  refine wpAny_bind (wpAny_askSetting (wpAny_ite ?_))
  have fin : wpAny M A (call (.builtin "object.__ne__") ([.ref x] ++ args) >>= fun v => pure (some v)) Q E s := wpAny_bind (wpAny_mono h (fun v s' h' => wpAny_pure h') fun _ _ h' => h')
  split
  · exact wpAny_bind (wpAny_of_eq (F.cmp_object.ne.bind _) (wpAny_pure (by exact fin)))
  · exact wpAny_tryCatch (wpAny_bind (wpAny_of_eq (F.cmp_object.ne.bind _) (wpAny_pure (by exact fin))))
/-- x != y by the own ==: x an instance of C -/
def rNeL (K : PySem.W.Frag) (C : Addr) (sp : Sp) : R2 := fun x y H Q => ∃ a dx fs t, x = .ref a ∧ H a = some (.ins C dx fs) ∧ TyX K H y t ∧ NoSub K C t ∧ sp [x, y] H (fun v H' => ∃ b, v = .bl b ∧ Q (.bl (!b)) H') (fun _ _ _ => False)
theorem op_neO (nb : NoBase X.K C) (hm : Meth X.K C "__eq__" f) (F : Fc X.prog X.w X.K X.mg X.base k f [] sp) (hr : Rm (k + 1) X.A) : OpR X (compareOp .NotEq) (rNeL X.K C sp) := by
  intro pins s σ H x y u v Q I rx ry h
  obtain ⟨a, dx, fs, t, rfl, ha, ty, ns, hsp⟩ := h
  cases (show u = Value.ref a from rx)
  obtain ⟨mA, J, _⟩ := ins_get I.hok ha
  obtain ⟨od, J, _⟩ := J.look
  obtain ⟨P, kx, hP, _⟩ := kit_of I ry ty
  have hb := kx.ty (model X.prog X.w) _ I.kIn hP
  have run := run_fcA (A := X.A.in1) (W := fun _ _ _ _ => False) (us := [.ref a, v]) (ws := []) (vs := [.ref a, y]) (σ := σ) F hr.in1 rfl takes0 I (.cons rfl (.cons ry .nil)) rfl hsp
  have one : wpAny (model X.prog X.w) X.A (tryCompare (.ref a) "__ne__" v) (fun r s' => ∃ z, r = some z ∧ EP X pins σ Q z s') X.xe s := by
    unfold tryCompare
    refine wpAny_bind (ifBound_objNe I.kIn J nb.ne (wpAny_call (codeAny_call_builtin PySem.F.cmp_object.ne.plain PySem.F.cmpEntry_ne (PySem.W.check_slot PySem.F.cmpKind_ne PySem.F.cmpSplit_ne (J.type.andThen (PySem.W.looks_mroIn I.kIn nb.ob)) (PySem.F.cmpArgs_ne _ _) ?_))))
    show wpAny _ X.A.in1 _ _ _ _
    have two : wpAny (model X.prog X.w) X.A.in1 (callSpecialIfBound? (.ref a) "__eq__" [v]) (fun r s' => ∃ b, r = some (.bool b) ∧ ∃ H', Inv X pins σ H' s' ∧ Q (.bl (!b)) H') X.xe s := by
      refine PySem.W.ifBound_K I.kIn J hm.at_ hm.fn (wpAny_mono run (fun w s' z => ?_) fun _ _ x => x)
      obtain ⟨z', H', I', rz, b, rfl, qz⟩ := z
      cases (show w = Value.bool b from rz)
      exact ⟨b, rfl, H', I', qz⟩
    unfold Builtin.«object.__ne__»
    refine wpAny_bind (wpAny_pure ?_)
    refine wpAny_bind (wpAny_cRoomFor (by have := hr.in1.rm.un; omega) ?_)
    refine wpAny_bind (wpAny_mono two (fun r s' z => ?_) fun _ _ x => x)
    obtain ⟨b, rfl, H', I', qz⟩ := z
    refine wpAny_bind (wpAny_truthy_bool ?_)
    exact wpAny_pure (wpAny_pure ⟨_, rfl, ⟨.bl (!b), H', I', rfl, qz⟩⟩)
  show wpAny _ _ (richCompare .NotEq (.ref a) v) _ _ _
  simp only [richCompare, cmpInfo_NotEq, oneThing_ref]
  refine wpAny_holding (wpAny_bind (wpAny_cRoomFor (by have := hr.rm.un; omega) ?_))
  refine wpAny_bind (J.type.here (wpAny_bind (hb.here ?_)))
  split
  · rename_i q
    refine wpAny_bind ((noSub_look ns I.kIn q).here ?_)
    simp only [Bool.false_eq_true, if_false]
    refine wpAny_bind (wpAny_mono one (fun r s' z => ?_) fun _ _ e => e)
    obtain ⟨v, rfl, hq⟩ := z
    exact wpAny_pure hq
  · refine wpAny_bind (wpAny_pure ?_)
    simp only [Bool.false_eq_true, if_false]
    refine wpAny_bind (wpAny_mono one (fun r s' z => ?_) fun _ _ e => e)
    obtain ⟨v, rfl, hq⟩ := z
    exact wpAny_pure hq
theorem rco_LK (K : PySem.W.Frag) (hm : Meth K C "__eq__" f) (F : Fc X.prog X.w K X.mg X.base k f [] sp) (h : X.K = K := by rfl) : RcO X k (rEqL K C sp) := by
  subst h
  exact rco_L hm F
theorem rco_RK (K : PySem.W.Frag) (nb : NoBase K C) (hm : Meth K C "__eq__" f) (F : Fc X.prog X.w K X.mg X.base k f [] sp) (h : X.K = K := by rfl) : RcO X k (rEqR K C sp) := by
  subst h
  exact rco_R nb hm F
theorem op_neOK (K : PySem.W.Frag) (nb : NoBase K C) (hm : Meth K C "__eq__" f) (F : Fc X.prog X.w K X.mg X.base k f [] sp) (hr : Rm (k + 1) X.A) (h : X.K = K := by rfl) : OpR X (compareOp .NotEq) (rNeL K C sp) := by
  subst h
  exact op_neO nb hm F hr
end
end L3
set_option Elab.async false
set_option linter.all false
set_option maxRecDepth 100000
set_option maxHeartbeats 4000000
namespace L3
open PySem PySem.Spec PyProof.Rows L2 PySem.SeqAt PySem.Calls
theorem call_isiK {X : Cx} (K : PySem.W.Frag) (h : X.K = K := by rfl) : CallR X (.builtin "isinstance") (rIsi K) := by
  subst h
  exact call_isi
end L3
set_option Elab.async false
set_option linter.all false
set_option maxRecDepth 100000
set_option maxHeartbeats 4000000
namespace L3
open PySem PySem.Spec PyProof.Rows L2 PySem.SeqAt PySem.Calls
section
variable {X : Cx} {e : Expr} {t1 t2 : TE}
def tOrE (t1 t2 : TE) : TE := fun σ H Q => t1 σ H Q ∨ t2 σ H Q
/-- one reading or the other -/
theorem pe_orE (h1 : PE X e t1) (h2 : PE X e t2) : PE X e (tOrE t1 t2) := ⟨fun pins s σ H Q I h => h.elim (h1.run pins s σ H Q I) (h2.run pins s σ H Q I)⟩
end
/-- a promise that is asked for nothing -/
theorem fc_no {P : Program} {w : World} {K : PySem.W.Frag} {mg : Str → Option Value} {base : Heap} {k : Nat} {f : Addr} {ks : List Str} {sp : Sp} (h : ∀ vs H Q E, ¬ sp vs H Q E) : Fc P w K mg base k f ks sp := fun _ _ _ _ _ _ _ _ _ _ _ _ _ z => absurd z (h _ _ _ _)
end L3
set_option Elab.async false
set_option linter.all false
set_option maxRecDepth 100000
set_option maxHeartbeats 4000000
namespace L3
open PySem PySem.Spec PyProof.Rows L2 PySem.SeqAt PySem.Calls
end L3
set_option Elab.async false
set_option linter.all false
set_option maxRecDepth 100000
set_option maxHeartbeats 4000000
namespace L3
open PySem PySem.Spec PyProof.Rows L2
section
variable {p A B : Prop} [Decidable p]
theorem ifP (h : p) (q : A) : if decide p = true then A else B := by
  rw [decide_eq_true h]
  exact iteT q
theorem ifN (h : ¬ p) (q : B) : if decide p = true then A else B := by
  rw [decide_eq_false h]
  exact iteF q
end
theorem vint_ne {a b : Int} (h : a ≠ b) : ¬ V.int a = V.int b := fun z => by
  injection z with z
  exact h z
theorem sz_big {n : Nat} (h : n ≤ 16000000) : n ≤ sizeLine := Nat.le_trans h (by rw [sizeLine_eq]; decide)
theorem sz_lt {n : Nat} (h : n ≤ 16000000) : n < sizeLine := Nat.lt_of_le_of_lt h (by rw [sizeLine_eq]; decide)
end L3
set_option Elab.async false
set_option linter.all false
set_option maxRecDepth 100000
set_option maxHeartbeats 4000000
namespace L3
open PySem PySem.Spec PyProof.Rows L2
structure FbN (P : Program) (w : World) (K : PySem.W.Frag) (mg : Str → Option Value) (base : Heap) (k : Nat) (f : Addr) (fd : FuncData) (ps : List Str) (sp : Sp) : Prop where
  len : ∀ vs H Q E, sp vs H Q E → vs.length = ps.length
  run : ∀ (A : Around) (outer : List Env) (s : Shared) (H : Hp) (args : Args) (us : List Value) (vs : List V) (Q : VK) (E : XK), Rm k A → Env0 P w K mg base A outer s H → BindsTo s fd args (ps.zip us) → Vals vs us → sp vs H Q E →
    codeAny (model P w) A (.call (.ref f) args) (CR (L2N.CX P w) outer P w H s Q E) s
section
variable {P : Program} {w : World} {K : PySem.W.Frag} {mg : Str → Option Value} {base : Heap} {x qual : Str} {params : Arguments} {body : List Stmt} {scope : Scope} {dvs : List V} {kws : List (Str × V)} {f : Addr} {fd : FuncData} {k : Nat} {ps N : List Str} {sp : Sp}
theorem fbN_of (F : FunD K x qual params body scope dvs kws f fd) (S : FnScope N ps scope) (len : ∀ vs H Q E, sp vs H Q E → vs.length = ps.length)
    (hbody : ∀ (cdv : Value) (A : Around) (outer : List Env) (s : Shared) (H : Hp) (vs : List V) (Q : VK) (E : XK), Rm k (A.deeper (envOfC qual scope s.heap.objs.size f cdv)) → sp vs H Q E →
      ∃ t, PSs (cxOf (L2N.CX P w) P w K mg base N qual scope f cdv A outer s H E) body t ∧ t { nx := fun _ H' => Q .non H', rt := Q } (start N vs) H) : FbN P w K mg base (k + 1) f fd ps sp := by
  obtain ⟨oc, od, dV, kV, doc, pm, an, cdv, ct, osl, rfl, lk, hcd, _, _⟩ := F.ex
  refine ⟨len, fun A outer s H args us vs Q E hr e0 hb r hsp => ?_⟩
  have hl := len _ _ _ _ hsp
  have KX : K.In s.heap := e0.mod.kin.keeps fun b o e => (e0.bs b o e).1
  have lim : s.heap.NoLimit := e0.mod.nolimit.keeps fun b o e => (e0.bs b o e).1
  have hkind : ∀ y ∈ ps.zip us, scope.names.lookup y.1 = some .local ∨ (scope.names.lookup y.1 = some .cell ∧ ((cellsFrom (s.heap.objs.size + 1) scope.names []).lookup y.1).isSome = true) := fun ⟨n, v⟩ hy => by
    rcases S.par n (List.of_mem_zip hy).1 with q | q
    · exact .inl q
    · exact .inr ⟨q, PySem.W.cellsFrom_some _ _ _ (.inl q)⟩
  refine codeAny_call_function hr.rm.depth (KX _ _ lk) rfl S.co S.gen rfl (PySem.W.codeRec_of KX hcd) (hb _ _ _ _ ?_)
  refine wpAny_newFunctionEnv_cells S.kind hkind fun env he s1 x => ?_
  subst he
  refine ⟨lim.keeps x.toInCall.keep, codeAny_func ?_⟩
  obtain ⟨t, ht, hq⟩ := hbody cdv A outer s H vs Q E (hr.deeper _) hsp
  have I : Inv (cxOf (L2N.CX P w) P w K mg base N qual scope f cdv A outer s H E) [] (start N vs) H s1 := inv_start S hr.rm.hd e0 hl r x
  refine wpAny_mono (ht.run [] s1 (start N vs) H _ I hq) (fun fl s' hs => ?_) fun e s' hs => hs
  have fin : ∀ {σ' : L2.St} {H' : Hp} {v : V} {u : Value}, Inv (cxOf (L2N.CX P w) P w K mg base N qual scope f cdv A outer s H E) [] σ' H' s' → RelV v u → Q v H' → CE outer P w H s Q u s' :=
    fun {σ' H' v u} J rv q => ⟨v, H', J.os, J.bare, J.base, J.hok, rv, q⟩
  cases fl with
  | ret u =>
    obtain ⟨v, σ', H', J, rv, q⟩ := hs
    exact fin J rv q
  | next =>
    obtain ⟨σ', H', J, q⟩ := hs
    exact fin (v := V.non) (u := Value.none) J rfl q
  | brk =>
    obtain ⟨_, _, _, q⟩ := hs
    exact False.elim q
  | cont =>
    obtain ⟨_, _, _, q⟩ := hs
    exact False.elim q
theorem FbN.mono {j : Nat} (F : FbN P w K mg base j f fd ps sp) (h : j ≤ k) : FbN P w K mg base k f fd ps sp := ⟨F.len, fun A outer s H args us vs Q E hr => F.run A outer s H args us vs Q E (hr.mono h)⟩
theorem FbN.imp {sp' : Sp} (F : FbN P w K mg base k f fd ps sp) (h : ∀ vs H Q E, sp' vs H Q E → sp vs H Q E) : FbN P w K mg base k f fd ps sp' :=
  ⟨fun vs H Q E q => F.len vs H Q E (h _ _ _ _ q), fun A outer s H args us vs Q E hr he hb hv hs => F.run A outer s H args us vs Q E hr he hb hv (h _ _ _ _ hs)⟩
def FcN (P : Program) (w : World) (K : PySem.W.Frag) (mg : Str → Option Value) (base : Heap) (k : Nat) (f : Addr) (ks : List Str) (sp : Sp) : Prop :=
  ∀ (A : Around) (outer : List Env) (s : Shared) (H : Hp) (us ws : List Value) (vs : List V) (Q : VK) (E : XK), Rm k A → Env0 P w K mg base A outer s H → Vals vs (us ++ ws) → ws.length = ks.length → sp vs H Q E →
    codeAny (model P w) A (.call (.ref f) ⟨us, ks.zip ws⟩) (CR (L2N.CX P w) outer P w H s Q E) s
theorem FcN.mono {j : Nat} {ks : List Str} (F : FcN P w K mg base j f ks sp) (h : j ≤ k) : FcN P w K mg base k f ks sp := fun A outer s H us ws vs Q E hr => F A outer s H us ws vs Q E (hr.mono h)
theorem FcN.imp {sp' : Sp} {ks : List Str} (F : FcN P w K mg base k f ks sp) (h : ∀ vs H Q E, sp' vs H Q E → sp vs H Q E) : FcN P w K mg base k f ks sp' :=
  fun A outer s H us ws vs Q E hr he hv hl hs => F A outer s H us ws vs Q E hr he hv hl (h _ _ _ _ hs)
/-- every parameter is given by place -/
theorem FbN.all (F : FbN P w K mg base k f fd ps sp) (hb : Binds K fd ps []) : FcN P w K mg base k f [] sp := fun A outer s H us ws vs Q E hr e0 r hl h => by
  cases ws with
  | cons w ws => cases hl
  | nil =>
    rw [List.append_nil] at r
    have KX : K.In s.heap := e0.mod.kin.keeps fun b o e => (e0.bs b o e).1
    have l2 : us.length = ps.length := by rw [← r.length]; exact F.len _ _ _ _ h
    have b := hb s us KX (by rw [List.append_nil]; exact l2)
    rw [List.append_nil] at b
    exact F.run A outer s H ⟨us, []⟩ us vs Q E hr e0 b r h
/-- all parameters given, some by name, no defaults -/
theorem FbN.names (D : FunD K x qual params body scope [] kws f fd) (F : FbN P w K mg base k f fd ps sp) (n : Nat) (ks : List Str) (g : {α : Type} → List α → List α)
    (hrel : ∀ {vs : List V} {us : List Value}, Vals vs us → Vals (g vs) (g us))
    (h : ∀ (kV doc pm : Value) (an : Option Addr) (cdv ct : Value) (us ws : List Value), us.length = n → ws.length = ks.length →
      bindArgs (PySem.W.fnOf x qual params body scope .none kV doc pm an cdv ct) ⟨us, ks.zip ws⟩ = pure (ps.zip (g (us ++ ws)))) :
    FcN P w K mg base k f ks (fun vs H Q E => vs.length = n + ks.length ∧ sp (g vs) H Q E) := by
  obtain ⟨oc, od, dV, kV, doc, pm, an, cdv, ct, osl, rfl, lk, hcd, hD, hK⟩ := D.ex
  rcases hD with ⟨_, rfl⟩ | ⟨e, _⟩
  · intro A outer s H us ws vs Q E hr e0 r hl hsp
    have l2 : us.length = n := by
      have e := r.length
      rw [hsp.1, List.length_append, hl] at e
      omega
    exact F.run A outer s H ⟨us, ks.zip ws⟩ (g (us ++ ws)) (g vs) Q E hr e0 (.of_eq (h kV doc pm an cdv ct us ws l2 hl)) (hrel r) hsp.2
  · exact absurd rfl e
end
theorem cxN {P : Program} {w : World} {outer : List Env} {H : Hp} {s : Shared} {E : XK} {u : Value} {s' : Shared} (h : L2N.CX P w outer H s E u s') : L2.CX P w outer H s E u s' := by
  obtain ⟨a, B, H', cls, d, e, fl, r⟩ := h
  exact ⟨a, B, H', cls, d, e, L2H.flyingZ_imp (fun o z => z.zc) fl, r⟩
theorem FcN.fc {P : Program} {w : World} {K : PySem.W.Frag} {mg : Str → Option Value} {base : Heap} {k : Nat} {f : Addr} {ks : List Str} {sp : Sp} (F : FcN P w K mg base k f ks sp) : Fc P w K mg base k f ks sp :=
  fun A outer s H us ws vs Q E hr e0 r hl h => codeAny_mono (F A outer s H us ws vs Q E hr e0 r hl h) fun r s' hq => by
    cases r with
    | error e => exact cxN hq
    | ok fl =>
      cases fl with
      | ret u => exact hq
      | next => exact hq
      | brk => exact hq
      | cont => exact hq
end L3
namespace L3
open PySem PySem.Spec PyProof.Rows L2 L2H HotX
end L3
set_option Elab.async false
set_option linter.all false
set_option maxRecDepth 100000
set_option maxHeartbeats 4000000
namespace L3
open PySem PySem.Spec PyProof.Rows L2
def rNeE (K : PySem.W.Frag) : R2 := fun x y H Q => ∃ (a b : Addr) (xs : List V), x = .ref a ∧ y = .ref b ∧ SqL K H a xs ∧ SqL K H b [] ∧ Q (.bl (!xs.isEmpty)) H
def rEqE (K : PySem.W.Frag) : R2 := fun x y H Q => ∃ (a b : Addr) (xs : List V), x = .ref a ∧ y = .ref b ∧ SqL K H a xs ∧ SqL K H b [] ∧ Q (.bl xs.isEmpty) H
theorem op_neE {X : Cx} (hu : X.A.units + 64 < cLine) : OpR X (compareOp .NotEq) (rNeE X.K) := by
  intro pins s σ H x y v u Q I rx ry h
  obtain ⟨a, b, xs, rfl, rfl, ha, hb, q⟩ := h
  cases (show v = Value.ref a from rx)
  cases (show u = Value.ref b from ry)
  obtain ⟨us, r1, p1, _⟩ := I.list ha
  obtain ⟨ws, r2, p2, _⟩ := I.list hb
  cases r2
  cases r1 with
  | nil =>
    refine SeqAt.RcNeAt.lists (A := X.A) (e := fun _ => true) p1.isList p2.isList rfl (by omega) (fun j h1 h2 => absurd h1 (Nat.not_lt_zero _)) X.prog X.w _ _ ?_
    exact ⟨.bl false, H, I, rfl, q⟩
  | cons z r =>
    refine SeqAt.RcNeAt.lists_lengths (A := X.A) p1.isList p2.isList rfl (by omega) X.prog X.w _ _ ?_
    exact ⟨.bl true, H, I, rfl, q⟩
theorem op_eqE {X : Cx} (hu : X.A.units + 64 < cLine) : OpR X (compareOp .Eq) (rEqE X.K) := by
  intro pins s σ H x y v u Q I rx ry h
  obtain ⟨a, b, xs, rfl, rfl, ha, hb, q⟩ := h
  cases (show v = Value.ref a from rx)
  cases (show u = Value.ref b from ry)
  obtain ⟨us, r1, p1, _⟩ := I.list ha
  obtain ⟨ws, r2, p2, _⟩ := I.list hb
  cases r2
  cases r1 with
  | nil =>
    refine SeqAt.RcAt.lists (A := X.A) (e := fun _ => true) p1.isList p2.isList rfl (by omega) (fun j h1 h2 => absurd h1 (Nat.not_lt_zero _)) X.prog X.w _ _ ?_
    exact ⟨.bl true, H, I, rfl, q⟩
  | cons z r =>
    refine SeqAt.RcAt.lists_lengths (A := X.A) p1.isList p2.isList rfl (by omega) X.prog X.w _ _ ?_
    exact ⟨.bl false, H, I, rfl, q⟩
end L3
set_option Elab.async false
set_option linter.all false
set_option maxRecDepth 100000
set_option maxHeartbeats 4000000
namespace L3
open PySem PySem.Spec PyProof.Rows L2
def Stays (H H' : Hp) (x : V) : Prop := ∀ a o, x = .ref a → H a = some o → H' a = some o
theorem tyOf_at {K : PySem.W.Frag} {H H' : Hp} {x : V} {t : Value} (e : Stays H H' x) (h : TyOf K H x t) : TyOf K H' x t := by
  cases h with
  | non => exact .non
  | bl x => exact .bl x
  | int i => exact .int i
  | str x => exact .str x
  | flt x => exact .flt x
  | lst h => exact .lst (e _ _ rfl h)
  | frz h => exact .frz (e _ _ rfl h)
  | tup h => exact .tup (e _ _ rfl h)
  | dK h => exact .dK (e _ _ rfl h)
  | dT h => exact .dT (e _ _ rfl h)
  | ins h cl ha hn htk hm => exact .ins (e _ _ rfl h) cl ha hn htk hm
theorem tyX_at {K : PySem.W.Frag} {H H' : Hp} {x : V} {t : Value} (e : Stays H H' x) (h : TyX K H x t) : TyX K H' x t := by
  cases h with
  | base h => exact .base (tyOf_at e h)
  | byt b => exact .byt b
  | set h => exact .set (e _ _ rfl h)
  | kList h c => exact .kList h c
  | kTuple h c => exact .kTuple h c
  | kDict h c => exact .kDict h c
  | fTuple h => exact .fTuple (e _ _ rfl h)
  | fDict h => exact .fDict (e _ _ rfl h)
theorem Cl.at {K : PySem.W.Frag} {H H' : Hp} {x : V} (c : Cl K H x) (e : Stays H H' x) : Cl K H' x := let ⟨t, b, d, h1, h2⟩ := c; ⟨t, b, d, tyX_at e h1, h2⟩
end L3
set_option Elab.async false
set_option linter.all false
set_option maxRecDepth 100000
set_option maxHeartbeats 4000000
namespace L3
open PySem PySem.Spec PyProof.Rows L2
def obsA (as : List Addr) (xf : List Fx) (fn : List He.DefD) (g : Addr → Option Obj) : He.AlD := obsX xf fn (He.frG g as)
def hookA (as : List Addr) (xf : List Fx) (fn : List He.DefD) : PySem.W.Hook where
  α := He.AlD
  obs := fun s => obsA as xf fn s.heap.get?
  val := fun _ => He.valD fn
  says := fun _ h => ∃ K : PySem.W.Frag, K.In h ∧ SaysX xf fn K
  of := fun _ _ e => ⟨_, He.frG_in, e⟩
  keeps := fun _ _ _ ⟨K, hK, c⟩ k => ⟨K, PySem.W.Frag.In.keeps hK k, c⟩
theorem obsA_eq {as : List Addr} {xf : List Fx} {fn : List He.DefD} {g : Addr → Option Obj} {s : Shared} (h : ∀ a, g a = s.heap.get? a) : obsA as xf fn g = (hookA as xf fn).obs s := by
  have e : g = s.heap.get? := funext h
  rw [e] <;> rfl
end L3
noncomputable section
namespace HandSHeadRun
open PySem PySem.W PySem.Calls PyProof.Rows
abbrev endR (r : OpenRow) (M : Nat) (w : World) (os : OsState) : Option SharedT := endF (stepQ (denQ tabQ) r.prog w) M r.prog w os
/-- what the machine's own looks say behind the run -/
def RunA (r : OpenRow) (q : Program) (M : Nat) (loose : List PySem.Str) (w : World) : Prop :=
  ∀ os : OsState, (endR r M w os).map (fun s => (looksF r.prog (boot_heap w.params) s.abs, seenQ q loose (importedModules r.prog.main.body) (fun s => xlAt q [] s && recOk r.toRowW.records s) s.abs)) = some (true, openGood q loose)
/-- some facts of what stands behind the run -/
def RunB (r : OpenRow) (M : Nat) (fs : SharedT → Bool) (w : World) : Prop := ∀ os : OsState, (endR r M w os).map fs = some true
/-- the defs' own values -/
def RunC (r : OpenRow) (H : Hook) (ob : SharedT → H.α) (M : Nat) (w : World) : Prop := ∀ os : OsState, (endR r M w os).map ob = some (H.val w)
theorem runEq_of {r : OpenRow} {q : Program} {H : Hook} {ob : SharedT → H.α} {M : Nat} {loose : List PySem.Str} {w : World} (a : RunA r q M loose w) (c : RunC r H ob M w) : RunEq r q H ob M loose w := fun os => by
  have h1 := a os
  have h2 := c os
  show (endR r M w os).map _ = _
  cases e : endR r M w os with
  | none =>
    rw [e] at h1
    cases h1
  | some s =>
    rw [e] at h1 h2
    have g1 := Option.some.inj h1
    have g2 := Option.some.inj h2
    show some _ = some _
    rw [← g2]
    have e1 := congrArg Prod.fst g1
    have e2 := congrArg Prod.snd g1
    dsimp only at e1 e2 ⊢
    rw [e1, e2]
end HandSHeadRun
end
namespace L3
open PySem PySem.Spec PyProof.Rows L2 HandSHeadRun
/-- the facts in three parts: two of the Bools, one of the defs -/
theorem runC_of {r : PySem.W.OpenRow} {as : List Addr} {xf xf1 xf2 : List Fx} {fn : List He.DefD} {M : Nat} {w : World} (e : xf = xf1 ++ xf2)
    (a : RunB r M (fun s => xf1.all fun p => p (He.frG (getT s) as)) w) (b : RunB r M (fun s => xf2.all fun p => p (He.frG (getT s) as)) w)
    (c : ∀ os : OsState, (endR r M w os).map (fun s => (fn.all fun d => d.ok (He.frG (getT s) as), fn.map fun d => He.fnW (He.frG (getT s) as) d.at_)) = some (true, fn.map He.DefD.val)) :
    RunC r (hookA as xf fn) (fun s => obsA as xf fn (getT s)) M w := fun os => by
  have h1 := a os
  have h2 := b os
  have h3 := c os
  cases e2 : endR r M w os with
  | none =>
    rw [e2] at h1
    cases h1
  | some s =>
    rw [e2] at h1 h2 h3
    have g1 : (xf1.all fun p => p (He.frG (getT s) as)) = true := Option.some.inj h1
    have g2 : (xf2.all fun p => p (He.frG (getT s) as)) = true := Option.some.inj h2
    have g3 := Option.some.inj h3
    have e3 := congrArg Prod.fst g3
    have e4 := congrArg Prod.snd g3
    dsimp only at e3 e4
    show some (obsA as xf fn (getT s)) = some (He.valD fn)
    unfold obsA obsX He.valD
    rw [e, List.all_append, g1, g2, e3, e4]
    rfl
end L3
set_option Elab.async false
set_option linter.all false
set_option maxRecDepth 100000
set_option maxHeartbeats 4000000
namespace L3
open PySem PySem.Spec PyProof.Rows L2
/-- x[i], x a list or a tuple -/
def rIxA (K : PySem.W.Frag) : R2 := fun x y H Q => ∃ p xs i v, x = .ref p ∧ y = .int i ∧ (SqL K H p xs ∨ SqT K H p xs) ∧ atI xs i = some v ∧ Q v H
theorem ix_seqA {X : Cx} (K : PySem.W.Frag) (h : X.K = K := by rfl) : IxR X (rIxA K) := by
  subst h
  intro value slice pins s σ H x y v u Q I rx ry h hs
  obtain ⟨p, xs, i, z, e1, e2, hq, he, q⟩ := h
  rcases hq with hq | hq
  · exact ix_list value slice pins s σ H x y v u Q I rx ry ⟨p, xs, i, z, e1, e2, hq, he, q⟩ hs
  · exact ix_tup value slice pins s σ H x y v u Q I rx ry ⟨p, xs, i, z, e1, e2, hq, he, q⟩ hs
end L3
namespace L3
open PySem PySem.Spec PyProof.Rows L2
/-- at a a list or a tuple of these -/
def SqS (K : PySem.W.Frag) (H : Hp) (a : Addr) (xs : List V) : Prop := SqL K H a xs ∨ SqT K H a xs
theorem SqS.at {K : PySem.W.Frag} {H H' : Hp} {a : Addr} {xs : List V} (h : SqS K H a xs) (e : Stays H H' (.ref a)) : SqS K H' a xs := by
  rcases h with ((h | ⟨o, h⟩) | h) | ((h | ⟨o, h⟩) | h)
  · exact .inl (.inl (.inl (e _ _ rfl h)))
  · exact .inl (.inl (.inr ⟨o, e _ _ rfl h⟩))
  · exact .inl (.inr h)
  · exact .inr (.inl (.inl (e _ _ rfl h)))
  · exact .inr (.inl (.inr ⟨o, e _ _ rfl h⟩))
  · exact .inr (.inr h)
theorem stays_ex {H H' : Hp} {x : V} (e : Ex H H') : Stays H H' x := fun a o _ h => e a o h
theorem SqS.mono {K : PySem.W.Frag} {H H' : Hp} {a : Addr} {xs : List V} (h : SqS K H a xs) (e : Ex H H') : SqS K H' a xs := h.at (stays_ex e)
theorem sqL_at {K : PySem.W.Frag} {H H' : Hp} {a : Addr} {xs : List V} (h : SqL K H a xs) (e : Stays H H' (.ref a)) : SqL K H' a xs := by
  rcases h with (h | ⟨o, h⟩) | h
  · exact .inl (.inl (e _ _ rfl h))
  · exact .inl (.inr ⟨o, e _ _ rfl h⟩)
  · exact .inr h
theorem sqT_at {K : PySem.W.Frag} {H H' : Hp} {a : Addr} {xs : List V} (h : SqT K H a xs) (e : Stays H H' (.ref a)) : SqT K H' a xs := by
  rcases h with (h | ⟨o, h⟩) | h
  · exact .inl (.inl (e _ _ rfl h))
  · exact .inl (.inr ⟨o, e _ _ rfl h⟩)
  · exact .inr h
/-- what is a list or a tuple, walked: J stands for either walk, G for what it asks of a heap -/
def iSeqB (K : PySem.W.Frag) (tl : TE) : TI := fun σ H R => tl σ H fun v H1 => ∃ a xs, v = .ref a ∧ SqS K H1 a xs ∧ ∀ J G, L2.Walk J xs.length G (L2.YAt xs) → (∀ H', Stays H1 H' (.ref a) → G H') → R J H1
theorem pi_seqB {X : Cx} {tg l : Expr} {tl : TE} (hl : PE X l tl) (K : PySem.W.Frag) (hK : X.K = K := by rfl) : PI X tg l (iSeqB K tl) := by
  subst hK
  refine ⟨fun pins s σ H R I h => ?_⟩
  refine thn (hl.run pins s σ H _ I h) fun v s1 ⟨x, H1, I1, r1, a, xs, e, hq, q⟩ => ?_
  subst e
  cases r1
  rcases hq with hq | hq
  · have q1 := q (Itl X.K a) (fun H => SqL X.K H a xs) L2.walk_list fun H' e => sqL_at hq e
    obtain ⟨its, rv, p, hz⟩ := I1.list hq
    refine wpAny_pyIter_list p.isList ?_
    refine ⟨s1.heap.objs.size, [s1.heap.objs.size], _, _, H1, rfl, I1.kept (t' := s1.toks) fun b o e => Heap.get?_push_of_some _ e, turn_list a _, ⟨_, Heap.get?_push_size _ rfl, rfl, rfl⟩, fun b hb => ?_, q1⟩
    have e : b = s1.heap.objs.size := by simpa using hb
    subst e
    exact I1.fpOk (Nat.le_refl _) (I1.hok.fresh (Nat.le_refl _))
  · have q1 := q (Itt X.K a) (fun H => SqT X.K H a xs) L2.walk_tup fun H' e => sqT_at hq e
    obtain ⟨its, rv, p, hz⟩ := I1.tuple hq
    refine wpAny_pyIter_tuple (show s1.heap.IsTuple a its.toArray from p) ?_
    refine ⟨s1.heap.objs.size, [s1.heap.objs.size], _, _, H1, rfl, I1.kept (t' := s1.toks) fun b o e => Heap.get?_push_of_some _ e, turn_tuple a _, ⟨_, Heap.get?_push_size _ rfl, rfl, rfl⟩, fun b hb => ?_, q1⟩
    have e : b = s1.heap.objs.size := by simpa using hb
    subst e
    exact I1.fpOk (Nat.le_refl _) (I1.hok.fresh (Nat.le_refl _))
end L3
set_option Elab.async false
set_option linter.all false
set_option maxRecDepth 100000
set_option maxHeartbeats 4000000
namespace L3
open PySem PySem.Spec PyProof.Rows L2
end L3
set_option Elab.async false
set_option linter.all false
set_option maxRecDepth 100000
set_option maxHeartbeats 4000000
namespace L3
open PySem PySem.Spec PySem.Calls PyProof.Rows
open L2
abbrev SpP := Addr × Obj → Sp
structure FbP (P : Program) (w : World) (K : PySem.W.Frag) (mg : Str → Option Value) (base : Heap) (k : Nat) (f : Addr) (fd : FuncData) (ps : List Str) (sp : SpP) : Prop where
  len : ∀ p vs H Q E, sp p vs H Q E → vs.length = ps.length
  run : ∀ (A : Around) (outer : List Env) (s : Shared) (H : Hp) (args : Args) (us : List Value) (vs : List V) (Q : VK) (E : XK) (p : Addr × Obj), L2H.RoomH k A → L2H.PinOk outer H s p → Env0 P w K mg base A outer s H → BindsTo s fd args (ps.zip us) → Vals vs us → sp p vs H Q E →
    codeAny (model P w) A (.call (.ref f) args) (CR (L2.CX P w) outer P w H s Q E) s
section
variable {P : Program} {w : World} {K : PySem.W.Frag} {mg : Str → Option Value} {base : Heap} {x qual : Str} {params : Arguments} {body : List Stmt} {scope : Scope} {dvs : List V} {kws : List (Str × V)} {f : Addr} {fd : FuncData} {k : Nat} {ps N : List Str} {sp : SpP}
/-- such a def called with all parameters by place -/
def FcP (P : Program) (w : World) (K : PySem.W.Frag) (mg : Str → Option Value) (base : Heap) (k : Nat) (f : Addr) (sp : SpP) : Prop :=
  ∀ (A : Around) (outer : List Env) (s : Shared) (H : Hp) (us : List Value) (vs : List V) (Q : VK) (E : XK) (p : Addr × Obj), L2H.RoomH k A → L2H.PinOk outer H s p → Env0 P w K mg base A outer s H → Vals vs us → sp p vs H Q E →
    codeAny (model P w) A (.call (.ref f) ⟨us, []⟩) (CR (L2.CX P w) outer P w H s Q E) s
theorem FcP.mono {j : Nat} (F : FcP P w K mg base j f sp) (h : j ≤ k) : FcP P w K mg base k f sp := fun A outer s H us vs Q E p hr => F A outer s H us vs Q E p (hr.mono h)
theorem FbP.all (F : FbP P w K mg base k f fd ps sp) (hb : Binds K fd ps []) : FcP P w K mg base k f sp := fun A outer s H us vs Q E p hr hp e0 r h => by
  have KX : K.In s.heap := e0.mod.kin.keeps fun b o e => (e0.bs b o e).1
  have l2 : us.length = ps.length := by rw [← r.length]; exact F.len _ _ _ _ _ h
  have b := hb s us KX (by rw [List.append_nil]; exact l2)
  rw [List.append_nil] at b
  exact F.run A outer s H ⟨us, []⟩ us vs Q E p hr hp e0 b r h
end
end L3
set_option Elab.async false
set_option linter.all false
set_option maxRecDepth 100000
set_option maxHeartbeats 4000000
namespace L3
open PySem PySem.Spec PyProof.Rows L2 PySem.SeqAt PySem.Calls
end L3
set_option Elab.async false
set_option linter.all false
set_option maxRecDepth 100000
set_option maxHeartbeats 4000000
namespace L3
open PySem PySem.Spec PyProof.Rows L2 PySem.SeqAt PySem.Calls
end L3
set_option Elab.async false
set_option linter.all false
set_option maxRecDepth 100000
set_option maxHeartbeats 4000000
namespace L3
open PySem PySem.Spec PyProof.Rows L2 PySem.SeqAt PySem.Calls
end L3
set_option Elab.async false
set_option linter.all false
set_option maxRecDepth 100000
set_option maxHeartbeats 4000000
namespace Toy
open PySem PySem.Spec PyProof.Rows L2 L3
def top (i : Nat) : Stmt := PySem.Challenge.pw_shortgoings_k31_shortest_is_the_list.main.body.getD i (.Pass ⟨0, 0, 0, 0⟩)
abbrev s_is_minute : Stmt := top 5
abbrev s_in_rising_order : Stmt := top 6
abbrev s_is_over : Stmt := top 7
abbrev s_first_parts : Stmt := top 8
abbrev s_most_number : Stmt := top 9
abbrev s_numbers_of : Stmt := top 10
abbrev s_is_whole : Stmt := top 16
abbrev s_is_moment : Stmt := top 17
abbrev s_want_moment : Stmt := top 18
abbrev s_clock_of : Stmt := top 19
abbrev s_show_moment : Stmt := top 20
abbrev s_is_number : Stmt := top 25
abbrev s_Short_moments : Stmt := inClass (top 26) 0
abbrev s_Short_pieces : Stmt := inClass (top 26) 1
abbrev s_Short_begins : Stmt := inClass (top 26) 2
abbrev s_Short_ends : Stmt := inClass (top 26) 3
abbrev s_Short_means_many : Stmt := inClass (top 26) 4
abbrev s_Short_nested : Stmt := inClass (top 26) 5
abbrev s_all_rising : Stmt := top 27
abbrev s_shorts_in : Stmt := top 28
abbrev s_row_moments : Stmt := top 29
abbrev s_row_many : Stmt := top 30
abbrev s_row_pieces : Stmt := top 31
abbrev s_row_text : Stmt := top 32
abbrev s_At_init : Stmt := inClass (top 33) 0
abbrev s_At_moments : Stmt := inClass (top 33) 1
abbrev s_At_pieces : Stmt := inClass (top 33) 2
abbrev s_At_begins : Stmt := inClass (top 33) 3
abbrev s_At_ends : Stmt := inClass (top 33) 4
abbrev s_At_means_many : Stmt := inClass (top 33) 5
abbrev s_At_nested : Stmt := inClass (top 33) 6
abbrev s_At_str : Stmt := inClass (top 33) 7
abbrev s_Over_init : Stmt := inClass (top 34) 0
abbrev s_Over_parts : Stmt := inClass (top 34) 1
abbrev s_Over_moments : Stmt := inClass (top 34) 2
abbrev s_Over_pieces : Stmt := inClass (top 34) 3
abbrev s_Over_begins : Stmt := inClass (top 34) 4
abbrev s_Over_ends : Stmt := inClass (top 34) 5
abbrev s_Over_means_many : Stmt := inClass (top 34) 6
abbrev s_Over_nested : Stmt := inClass (top 34) 7
abbrev s_Over_str : Stmt := inClass (top 34) 8
abbrev s_Spread_init : Stmt := inClass (top 36) 0
abbrev s_Spread_parts : Stmt := inClass (top 36) 1
abbrev s_Spread_moments : Stmt := inClass (top 36) 2
abbrev s_Spread_pieces : Stmt := inClass (top 36) 3
abbrev s_Spread_eq : Stmt := inClass (top 36) 4
abbrev s_Spread_len : Stmt := inClass (top 36) 5
abbrev s_Spread_str : Stmt := inClass (top 36) 6
abbrev s_Spread_repr : Stmt := inClass (top 36) 7
abbrev s_first_size : Stmt := top 38
abbrev s_over_part : Stmt := top 39
abbrev s_short_of : Stmt := top 40
abbrev s_shorts_of : Stmt := top 41
abbrev s_shortest : Stmt := top 42
abbrev s__law_pot : Stmt := top 44
abbrev s__law_draw : Stmt := top 45
abbrev s__law_gap : Stmt := top 46
abbrev s__law_means : Stmt := top 47
abbrev s__law_moved : Stmt := top 48
abbrev s__law_part : Stmt := top 49
abbrev s__law_parts : Stmt := top 50
abbrev s__law_tree : Stmt := top 51
abbrev s__law_list : Stmt := top 52
abbrev s__law_turned : Stmt := top 53
abbrev s__law_whole : Stmt := top 54
abbrev s__law_over_walked : Stmt := top 55
abbrev s__law_walked : Stmt := top 56
abbrev s__law_equal : Stmt := top 57
abbrev s__law_spoil : Stmt := top 58
abbrev s__law_right : Stmt := top 59
abbrev s_law : Stmt := top 60
theorem sc_is_minute : FnScope ["thing"] ["thing"] (defScope s_is_minute) := ⟨rfl, rfl, rfl, by decide +kernel, rfl, by decide +kernel, by decide +kernel⟩
theorem sc_in_rising_order : FnScope ["moments", "row", "one", "other"] ["moments"] (defScope s_in_rising_order) := ⟨rfl, rfl, rfl, by decide +kernel, rfl, by decide +kernel, by decide +kernel⟩
theorem sc_is_over : FnScope ["row", "begin", "part", "size", "step", "at"] ["row", "begin", "part", "size"] (defScope s_is_over) := ⟨rfl, rfl, rfl, by decide +kernel, rfl, by decide +kernel, by decide +kernel⟩
theorem sc_first_parts : FnScope ["row", "begin", "size", "part"] ["row", "begin", "size"] (defScope s_first_parts) := ⟨rfl, rfl, rfl, by decide +kernel, rfl, by decide +kernel, by decide +kernel⟩
theorem sc_most_number : FnScope ["row", "paper", "begin", "size", "cuts", "overs", "cut", "part"] ["row", "paper", "begin", "size"] (defScope s_most_number) := ⟨rfl, rfl, rfl, by decide +kernel, rfl, by decide +kernel, by decide +kernel⟩
theorem sc_numbers_of : FnScope ["row", "paper", "size", "begin", "one"] ["row"] (defScope s_numbers_of) := ⟨rfl, rfl, rfl, by decide +kernel, rfl, by decide +kernel, by decide +kernel⟩
theorem sc_is_whole : FnScope ["thing"] ["thing"] (defScope s_is_whole) := ⟨rfl, rfl, rfl, by decide +kernel, rfl, by decide +kernel, by decide +kernel⟩
theorem sc_is_moment : FnScope ["thing"] ["thing"] (defScope s_is_moment) := ⟨rfl, rfl, rfl, by decide +kernel, rfl, by decide +kernel, by decide +kernel⟩
theorem sc_want_moment : FnScope ["thing"] ["thing"] (defScope s_want_moment) := ⟨rfl, rfl, rfl, by decide +kernel, rfl, by decide +kernel, by decide +kernel⟩
theorem sc_clock_of : FnScope ["moment"] ["moment"] (defScope s_clock_of) := ⟨rfl, rfl, rfl, by decide +kernel, rfl, by decide +kernel, by decide +kernel⟩
theorem sc_show_moment : FnScope ["moment", "day", "hour", "minute", "text"] ["moment"] (defScope s_show_moment) := ⟨rfl, rfl, rfl, by decide +kernel, rfl, by decide +kernel, by decide +kernel⟩
theorem sc_is_number : FnScope ["thing", "least"] ["thing", "least"] (defScope s_is_number) := ⟨rfl, rfl, rfl, by decide +kernel, rfl, by decide +kernel, by decide +kernel⟩
theorem sc_all_rising : FnScope ["parts", "one", "other"] ["parts"] (defScope s_all_rising) := ⟨rfl, rfl, rfl, by decide +kernel, rfl, by decide +kernel, by decide +kernel⟩
theorem sc_shorts_in : FnScope ["parts", "found", "one"] ["parts"] (defScope s_shorts_in) := ⟨rfl, rfl, rfl, by decide +kernel, rfl, by decide +kernel, by decide +kernel⟩
theorem sc_row_moments : FnScope ["parts", "found", "one"] ["parts"] (defScope s_row_moments) := ⟨rfl, rfl, rfl, by decide +kernel, rfl, by decide +kernel, by decide +kernel⟩
theorem sc_row_many : FnScope ["parts", "one"] ["parts"] (defScope s_row_many) := ⟨rfl, rfl, rfl, by decide +kernel, rfl, by decide +kernel, by decide +kernel⟩
theorem sc_row_pieces : FnScope ["parts", "one"] ["parts"] (defScope s_row_pieces) := ⟨rfl, rfl, rfl, by decide +kernel, rfl, by decide +kernel, by decide +kernel⟩
theorem sc_row_text : FnScope ["parts", "one"] ["parts"] (defScope s_row_text) := ⟨rfl, rfl, rfl, by decide +kernel, rfl, by decide +kernel, by decide +kernel⟩
theorem sc_At_init : FnScope ["self", "moment"] ["self", "moment"] (defScope s_At_init) := ⟨rfl, rfl, rfl, by decide +kernel, rfl, by decide +kernel, by decide +kernel⟩
theorem sc_At_moments : FnScope ["self"] ["self"] (defScope s_At_moments) := ⟨rfl, rfl, rfl, by decide +kernel, rfl, by decide +kernel, by decide +kernel⟩
theorem sc_At_pieces : FnScope ["self"] ["self"] (defScope s_At_pieces) := ⟨rfl, rfl, rfl, by decide +kernel, rfl, by decide +kernel, by decide +kernel⟩
theorem sc_At_begins : FnScope ["self"] ["self"] (defScope s_At_begins) := ⟨rfl, rfl, rfl, by decide +kernel, rfl, by decide +kernel, by decide +kernel⟩
theorem sc_At_ends : FnScope ["self"] ["self"] (defScope s_At_ends) := ⟨rfl, rfl, rfl, by decide +kernel, rfl, by decide +kernel, by decide +kernel⟩
theorem sc_At_means_many : FnScope ["self"] ["self"] (defScope s_At_means_many) := ⟨rfl, rfl, rfl, by decide +kernel, rfl, by decide +kernel, by decide +kernel⟩
theorem sc_At_nested : FnScope ["self"] ["self"] (defScope s_At_nested) := ⟨rfl, rfl, rfl, by decide +kernel, rfl, by decide +kernel, by decide +kernel⟩
theorem sc_At_str : FnScope ["self"] ["self"] (defScope s_At_str) := ⟨rfl, rfl, rfl, by decide +kernel, rfl, by decide +kernel, by decide +kernel⟩
theorem sc_Over_init : FnScope ["self", "parts", "many", "step"] ["self", "parts", "many", "step"] (defScope s_Over_init) := ⟨rfl, rfl, rfl, by decide +kernel, rfl, by decide +kernel, by decide +kernel⟩
theorem sc_Over_parts : FnScope ["self"] ["self"] (defScope s_Over_parts) := ⟨rfl, rfl, rfl, by decide +kernel, rfl, by decide +kernel, by decide +kernel⟩
theorem sc_Over_moments : FnScope ["self", "own", "found", "time", "moment"] ["self"] (defScope s_Over_moments) := ⟨rfl, rfl, rfl, by decide +kernel, rfl, by decide +kernel, by decide +kernel⟩
theorem sc_Over_pieces : FnScope ["self"] ["self"] (defScope s_Over_pieces) := ⟨rfl, rfl, rfl, by decide +kernel, rfl, by decide +kernel, by decide +kernel⟩
theorem sc_Over_begins : FnScope ["self"] ["self"] (defScope s_Over_begins) := ⟨rfl, rfl, rfl, by decide +kernel, rfl, by decide +kernel, by decide +kernel⟩
theorem sc_Over_ends : FnScope ["self"] ["self"] (defScope s_Over_ends) := ⟨rfl, rfl, rfl, by decide +kernel, rfl, by decide +kernel, by decide +kernel⟩
theorem sc_Over_means_many : FnScope ["self"] ["self"] (defScope s_Over_means_many) := ⟨rfl, rfl, rfl, by decide +kernel, rfl, by decide +kernel, by decide +kernel⟩
theorem sc_Over_nested : FnScope ["self", "one"] ["self"] (defScope s_Over_nested) := ⟨rfl, rfl, rfl, by decide +kernel, rfl, by decide +kernel, by decide +kernel⟩
theorem sc_Over_str : FnScope ["self"] ["self"] (defScope s_Over_str) := ⟨rfl, rfl, rfl, by decide +kernel, rfl, by decide +kernel, by decide +kernel⟩
theorem sc_Spread_init : FnScope ["self", "parts"] ["self", "parts"] (defScope s_Spread_init) := ⟨rfl, rfl, rfl, by decide +kernel, rfl, by decide +kernel, by decide +kernel⟩
theorem sc_Spread_parts : FnScope ["self"] ["self"] (defScope s_Spread_parts) := ⟨rfl, rfl, rfl, by decide +kernel, rfl, by decide +kernel, by decide +kernel⟩
theorem sc_Spread_moments : FnScope ["self"] ["self"] (defScope s_Spread_moments) := ⟨rfl, rfl, rfl, by decide +kernel, rfl, by decide +kernel, by decide +kernel⟩
theorem sc_Spread_pieces : FnScope ["self"] ["self"] (defScope s_Spread_pieces) := ⟨rfl, rfl, rfl, by decide +kernel, rfl, by decide +kernel, by decide +kernel⟩
theorem sc_Spread_eq : FnScope ["self", "other"] ["self", "other"] (defScope s_Spread_eq) := ⟨rfl, rfl, rfl, by decide +kernel, rfl, by decide +kernel, by decide +kernel⟩
theorem sc_Spread_len : FnScope ["self"] ["self"] (defScope s_Spread_len) := ⟨rfl, rfl, rfl, by decide +kernel, rfl, by decide +kernel, by decide +kernel⟩
theorem sc_Spread_str : FnScope ["self"] ["self"] (defScope s_Spread_str) := ⟨rfl, rfl, rfl, by decide +kernel, rfl, by decide +kernel, by decide +kernel⟩
theorem sc_Spread_repr : FnScope ["self"] ["self"] (defScope s_Spread_repr) := ⟨rfl, rfl, rfl, by decide +kernel, rfl, by decide +kernel, by decide +kernel⟩
theorem sc_first_size : FnScope ["paper", "begin", "size", "cut"] ["paper", "begin", "size"] (defScope s_first_size) := ⟨rfl, rfl, rfl, by decide +kernel, rfl, by decide +kernel, by decide +kernel⟩
theorem sc_over_part : FnScope ["row", "paper", "begin", "size", "wanted", "part"] ["row", "paper", "begin", "size"] (defScope s_over_part) := ⟨rfl, rfl, rfl, by decide +kernel, rfl, by decide +kernel, by decide +kernel⟩
theorem sc_short_of : FnScope ["row", "paper", "begin", "size", "part"] ["row", "paper", "begin", "size"] (defScope s_short_of) := ⟨rfl, rfl, rfl, by decide +kernel, rfl, by decide +kernel, by decide +kernel⟩
theorem sc_shorts_of : FnScope ["row", "paper", "begin", "size", "found", "first"] ["row", "paper", "begin", "size"] (defScope s_shorts_of) := ⟨rfl, rfl, rfl, by decide +kernel, rfl, by decide +kernel, by decide +kernel⟩
theorem sc_shortest : FnScope ["moments", "row"] ["moments"] (defScope s_shortest) := ⟨rfl, rfl, rfl, by decide +kernel, rfl, by decide +kernel, by decide +kernel⟩
theorem sc__law_pot : FnScope ["_law_script", "_law_k", "_law_cell"] ["_law_script", "_law_k"] (defScope s__law_pot) := ⟨rfl, rfl, rfl, by decide +kernel, rfl, by decide +kernel, by decide +kernel⟩
theorem sc__law_draw : FnScope ["_law_pot_here", "_law_size", "_law_digit"] ["_law_pot_here", "_law_size"] (defScope s__law_draw) := ⟨rfl, rfl, rfl, by decide +kernel, rfl, by decide +kernel, by decide +kernel⟩
theorem sc__law_gap : FnScope ["_law_pot_here", "_law_way"] ["_law_pot_here"] (defScope s__law_gap) := ⟨rfl, rfl, rfl, by decide +kernel, rfl, by decide +kernel, by decide +kernel⟩
theorem sc__law_means : FnScope ["_law_parts_here", "_law_found", "_law_part_here", "_law_inner", "_law_k", "_law_moment"] ["_law_parts_here"] (defScope s__law_means) := ⟨rfl, rfl, rfl, by decide +kernel, rfl, by decide +kernel, by decide +kernel⟩
theorem sc__law_moved : FnScope ["_law_part_here", "_law_by", "_law_one"] ["_law_part_here", "_law_by"] (defScope s__law_moved) := ⟨rfl, rfl, rfl, by decide +kernel, rfl, by decide +kernel, by decide +kernel⟩
theorem sc__law_part : FnScope ["_law_pot_here", "_law_deep", "_law_room", "_law_way", "_law_many", "_law_inner"] ["_law_pot_here", "_law_deep", "_law_room"] (defScope s__law_part) := ⟨rfl, rfl, rfl, by decide +kernel, rfl, by decide +kernel, by decide +kernel⟩
theorem sc__law_parts : FnScope ["_law_pot_here", "_law_deep", "_law_room", "_law_found", "_law_begin", "_law_k", "_law_left"] ["_law_pot_here", "_law_deep", "_law_room"] (defScope s__law_parts) := ⟨rfl, rfl, rfl, by decide +kernel, rfl, by decide +kernel, by decide +kernel⟩
theorem sc__law_tree : FnScope ["_law_pot_here", "_law_size", "_law_begin", "_law_room", "_law_part_here"] ["_law_pot_here"] (defScope s__law_tree) := ⟨rfl, rfl, rfl, by decide +kernel, rfl, by decide +kernel, by decide +kernel⟩
theorem sc__law_list : FnScope ["_law_pot_here", "_law_found", "_law_way", "_law_k", "_law_near"] ["_law_pot_here"] (defScope s__law_list) := ⟨rfl, rfl, rfl, by decide +kernel, rfl, by decide +kernel, by decide +kernel⟩
theorem sc__law_turned : FnScope ["_law_pot_here", "_law_row", "_law_found", "_law_one"] ["_law_pot_here", "_law_row"] (defScope s__law_turned) := ⟨rfl, rfl, rfl, by decide +kernel, rfl, by decide +kernel, by decide +kernel⟩
theorem sc__law_whole : FnScope ["_law_one"] ["_law_one"] (defScope s__law_whole) := ⟨rfl, rfl, rfl, by decide +kernel, rfl, by decide +kernel, by decide +kernel⟩
theorem sc__law_over_walked : FnScope ["_law_short", "_law_inner", "_law_row", "_law_pieces", "_law_found", "_law_k", "_law_moment"] ["_law_short"] (defScope s__law_over_walked) := ⟨rfl, rfl, rfl, by decide +kernel, rfl, by decide +kernel, by decide +kernel⟩
theorem sc__law_walked : FnScope ["_law_shorts", "_law_found", "_law_pieces", "_law_short", "_law_one"] ["_law_shorts"] (defScope s__law_walked) := ⟨rfl, rfl, rfl, by decide +kernel, rfl, by decide +kernel, by decide +kernel⟩
theorem sc__law_equal : FnScope ["_law_told", "_law_due", "_law_same", "_law_moment"] ["_law_told", "_law_due"] (defScope s__law_equal) := ⟨rfl, rfl, rfl, by decide +kernel, rfl, by decide +kernel, by decide +kernel⟩
theorem sc__law_spoil : FnScope ["_law_told", "_law_part_here"] ["_law_told"] (defScope s__law_spoil) := ⟨rfl, rfl, rfl, by decide +kernel, rfl, by decide +kernel, by decide +kernel⟩
theorem sc__law_right : FnScope ["_law_told", "_law_due", "_law_moment"] ["_law_told", "_law_due"] (defScope s__law_right) := ⟨rfl, rfl, rfl, by decide +kernel, rfl, by decide +kernel, by decide +kernel⟩
theorem sc_law : FnScope ["_law_script", "_law_k", "_law_pot_here", "_law_due", "_law_other", "_law_handed", "_law_kept", "_law_told", "_law_pieces", "_law_again"] ["_law_script"] (defScope s_law) := ⟨rfl, rfl, rfl, by decide +kernel, rfl, by decide +kernel, by decide +kernel⟩
structure Env (K : PySem.W.Frag) (mg : Str → Option Value) : Prop where
  g_is_minute : mg "is_minute" = some (.ref (He.ga K "is_minute"))
  g_in_rising_order : mg "in_rising_order" = some (.ref (He.ga K "in_rising_order"))
  g_is_over : mg "is_over" = some (.ref (He.ga K "is_over"))
  g_first_parts : mg "first_parts" = some (.ref (He.ga K "first_parts"))
  g_most_number : mg "most_number" = some (.ref (He.ga K "most_number"))
  g_numbers_of : mg "numbers_of" = some (.ref (He.ga K "numbers_of"))
  g_is_whole : mg "is_whole" = some (.ref (He.ga K "is_whole"))
  g_is_moment : mg "is_moment" = some (.ref (He.ga K "is_moment"))
  g_want_moment : mg "want_moment" = some (.ref (He.ga K "want_moment"))
  g_clock_of : mg "clock_of" = some (.ref (He.ga K "clock_of"))
  g_show_moment : mg "show_moment" = some (.ref (He.ga K "show_moment"))
  g_is_number : mg "is_number" = some (.ref (He.ga K "is_number"))
  g_all_rising : mg "all_rising" = some (.ref (He.ga K "all_rising"))
  g_shorts_in : mg "shorts_in" = some (.ref (He.ga K "shorts_in"))
  g_row_moments : mg "row_moments" = some (.ref (He.ga K "row_moments"))
  g_row_many : mg "row_many" = some (.ref (He.ga K "row_many"))
  g_row_pieces : mg "row_pieces" = some (.ref (He.ga K "row_pieces"))
  g_row_text : mg "row_text" = some (.ref (He.ga K "row_text"))
  g_first_size : mg "first_size" = some (.ref (He.ga K "first_size"))
  g_over_part : mg "over_part" = some (.ref (He.ga K "over_part"))
  g_short_of : mg "short_of" = some (.ref (He.ga K "short_of"))
  g_shorts_of : mg "shorts_of" = some (.ref (He.ga K "shorts_of"))
  g_shortest : mg "shortest" = some (.ref (He.ga K "shortest"))
  g__law_pot : mg "_law_pot" = some (.ref (He.ga K "_law_pot"))
  g__law_draw : mg "_law_draw" = some (.ref (He.ga K "_law_draw"))
  g__law_gap : mg "_law_gap" = some (.ref (He.ga K "_law_gap"))
  g__law_means : mg "_law_means" = some (.ref (He.ga K "_law_means"))
  g__law_moved : mg "_law_moved" = some (.ref (He.ga K "_law_moved"))
  g__law_part : mg "_law_part" = some (.ref (He.ga K "_law_part"))
  g__law_parts : mg "_law_parts" = some (.ref (He.ga K "_law_parts"))
  g__law_tree : mg "_law_tree" = some (.ref (He.ga K "_law_tree"))
  g__law_list : mg "_law_list" = some (.ref (He.ga K "_law_list"))
  g__law_turned : mg "_law_turned" = some (.ref (He.ga K "_law_turned"))
  g__law_whole : mg "_law_whole" = some (.ref (He.ga K "_law_whole"))
  g__law_over_walked : mg "_law_over_walked" = some (.ref (He.ga K "_law_over_walked"))
  g__law_walked : mg "_law_walked" = some (.ref (He.ga K "_law_walked"))
  g__law_equal : mg "_law_equal" = some (.ref (He.ga K "_law_equal"))
  g__law_spoil : mg "_law_spoil" = some (.ref (He.ga K "_law_spoil"))
  g__law_right : mg "_law_right" = some (.ref (He.ga K "_law_right"))
  g_law : mg "law" = some (.ref (He.ga K "law"))
  v_HOUR : ∃ u, mg "HOUR" = some u ∧ RelV (.int (60)) u
  v_DAY : ∃ u, mg "DAY" = some u ∧ RelV (.int (1440)) u
  v_COLON : ∃ u, mg "COLON" = some u ∧ RelV (.str ":") u
  v_BLANK : ∃ u, mg "BLANK" = some u ∧ RelV (.str " ") u
  v_MOST_MOMENTS : ∃ u, mg "MOST_MOMENTS" = some u ∧ RelV (.int (1440)) u
  v_MOST_NESTED : ∃ u, mg "MOST_NESTED" = some u ∧ RelV (.int (8)) u
  v_NO_PARTS : ∃ u, mg "NO_PARTS" = some u ∧ RelV (.str "-") u
  n_all : mg "all" = none
  n_any : mg "any" = none
  n_bool : mg "bool" = none
  n_divmod : mg "divmod" = none
  n_int : mg "int" = none
  n_isinstance : mg "isinstance" = none
  n_len : mg "len" = none
  n_list : mg "list" = none
  n_max : mg "max" = none
  n_min : mg "min" = none
  n_range : mg "range" = none
  n_repr : mg "repr" = none
  n_sorted : mg "sorted" = none
  n_str : mg "str" = none
  n_sum : mg "sum" = none
  n_tuple : mg "tuple" = none
  n_zip : mg "zip" = none
  g_GoingError : mg "GoingError" = some (.ref (He.ga K "GoingError"))
  x_GoingError : Exo K (He.ga K "GoingError") bmV "ValueError.__new__"
  g_NoTime : mg "NoTime" = some (.ref (He.ga K "NoTime"))
  x_NoTime : Exo K (He.ga K "NoTime") bmV "ValueError.__new__"
  g_NoPiece : mg "NoPiece" = some (.ref (He.ga K "NoPiece"))
  x_NoPiece : Exo K (He.ga K "NoPiece") bmV "ValueError.__new__"
  g_Short : mg "Short" = some (.ref (He.ga K "Short"))
  g_At : mg "At" = some (.ref (He.ga K "At"))
  g_Over : mg "Over" = some (.ref (He.ga K "Over"))
  g_Spread : mg "Spread" = some (.ref (He.ga K "Spread"))
  sys : SysK K
  c_Short : Cls K (He.ga K "Short")
  i_Short : InsC K (He.ga K "Short")
  m_Short_moments : Meth K (He.ga K "Short") "moments" (He.ma K (He.ga K "Short") "moments")
  m_Short_pieces : Meth K (He.ga K "Short") "pieces" (He.ma K (He.ga K "Short") "pieces")
  m_Short_begins : Meth K (He.ga K "Short") "begins" (He.ma K (He.ga K "Short") "begins")
  m_Short_ends : Meth K (He.ga K "Short") "ends" (He.ma K (He.ga K "Short") "ends")
  m_Short_means_many : Meth K (He.ga K "Short") "means_many" (He.ma K (He.ga K "Short") "means_many")
  m_Short_nested : Meth K (He.ga K "Short") "nested" (He.ma K (He.ga K "Short") "nested")
  kit_Short_Short : PySem.W.kitOne K (.ref (He.ga K "Short")) (.ref (He.ga K "Short")) = some true
  kit_Short_Spread : PySem.W.kitOne K (.ref (He.ga K "Short")) (.ref (He.ga K "Spread")) = some false
  kit_Short_At : PySem.W.kitOne K (.ref (He.ga K "Short")) (.ref (He.ga K "At")) = some false
  kit_Short_Over : PySem.W.kitOne K (.ref (He.ga K "Short")) (.ref (He.ga K "Over")) = some false
  kit_Short_int : PySem.W.kitOne K (.ref (He.ga K "Short")) (.type "int") = some false
  kit_Short_bool : PySem.W.kitOne K (.ref (He.ga K "Short")) (.type "bool") = some false
  kit_Short_list : PySem.W.kitOne K (.ref (He.ga K "Short")) (.type "list") = some false
  kit_Short_tuple : PySem.W.kitOne K (.ref (He.ga K "Short")) (.type "tuple") = some false
  c_At : Cls K (He.ga K "At")
  i_At : InsC K (He.ga K "At")
  a_At_moment : NoAttr K (He.ga K "At") "moment"
  m_At_init : Meth K (He.ga K "At") "__init__" (He.ma K (He.ga K "At") "__init__")
  m_At_moments : Meth K (He.ga K "At") "moments" (He.ma K (He.ga K "At") "moments")
  m_At_pieces : Meth K (He.ga K "At") "pieces" (He.ma K (He.ga K "At") "pieces")
  m_At_begins : Meth K (He.ga K "At") "begins" (He.ma K (He.ga K "At") "begins")
  m_At_ends : Meth K (He.ga K "At") "ends" (He.ma K (He.ga K "At") "ends")
  m_At_means_many : Meth K (He.ga K "At") "means_many" (He.ma K (He.ga K "At") "means_many")
  m_At_nested : Meth K (He.ga K "At") "nested" (He.ma K (He.ga K "At") "nested")
  m_At_str : Meth K (He.ga K "At") "__str__" (He.ma K (He.ga K "At") "__str__")
  mk_At : Mk K (He.ga K "At") (He.ma K (He.ga K "At") "__init__")
  kit_At_Short : PySem.W.kitOne K (.ref (He.ga K "At")) (.ref (He.ga K "Short")) = some true
  kit_At_Spread : PySem.W.kitOne K (.ref (He.ga K "At")) (.ref (He.ga K "Spread")) = some false
  kit_At_At : PySem.W.kitOne K (.ref (He.ga K "At")) (.ref (He.ga K "At")) = some true
  kit_At_Over : PySem.W.kitOne K (.ref (He.ga K "At")) (.ref (He.ga K "Over")) = some false
  kit_At_int : PySem.W.kitOne K (.ref (He.ga K "At")) (.type "int") = some false
  kit_At_bool : PySem.W.kitOne K (.ref (He.ga K "At")) (.type "bool") = some false
  kit_At_list : PySem.W.kitOne K (.ref (He.ga K "At")) (.type "list") = some false
  kit_At_tuple : PySem.W.kitOne K (.ref (He.ga K "At")) (.type "tuple") = some false
  c_Over : Cls K (He.ga K "Over")
  i_Over : InsC K (He.ga K "Over")
  a_Over_kept : NoAttr K (He.ga K "Over") "kept"
  a_Over_many : NoAttr K (He.ga K "Over") "many"
  a_Over_step : NoAttr K (He.ga K "Over") "step"
  m_Over_init : Meth K (He.ga K "Over") "__init__" (He.ma K (He.ga K "Over") "__init__")
  m_Over_parts : Meth K (He.ga K "Over") "parts" (He.ma K (He.ga K "Over") "parts")
  m_Over_moments : Meth K (He.ga K "Over") "moments" (He.ma K (He.ga K "Over") "moments")
  m_Over_pieces : Meth K (He.ga K "Over") "pieces" (He.ma K (He.ga K "Over") "pieces")
  m_Over_begins : Meth K (He.ga K "Over") "begins" (He.ma K (He.ga K "Over") "begins")
  m_Over_ends : Meth K (He.ga K "Over") "ends" (He.ma K (He.ga K "Over") "ends")
  m_Over_means_many : Meth K (He.ga K "Over") "means_many" (He.ma K (He.ga K "Over") "means_many")
  m_Over_nested : Meth K (He.ga K "Over") "nested" (He.ma K (He.ga K "Over") "nested")
  m_Over_str : Meth K (He.ga K "Over") "__str__" (He.ma K (He.ga K "Over") "__str__")
  mk_Over : Mk K (He.ga K "Over") (He.ma K (He.ga K "Over") "__init__")
  kit_Over_Short : PySem.W.kitOne K (.ref (He.ga K "Over")) (.ref (He.ga K "Short")) = some true
  kit_Over_Spread : PySem.W.kitOne K (.ref (He.ga K "Over")) (.ref (He.ga K "Spread")) = some false
  kit_Over_At : PySem.W.kitOne K (.ref (He.ga K "Over")) (.ref (He.ga K "At")) = some false
  kit_Over_Over : PySem.W.kitOne K (.ref (He.ga K "Over")) (.ref (He.ga K "Over")) = some true
  kit_Over_int : PySem.W.kitOne K (.ref (He.ga K "Over")) (.type "int") = some false
  kit_Over_bool : PySem.W.kitOne K (.ref (He.ga K "Over")) (.type "bool") = some false
  kit_Over_list : PySem.W.kitOne K (.ref (He.ga K "Over")) (.type "list") = some false
  kit_Over_tuple : PySem.W.kitOne K (.ref (He.ga K "Over")) (.type "tuple") = some false
  c_Spread : Cls K (He.ga K "Spread")
  i_Spread : InsC K (He.ga K "Spread")
  a_Spread_kept : NoAttr K (He.ga K "Spread") "kept"
  a_Spread_held : NoAttr K (He.ga K "Spread") "held"
  m_Spread_init : Meth K (He.ga K "Spread") "__init__" (He.ma K (He.ga K "Spread") "__init__")
  m_Spread_parts : Meth K (He.ga K "Spread") "parts" (He.ma K (He.ga K "Spread") "parts")
  m_Spread_moments : Meth K (He.ga K "Spread") "moments" (He.ma K (He.ga K "Spread") "moments")
  m_Spread_pieces : Meth K (He.ga K "Spread") "pieces" (He.ma K (He.ga K "Spread") "pieces")
  m_Spread_eq : Meth K (He.ga K "Spread") "__eq__" (He.ma K (He.ga K "Spread") "__eq__")
  m_Spread_len : Meth K (He.ga K "Spread") "__len__" (He.ma K (He.ga K "Spread") "__len__")
  m_Spread_str : Meth K (He.ga K "Spread") "__str__" (He.ma K (He.ga K "Spread") "__str__")
  m_Spread_repr : Meth K (He.ga K "Spread") "__repr__" (He.ma K (He.ga K "Spread") "__repr__")
  mk_Spread : Mk K (He.ga K "Spread") (He.ma K (He.ga K "Spread") "__init__")
  nb_Spread : NoBase K (He.ga K "Spread")
  kit_Spread_Short : PySem.W.kitOne K (.ref (He.ga K "Spread")) (.ref (He.ga K "Short")) = some false
  kit_Spread_Spread : PySem.W.kitOne K (.ref (He.ga K "Spread")) (.ref (He.ga K "Spread")) = some true
  kit_Spread_At : PySem.W.kitOne K (.ref (He.ga K "Spread")) (.ref (He.ga K "At")) = some false
  kit_Spread_Over : PySem.W.kitOne K (.ref (He.ga K "Spread")) (.ref (He.ga K "Over")) = some false
  kit_Spread_int : PySem.W.kitOne K (.ref (He.ga K "Spread")) (.type "int") = some false
  kit_Spread_bool : PySem.W.kitOne K (.ref (He.ga K "Spread")) (.type "bool") = some false
  kit_Spread_list : PySem.W.kitOne K (.ref (He.ga K "Spread")) (.type "list") = some false
  kit_Spread_tuple : PySem.W.kitOne K (.ref (He.ga K "Spread")) (.type "tuple") = some false
  kit_int_Short : PySem.W.kitOne K (.type "int") (.ref (He.ga K "Short")) = some false
  kit_bool_Short : PySem.W.kitOne K (.type "bool") (.ref (He.ga K "Short")) = some false
  kit_str_Short : PySem.W.kitOne K (.type "str") (.ref (He.ga K "Short")) = some false
  kit_NoneType_Short : PySem.W.kitOne K (.type "NoneType") (.ref (He.ga K "Short")) = some false
  kit_list_Short : PySem.W.kitOne K (.type "list") (.ref (He.ga K "Short")) = some false
  kit_tuple_Short : PySem.W.kitOne K (.type "tuple") (.ref (He.ga K "Short")) = some false
  kit_dict_Short : PySem.W.kitOne K (.type "dict") (.ref (He.ga K "Short")) = some false
  kit_int_Spread : PySem.W.kitOne K (.type "int") (.ref (He.ga K "Spread")) = some false
  kit_bool_Spread : PySem.W.kitOne K (.type "bool") (.ref (He.ga K "Spread")) = some false
  kit_str_Spread : PySem.W.kitOne K (.type "str") (.ref (He.ga K "Spread")) = some false
  kit_NoneType_Spread : PySem.W.kitOne K (.type "NoneType") (.ref (He.ga K "Spread")) = some false
  kit_list_Spread : PySem.W.kitOne K (.type "list") (.ref (He.ga K "Spread")) = some false
  kit_tuple_Spread : PySem.W.kitOne K (.type "tuple") (.ref (He.ga K "Spread")) = some false
  kit_dict_Spread : PySem.W.kitOne K (.type "dict") (.ref (He.ga K "Spread")) = some false
  kit_int_At : PySem.W.kitOne K (.type "int") (.ref (He.ga K "At")) = some false
  kit_bool_At : PySem.W.kitOne K (.type "bool") (.ref (He.ga K "At")) = some false
  kit_str_At : PySem.W.kitOne K (.type "str") (.ref (He.ga K "At")) = some false
  kit_NoneType_At : PySem.W.kitOne K (.type "NoneType") (.ref (He.ga K "At")) = some false
  kit_list_At : PySem.W.kitOne K (.type "list") (.ref (He.ga K "At")) = some false
  kit_tuple_At : PySem.W.kitOne K (.type "tuple") (.ref (He.ga K "At")) = some false
  kit_dict_At : PySem.W.kitOne K (.type "dict") (.ref (He.ga K "At")) = some false
  kit_int_Over : PySem.W.kitOne K (.type "int") (.ref (He.ga K "Over")) = some false
  kit_bool_Over : PySem.W.kitOne K (.type "bool") (.ref (He.ga K "Over")) = some false
  kit_str_Over : PySem.W.kitOne K (.type "str") (.ref (He.ga K "Over")) = some false
  kit_NoneType_Over : PySem.W.kitOne K (.type "NoneType") (.ref (He.ga K "Over")) = some false
  kit_list_Over : PySem.W.kitOne K (.type "list") (.ref (He.ga K "Over")) = some false
  kit_tuple_Over : PySem.W.kitOne K (.type "tuple") (.ref (He.ga K "Over")) = some false
  kit_dict_Over : PySem.W.kitOne K (.type "dict") (.ref (He.ga K "Over")) = some false
  f_is_minute : ∃ fd, FunD K "is_minute" "is_minute" (defArgs s_is_minute) (defBody s_is_minute) (defScope s_is_minute) [] [] (He.ga K "is_minute") fd
  f_in_rising_order : ∃ fd, FunD K "in_rising_order" "in_rising_order" (defArgs s_in_rising_order) (defBody s_in_rising_order) (defScope s_in_rising_order) [] [] (He.ga K "in_rising_order") fd
  f_is_over : ∃ fd, FunD K "is_over" "is_over" (defArgs s_is_over) (defBody s_is_over) (defScope s_is_over) [] [] (He.ga K "is_over") fd
  f_first_parts : ∃ fd, FunD K "first_parts" "first_parts" (defArgs s_first_parts) (defBody s_first_parts) (defScope s_first_parts) [] [] (He.ga K "first_parts") fd
  f_most_number : ∃ fd, FunD K "most_number" "most_number" (defArgs s_most_number) (defBody s_most_number) (defScope s_most_number) [] [] (He.ga K "most_number") fd
  f_numbers_of : ∃ fd, FunD K "numbers_of" "numbers_of" (defArgs s_numbers_of) (defBody s_numbers_of) (defScope s_numbers_of) [] [] (He.ga K "numbers_of") fd
  f_is_whole : ∃ fd, FunD K "is_whole" "is_whole" (defArgs s_is_whole) (defBody s_is_whole) (defScope s_is_whole) [] [] (He.ga K "is_whole") fd
  f_is_moment : ∃ fd, FunD K "is_moment" "is_moment" (defArgs s_is_moment) (defBody s_is_moment) (defScope s_is_moment) [] [] (He.ga K "is_moment") fd
  f_want_moment : ∃ fd, FunD K "want_moment" "want_moment" (defArgs s_want_moment) (defBody s_want_moment) (defScope s_want_moment) [] [] (He.ga K "want_moment") fd
  f_clock_of : ∃ fd, FunD K "clock_of" "clock_of" (defArgs s_clock_of) (defBody s_clock_of) (defScope s_clock_of) [] [] (He.ga K "clock_of") fd
  f_show_moment : ∃ fd, FunD K "show_moment" "show_moment" (defArgs s_show_moment) (defBody s_show_moment) (defScope s_show_moment) [] [] (He.ga K "show_moment") fd
  f_is_number : ∃ fd, FunD K "is_number" "is_number" (defArgs s_is_number) (defBody s_is_number) (defScope s_is_number) [] [] (He.ga K "is_number") fd
  f_Short_moments : ∃ fd, FunD K "moments" "Short.moments" (defArgs s_Short_moments) (defBody s_Short_moments) (defScope s_Short_moments) [] [] (He.ma K (He.ga K "Short") "moments") fd
  f_Short_pieces : ∃ fd, FunD K "pieces" "Short.pieces" (defArgs s_Short_pieces) (defBody s_Short_pieces) (defScope s_Short_pieces) [] [] (He.ma K (He.ga K "Short") "pieces") fd
  f_Short_begins : ∃ fd, FunD K "begins" "Short.begins" (defArgs s_Short_begins) (defBody s_Short_begins) (defScope s_Short_begins) [] [] (He.ma K (He.ga K "Short") "begins") fd
  f_Short_ends : ∃ fd, FunD K "ends" "Short.ends" (defArgs s_Short_ends) (defBody s_Short_ends) (defScope s_Short_ends) [] [] (He.ma K (He.ga K "Short") "ends") fd
  f_Short_means_many : ∃ fd, FunD K "means_many" "Short.means_many" (defArgs s_Short_means_many) (defBody s_Short_means_many) (defScope s_Short_means_many) [] [] (He.ma K (He.ga K "Short") "means_many") fd
  f_Short_nested : ∃ fd, FunD K "nested" "Short.nested" (defArgs s_Short_nested) (defBody s_Short_nested) (defScope s_Short_nested) [] [] (He.ma K (He.ga K "Short") "nested") fd
  f_all_rising : ∃ fd, FunD K "all_rising" "all_rising" (defArgs s_all_rising) (defBody s_all_rising) (defScope s_all_rising) [] [] (He.ga K "all_rising") fd
  f_shorts_in : ∃ fd, FunD K "shorts_in" "shorts_in" (defArgs s_shorts_in) (defBody s_shorts_in) (defScope s_shorts_in) [] [] (He.ga K "shorts_in") fd
  f_row_moments : ∃ fd, FunD K "row_moments" "row_moments" (defArgs s_row_moments) (defBody s_row_moments) (defScope s_row_moments) [] [] (He.ga K "row_moments") fd
  f_row_many : ∃ fd, FunD K "row_many" "row_many" (defArgs s_row_many) (defBody s_row_many) (defScope s_row_many) [] [] (He.ga K "row_many") fd
  f_row_pieces : ∃ fd, FunD K "row_pieces" "row_pieces" (defArgs s_row_pieces) (defBody s_row_pieces) (defScope s_row_pieces) [] [] (He.ga K "row_pieces") fd
  f_row_text : ∃ fd, FunD K "row_text" "row_text" (defArgs s_row_text) (defBody s_row_text) (defScope s_row_text) [] [] (He.ga K "row_text") fd
  f_At_init : ∃ fd, FunD K "__init__" "At.__init__" (defArgs s_At_init) (defBody s_At_init) (defScope s_At_init) [] [] (He.ma K (He.ga K "At") "__init__") fd
  f_At_moments : ∃ fd, FunD K "moments" "At.moments" (defArgs s_At_moments) (defBody s_At_moments) (defScope s_At_moments) [] [] (He.ma K (He.ga K "At") "moments") fd
  f_At_pieces : ∃ fd, FunD K "pieces" "At.pieces" (defArgs s_At_pieces) (defBody s_At_pieces) (defScope s_At_pieces) [] [] (He.ma K (He.ga K "At") "pieces") fd
  f_At_begins : ∃ fd, FunD K "begins" "At.begins" (defArgs s_At_begins) (defBody s_At_begins) (defScope s_At_begins) [] [] (He.ma K (He.ga K "At") "begins") fd
  f_At_ends : ∃ fd, FunD K "ends" "At.ends" (defArgs s_At_ends) (defBody s_At_ends) (defScope s_At_ends) [] [] (He.ma K (He.ga K "At") "ends") fd
  f_At_means_many : ∃ fd, FunD K "means_many" "At.means_many" (defArgs s_At_means_many) (defBody s_At_means_many) (defScope s_At_means_many) [] [] (He.ma K (He.ga K "At") "means_many") fd
  f_At_nested : ∃ fd, FunD K "nested" "At.nested" (defArgs s_At_nested) (defBody s_At_nested) (defScope s_At_nested) [] [] (He.ma K (He.ga K "At") "nested") fd
  f_At_str : ∃ fd, FunD K "__str__" "At.__str__" (defArgs s_At_str) (defBody s_At_str) (defScope s_At_str) [] [] (He.ma K (He.ga K "At") "__str__") fd
  f_Over_init : ∃ fd, FunD K "__init__" "Over.__init__" (defArgs s_Over_init) (defBody s_Over_init) (defScope s_Over_init) [.int (2), .int (60)] [] (He.ma K (He.ga K "Over") "__init__") fd
  f_Over_parts : ∃ fd, FunD K "parts" "Over.parts" (defArgs s_Over_parts) (defBody s_Over_parts) (defScope s_Over_parts) [] [] (He.ma K (He.ga K "Over") "parts") fd
  f_Over_moments : ∃ fd, FunD K "moments" "Over.moments" (defArgs s_Over_moments) (defBody s_Over_moments) (defScope s_Over_moments) [] [] (He.ma K (He.ga K "Over") "moments") fd
  f_Over_pieces : ∃ fd, FunD K "pieces" "Over.pieces" (defArgs s_Over_pieces) (defBody s_Over_pieces) (defScope s_Over_pieces) [] [] (He.ma K (He.ga K "Over") "pieces") fd
  f_Over_begins : ∃ fd, FunD K "begins" "Over.begins" (defArgs s_Over_begins) (defBody s_Over_begins) (defScope s_Over_begins) [] [] (He.ma K (He.ga K "Over") "begins") fd
  f_Over_ends : ∃ fd, FunD K "ends" "Over.ends" (defArgs s_Over_ends) (defBody s_Over_ends) (defScope s_Over_ends) [] [] (He.ma K (He.ga K "Over") "ends") fd
  f_Over_means_many : ∃ fd, FunD K "means_many" "Over.means_many" (defArgs s_Over_means_many) (defBody s_Over_means_many) (defScope s_Over_means_many) [] [] (He.ma K (He.ga K "Over") "means_many") fd
  f_Over_nested : ∃ fd, FunD K "nested" "Over.nested" (defArgs s_Over_nested) (defBody s_Over_nested) (defScope s_Over_nested) [] [] (He.ma K (He.ga K "Over") "nested") fd
  f_Over_str : ∃ fd, FunD K "__str__" "Over.__str__" (defArgs s_Over_str) (defBody s_Over_str) (defScope s_Over_str) [] [] (He.ma K (He.ga K "Over") "__str__") fd
  f_Spread_init : ∃ fd, FunD K "__init__" "Spread.__init__" (defArgs s_Spread_init) (defBody s_Spread_init) (defScope s_Spread_init) [] [] (He.ma K (He.ga K "Spread") "__init__") fd
  f_Spread_parts : ∃ fd, FunD K "parts" "Spread.parts" (defArgs s_Spread_parts) (defBody s_Spread_parts) (defScope s_Spread_parts) [] [] (He.ma K (He.ga K "Spread") "parts") fd
  f_Spread_moments : ∃ fd, FunD K "moments" "Spread.moments" (defArgs s_Spread_moments) (defBody s_Spread_moments) (defScope s_Spread_moments) [] [] (He.ma K (He.ga K "Spread") "moments") fd
  f_Spread_pieces : ∃ fd, FunD K "pieces" "Spread.pieces" (defArgs s_Spread_pieces) (defBody s_Spread_pieces) (defScope s_Spread_pieces) [] [] (He.ma K (He.ga K "Spread") "pieces") fd
  f_Spread_eq : ∃ fd, FunD K "__eq__" "Spread.__eq__" (defArgs s_Spread_eq) (defBody s_Spread_eq) (defScope s_Spread_eq) [] [] (He.ma K (He.ga K "Spread") "__eq__") fd
  f_Spread_len : ∃ fd, FunD K "__len__" "Spread.__len__" (defArgs s_Spread_len) (defBody s_Spread_len) (defScope s_Spread_len) [] [] (He.ma K (He.ga K "Spread") "__len__") fd
  f_Spread_str : ∃ fd, FunD K "__str__" "Spread.__str__" (defArgs s_Spread_str) (defBody s_Spread_str) (defScope s_Spread_str) [] [] (He.ma K (He.ga K "Spread") "__str__") fd
  f_Spread_repr : ∃ fd, FunD K "__repr__" "Spread.__repr__" (defArgs s_Spread_repr) (defBody s_Spread_repr) (defScope s_Spread_repr) [] [] (He.ma K (He.ga K "Spread") "__repr__") fd
  f_first_size : ∃ fd, FunD K "first_size" "first_size" (defArgs s_first_size) (defBody s_first_size) (defScope s_first_size) [] [] (He.ga K "first_size") fd
  f_over_part : ∃ fd, FunD K "over_part" "over_part" (defArgs s_over_part) (defBody s_over_part) (defScope s_over_part) [] [] (He.ga K "over_part") fd
  f_short_of : ∃ fd, FunD K "short_of" "short_of" (defArgs s_short_of) (defBody s_short_of) (defScope s_short_of) [] [] (He.ga K "short_of") fd
  f_shorts_of : ∃ fd, FunD K "shorts_of" "shorts_of" (defArgs s_shorts_of) (defBody s_shorts_of) (defScope s_shorts_of) [] [] (He.ga K "shorts_of") fd
  f_shortest : ∃ fd, FunD K "shortest" "shortest" (defArgs s_shortest) (defBody s_shortest) (defScope s_shortest) [] [] (He.ga K "shortest") fd
  f__law_pot : ∃ fd, FunD K "_law_pot" "_law_pot" (defArgs s__law_pot) (defBody s__law_pot) (defScope s__law_pot) [] [] (He.ga K "_law_pot") fd
  f__law_draw : ∃ fd, FunD K "_law_draw" "_law_draw" (defArgs s__law_draw) (defBody s__law_draw) (defScope s__law_draw) [] [] (He.ga K "_law_draw") fd
  f__law_gap : ∃ fd, FunD K "_law_gap" "_law_gap" (defArgs s__law_gap) (defBody s__law_gap) (defScope s__law_gap) [] [] (He.ga K "_law_gap") fd
  f__law_means : ∃ fd, FunD K "_law_means" "_law_means" (defArgs s__law_means) (defBody s__law_means) (defScope s__law_means) [] [] (He.ga K "_law_means") fd
  f__law_moved : ∃ fd, FunD K "_law_moved" "_law_moved" (defArgs s__law_moved) (defBody s__law_moved) (defScope s__law_moved) [] [] (He.ga K "_law_moved") fd
  f__law_part : ∃ fd, FunD K "_law_part" "_law_part" (defArgs s__law_part) (defBody s__law_part) (defScope s__law_part) [] [] (He.ga K "_law_part") fd
  f__law_parts : ∃ fd, FunD K "_law_parts" "_law_parts" (defArgs s__law_parts) (defBody s__law_parts) (defScope s__law_parts) [] [] (He.ga K "_law_parts") fd
  f__law_tree : ∃ fd, FunD K "_law_tree" "_law_tree" (defArgs s__law_tree) (defBody s__law_tree) (defScope s__law_tree) [] [] (He.ga K "_law_tree") fd
  f__law_list : ∃ fd, FunD K "_law_list" "_law_list" (defArgs s__law_list) (defBody s__law_list) (defScope s__law_list) [] [] (He.ga K "_law_list") fd
  f__law_turned : ∃ fd, FunD K "_law_turned" "_law_turned" (defArgs s__law_turned) (defBody s__law_turned) (defScope s__law_turned) [] [] (He.ga K "_law_turned") fd
  f__law_whole : ∃ fd, FunD K "_law_whole" "_law_whole" (defArgs s__law_whole) (defBody s__law_whole) (defScope s__law_whole) [] [] (He.ga K "_law_whole") fd
  f__law_over_walked : ∃ fd, FunD K "_law_over_walked" "_law_over_walked" (defArgs s__law_over_walked) (defBody s__law_over_walked) (defScope s__law_over_walked) [] [] (He.ga K "_law_over_walked") fd
  f__law_walked : ∃ fd, FunD K "_law_walked" "_law_walked" (defArgs s__law_walked) (defBody s__law_walked) (defScope s__law_walked) [] [] (He.ga K "_law_walked") fd
  f__law_equal : ∃ fd, FunD K "_law_equal" "_law_equal" (defArgs s__law_equal) (defBody s__law_equal) (defScope s__law_equal) [] [] (He.ga K "_law_equal") fd
  f__law_spoil : ∃ fd, FunD K "_law_spoil" "_law_spoil" (defArgs s__law_spoil) (defBody s__law_spoil) (defScope s__law_spoil) [] [] (He.ga K "_law_spoil") fd
  f__law_right : ∃ fd, FunD K "_law_right" "_law_right" (defArgs s__law_right) (defBody s__law_right) (defScope s__law_right) [] [] (He.ga K "_law_right") fd
  f_law : ∃ fd, FunD K "law" "law" (defArgs s_law) (defBody s_law) (defScope s_law) [] [] (He.ga K "law") fd
end Toy
namespace Toy
open PySem PySem.Spec PyProof.Rows L2 L3
theorem Env.k_is_minute {K : PySem.W.Frag} {mg : Str → Option Value} (T : Env K mg) : PySem.W.keepIn K (.ref (He.ga K "is_minute")) = true := let ⟨_, F⟩ := T.f_is_minute; F.kp
theorem Env.k_in_rising_order {K : PySem.W.Frag} {mg : Str → Option Value} (T : Env K mg) : PySem.W.keepIn K (.ref (He.ga K "in_rising_order")) = true := let ⟨_, F⟩ := T.f_in_rising_order; F.kp
theorem Env.k_is_over {K : PySem.W.Frag} {mg : Str → Option Value} (T : Env K mg) : PySem.W.keepIn K (.ref (He.ga K "is_over")) = true := let ⟨_, F⟩ := T.f_is_over; F.kp
theorem Env.k_first_parts {K : PySem.W.Frag} {mg : Str → Option Value} (T : Env K mg) : PySem.W.keepIn K (.ref (He.ga K "first_parts")) = true := let ⟨_, F⟩ := T.f_first_parts; F.kp
theorem Env.k_most_number {K : PySem.W.Frag} {mg : Str → Option Value} (T : Env K mg) : PySem.W.keepIn K (.ref (He.ga K "most_number")) = true := let ⟨_, F⟩ := T.f_most_number; F.kp
theorem Env.k_numbers_of {K : PySem.W.Frag} {mg : Str → Option Value} (T : Env K mg) : PySem.W.keepIn K (.ref (He.ga K "numbers_of")) = true := let ⟨_, F⟩ := T.f_numbers_of; F.kp
theorem Env.k_is_whole {K : PySem.W.Frag} {mg : Str → Option Value} (T : Env K mg) : PySem.W.keepIn K (.ref (He.ga K "is_whole")) = true := let ⟨_, F⟩ := T.f_is_whole; F.kp
theorem Env.k_is_moment {K : PySem.W.Frag} {mg : Str → Option Value} (T : Env K mg) : PySem.W.keepIn K (.ref (He.ga K "is_moment")) = true := let ⟨_, F⟩ := T.f_is_moment; F.kp
theorem Env.k_want_moment {K : PySem.W.Frag} {mg : Str → Option Value} (T : Env K mg) : PySem.W.keepIn K (.ref (He.ga K "want_moment")) = true := let ⟨_, F⟩ := T.f_want_moment; F.kp
theorem Env.k_clock_of {K : PySem.W.Frag} {mg : Str → Option Value} (T : Env K mg) : PySem.W.keepIn K (.ref (He.ga K "clock_of")) = true := let ⟨_, F⟩ := T.f_clock_of; F.kp
theorem Env.k_show_moment {K : PySem.W.Frag} {mg : Str → Option Value} (T : Env K mg) : PySem.W.keepIn K (.ref (He.ga K "show_moment")) = true := let ⟨_, F⟩ := T.f_show_moment; F.kp
theorem Env.k_is_number {K : PySem.W.Frag} {mg : Str → Option Value} (T : Env K mg) : PySem.W.keepIn K (.ref (He.ga K "is_number")) = true := let ⟨_, F⟩ := T.f_is_number; F.kp
theorem Env.k_all_rising {K : PySem.W.Frag} {mg : Str → Option Value} (T : Env K mg) : PySem.W.keepIn K (.ref (He.ga K "all_rising")) = true := let ⟨_, F⟩ := T.f_all_rising; F.kp
theorem Env.k_shorts_in {K : PySem.W.Frag} {mg : Str → Option Value} (T : Env K mg) : PySem.W.keepIn K (.ref (He.ga K "shorts_in")) = true := let ⟨_, F⟩ := T.f_shorts_in; F.kp
theorem Env.k_row_moments {K : PySem.W.Frag} {mg : Str → Option Value} (T : Env K mg) : PySem.W.keepIn K (.ref (He.ga K "row_moments")) = true := let ⟨_, F⟩ := T.f_row_moments; F.kp
theorem Env.k_row_many {K : PySem.W.Frag} {mg : Str → Option Value} (T : Env K mg) : PySem.W.keepIn K (.ref (He.ga K "row_many")) = true := let ⟨_, F⟩ := T.f_row_many; F.kp
theorem Env.k_row_pieces {K : PySem.W.Frag} {mg : Str → Option Value} (T : Env K mg) : PySem.W.keepIn K (.ref (He.ga K "row_pieces")) = true := let ⟨_, F⟩ := T.f_row_pieces; F.kp
theorem Env.k_row_text {K : PySem.W.Frag} {mg : Str → Option Value} (T : Env K mg) : PySem.W.keepIn K (.ref (He.ga K "row_text")) = true := let ⟨_, F⟩ := T.f_row_text; F.kp
theorem Env.k_first_size {K : PySem.W.Frag} {mg : Str → Option Value} (T : Env K mg) : PySem.W.keepIn K (.ref (He.ga K "first_size")) = true := let ⟨_, F⟩ := T.f_first_size; F.kp
theorem Env.k_over_part {K : PySem.W.Frag} {mg : Str → Option Value} (T : Env K mg) : PySem.W.keepIn K (.ref (He.ga K "over_part")) = true := let ⟨_, F⟩ := T.f_over_part; F.kp
theorem Env.k_short_of {K : PySem.W.Frag} {mg : Str → Option Value} (T : Env K mg) : PySem.W.keepIn K (.ref (He.ga K "short_of")) = true := let ⟨_, F⟩ := T.f_short_of; F.kp
theorem Env.k_shorts_of {K : PySem.W.Frag} {mg : Str → Option Value} (T : Env K mg) : PySem.W.keepIn K (.ref (He.ga K "shorts_of")) = true := let ⟨_, F⟩ := T.f_shorts_of; F.kp
theorem Env.k_shortest {K : PySem.W.Frag} {mg : Str → Option Value} (T : Env K mg) : PySem.W.keepIn K (.ref (He.ga K "shortest")) = true := let ⟨_, F⟩ := T.f_shortest; F.kp
theorem Env.k__law_pot {K : PySem.W.Frag} {mg : Str → Option Value} (T : Env K mg) : PySem.W.keepIn K (.ref (He.ga K "_law_pot")) = true := let ⟨_, F⟩ := T.f__law_pot; F.kp
theorem Env.k__law_draw {K : PySem.W.Frag} {mg : Str → Option Value} (T : Env K mg) : PySem.W.keepIn K (.ref (He.ga K "_law_draw")) = true := let ⟨_, F⟩ := T.f__law_draw; F.kp
theorem Env.k__law_gap {K : PySem.W.Frag} {mg : Str → Option Value} (T : Env K mg) : PySem.W.keepIn K (.ref (He.ga K "_law_gap")) = true := let ⟨_, F⟩ := T.f__law_gap; F.kp
theorem Env.k__law_means {K : PySem.W.Frag} {mg : Str → Option Value} (T : Env K mg) : PySem.W.keepIn K (.ref (He.ga K "_law_means")) = true := let ⟨_, F⟩ := T.f__law_means; F.kp
theorem Env.k__law_moved {K : PySem.W.Frag} {mg : Str → Option Value} (T : Env K mg) : PySem.W.keepIn K (.ref (He.ga K "_law_moved")) = true := let ⟨_, F⟩ := T.f__law_moved; F.kp
theorem Env.k__law_part {K : PySem.W.Frag} {mg : Str → Option Value} (T : Env K mg) : PySem.W.keepIn K (.ref (He.ga K "_law_part")) = true := let ⟨_, F⟩ := T.f__law_part; F.kp
theorem Env.k__law_parts {K : PySem.W.Frag} {mg : Str → Option Value} (T : Env K mg) : PySem.W.keepIn K (.ref (He.ga K "_law_parts")) = true := let ⟨_, F⟩ := T.f__law_parts; F.kp
theorem Env.k__law_tree {K : PySem.W.Frag} {mg : Str → Option Value} (T : Env K mg) : PySem.W.keepIn K (.ref (He.ga K "_law_tree")) = true := let ⟨_, F⟩ := T.f__law_tree; F.kp
theorem Env.k__law_list {K : PySem.W.Frag} {mg : Str → Option Value} (T : Env K mg) : PySem.W.keepIn K (.ref (He.ga K "_law_list")) = true := let ⟨_, F⟩ := T.f__law_list; F.kp
theorem Env.k__law_turned {K : PySem.W.Frag} {mg : Str → Option Value} (T : Env K mg) : PySem.W.keepIn K (.ref (He.ga K "_law_turned")) = true := let ⟨_, F⟩ := T.f__law_turned; F.kp
theorem Env.k__law_whole {K : PySem.W.Frag} {mg : Str → Option Value} (T : Env K mg) : PySem.W.keepIn K (.ref (He.ga K "_law_whole")) = true := let ⟨_, F⟩ := T.f__law_whole; F.kp
theorem Env.k__law_over_walked {K : PySem.W.Frag} {mg : Str → Option Value} (T : Env K mg) : PySem.W.keepIn K (.ref (He.ga K "_law_over_walked")) = true := let ⟨_, F⟩ := T.f__law_over_walked; F.kp
theorem Env.k__law_walked {K : PySem.W.Frag} {mg : Str → Option Value} (T : Env K mg) : PySem.W.keepIn K (.ref (He.ga K "_law_walked")) = true := let ⟨_, F⟩ := T.f__law_walked; F.kp
theorem Env.k__law_equal {K : PySem.W.Frag} {mg : Str → Option Value} (T : Env K mg) : PySem.W.keepIn K (.ref (He.ga K "_law_equal")) = true := let ⟨_, F⟩ := T.f__law_equal; F.kp
theorem Env.k__law_spoil {K : PySem.W.Frag} {mg : Str → Option Value} (T : Env K mg) : PySem.W.keepIn K (.ref (He.ga K "_law_spoil")) = true := let ⟨_, F⟩ := T.f__law_spoil; F.kp
theorem Env.k__law_right {K : PySem.W.Frag} {mg : Str → Option Value} (T : Env K mg) : PySem.W.keepIn K (.ref (He.ga K "_law_right")) = true := let ⟨_, F⟩ := T.f__law_right; F.kp
section
def sp_is_minute (K : PySem.W.Frag) : Sp := fun vs H Q _ => ∃ x, vs = [x] ∧ Cl K H x ∧ Q (.bl (isM x)) H
theorem fb_is_minute {P : Program} {w : World} {K : PySem.W.Frag} {mg : Str → Option Value} {base : Heap} (T : Env K mg) : ∃ fd, FunD K "is_minute" "is_minute" (defArgs s_is_minute) (defBody s_is_minute) (defScope s_is_minute) [] [] (He.ga K "is_minute") fd ∧ Fb P w K mg base 1 (He.ga K "is_minute") fd ["thing"] (sp_is_minute K) := by
  obtain ⟨fd, F⟩ := T.f_is_minute
  refine ⟨fd, F, fb_of F sc_is_minute (fun vs H Q E h => ?_) (fun cdv A outer s H vs Q E hr h => ?_)⟩
  · obtain ⟨x, rfl, _⟩ := h
    rfl
  · obtain ⟨x, rfl, ⟨t, b, c, ty, h1, h2, e⟩, q⟩ := h
    refine ⟨_, (pss_one (ps_ret (pe_and (pe_callB call_isi (by rfl) T.n_isinstance (by decide +kernel) (pa_cons (pv 0) (pa_cons (pe_bltn (v := .ty "int") (by rfl) T.n_int (by decide +kernel) rfl) pa_nil))) (pe_and (pe_not (pe_callB call_isi (by rfl) T.n_isinstance (by decide +kernel) (pa_cons (pv 0) (pa_cons (pe_bltn (v := .ty "bool") (by rfl) T.n_bool (by decide +kernel) rfl) pa_nil)))) (pe_one (pe_cmpR op_ge (pv 0) pe_int (nomark _))))))), ?_⟩
    refine ⟨x, rfl, x, .ty "int", t, _, b, rfl, .ty "int", ty, h1, b, rfl, ?_⟩
    cases b with
    | false => 
      rw [isM_f e] at q
      exact q
    | true =>
      refine ⟨x, rfl, x, .ty "bool", t, _, c, rfl, .ty "bool", ty, h2, c, rfl, ?_⟩
      cases c with
      | true =>
        rw [isM_f e] at q
        exact ⟨false, rfl, q⟩
      | false =>
        refine ⟨true, rfl, iteT ?_⟩
        cases x with
        | int i => exact ⟨_, rfl, i, 0, rfl, rfl, q⟩
        | _ => cases e
theorem ok_is_minute {P : Program} {w : World} {K : PySem.W.Frag} {mg : Str → Option Value} {base : Heap} (T : Env K mg) : Fc P w K mg base 1 (He.ga K "is_minute") [] (sp_is_minute K ) := by
  obtain ⟨fd, D, F⟩ := fb_is_minute T
  exact F.all (D.bindsN fun _ _ _ _ _ _ us hl => match us, hl with | [_], _ => rfl)
end
section
/-- whole numbers as values -/
def natV (ns : List Nat) : List V := ns.map fun n : Nat => V.int (n : Int)
/-- in order -/
def srtN (ns : List Nat) : List Nat := (srt (ns.map fun n : Nat => (n : Int))).map Int.toNat
theorem nat_int (ns : List Nat) : natV ns = (ns.map fun n : Nat => (n : Int)).map V.int := by
  unfold natV
  rw [List.map_map]
  rfl
theorem inV_nat (d : Nat) (ns : List Nat) : inV (.int (d : Int)) (natV ns) = decide (d ∈ ns) := by
  rw [nat_int, inV_int]
  apply decide_eq_decide.mpr
  constructor
  · intro h
    obtain ⟨n, hn, e⟩ := List.mem_map.mp h
    have : n = d := by omega
    exact this ▸ hn
  · intro h
    exact List.mem_map.mpr ⟨d, h, rfl⟩
theorem flat_nat (ns : List Nat) : (natV ns).all flatV = true := by
  rw [nat_int]
  exact flat_ints _
theorem mem_srtN (d : Nat) (ns : List Nat) : decide (d ∈ srtN ns) = decide (d ∈ ns) := by
  apply decide_eq_decide.mpr
  unfold srtN
  constructor
  · intro h
    obtain ⟨i, hi, e⟩ := List.mem_map.mp h
    obtain ⟨n, hn, e2⟩ := List.mem_map.mp ((srt_perm _).subset hi)
    have : n = d := by omega
    exact this ▸ hn
  · intro h
    exact List.mem_map.mpr ⟨(d : Int), (srt_perm _).symm.subset (List.mem_map.mpr ⟨d, h, rfl⟩), by simp⟩
theorem srtN_mem (d : Nat) (ns : List Nat) : d ∈ srtN ns ↔ d ∈ ns := decide_eq_decide.mp (mem_srtN d ns)
theorem natV_len (ns : List Nat) : (natV ns).length = ns.length := by
  unfold natV
  rw [List.length_map]
theorem srtN_len (ns : List Nat) : (srtN ns).length = ns.length := by
  unfold srtN
  rw [List.length_map, (srt_perm _).length_eq, List.length_map]
theorem natV_srt (ns : List Nat) : (srt (ns.map fun n : Nat => (n : Int))).map V.int = natV (srtN ns) := by
  unfold natV srtN
  rw [List.map_map]
  apply List.map_congr_left
  intro i hi
  obtain ⟨n, _, e⟩ := List.mem_map.mp ((srt_perm _).subset hi)
  show V.int i = V.int ((i.toNat : Nat) : Int)
  rw [Int.toNat_of_nonneg (by omega)]
theorem srtN_lt {ns : List Nat} (h : ns.Nodup) : (srtN ns).Pairwise (· < ·) := by
  have h1 : (srt (ns.map fun n : Nat => (n : Int))).Pairwise (· ≤ ·) := srt_sorted _
  have h2 : (srt (ns.map fun n : Nat => (n : Int))).Nodup := (srt_perm _).nodup_iff.mpr (List.Pairwise.map _ (fun a b (hab : a ≠ b) (z : (a : Int) = b) => hab (by omega)) h)
  unfold srtN
  refine List.pairwise_map.mpr ?_
  have h0 : ∀ i ∈ srt (ns.map fun n : Nat => (n : Int)), 0 ≤ i := fun i hi => by
    obtain ⟨n, _, e⟩ := List.mem_map.mp ((srt_perm _).subset hi)
    omega
  refine (List.Pairwise.and h1 h2).imp_of_mem fun {a b} ha hb z => ?_
  have := h0 a ha
  have := h0 b hb
  have := z.1
  have : a ≠ b := z.2
  omega
theorem cut1 (xs : List V) : cutV xs (some 1) none = xs.drop 1 := by
  unfold cutV
  rw [HT.sIx_none, show (some (1 : Int)) = some ((1 : Nat) : Int) from rfl, HT.sIx_nat]
  cases xs with
  | nil => rfl
  | cons x r =>
    rw [show min 1 (x :: r).length = 1 by simp]
    exact List.take_of_length_le (by simp)
theorem natV_erase : ∀ (ns : List Nat) (k : Nat), (natV ns).eraseIdx k = natV (ns.eraseIdx k)
  | [], _ => rfl
  | _ :: _, 0 => rfl
  | n :: r, k + 1 => congrArg (V.int (n : Int) :: ·) (natV_erase r k)
theorem natV_snoc (ns : List Nat) (n : Nat) : natV ns ++ [.int (n : Int)] = natV (ns ++ [n]) := by
  unfold natV
  rw [List.map_append]
  rfl
theorem natV_get {ns : List Nat} {k n : Nat} (h : ns[k]? = some n) : (natV ns)[k]? = some (.int (n : Int)) := by
  unfold natV
  rw [List.getElem?_map, h]
  rfl
theorem seqIx_nat {n k : Nat} (h : k < n) : seqIndex? (k : Int) n = some k := by
  have e : ixN n (k : Int) = some k := by
    unfold ixN
    rw [if_pos (by omega), if_pos (by omega)]
    simp
  exact (ixN_seq e).1
/-- a comprehension's truths -/
theorem fm_bl (n : Nat) (f : Nat → Bool) : (List.range n).filterMap (fun i => some (V.bl (f i))) = ((List.range n).map f).map V.bl := by
  rw [List.filterMap_eq_map', List.map_map]
  rfl
theorem all_id (n : Nat) (f : Nat → Bool) : ((List.range n).map f).all id = (List.range n).all f := by
  rw [List.all_map]
  rfl
theorem vint_dec (a b : Int) : decide (V.int a = V.int b) = decide (a = b) := decide_eq_decide.mpr ⟨fun h => by injection h, fun h => by rw [h]⟩
end
section
/-- the days of a list that is handed in, none where they are none -/
def dayNum : V → Nat
  | .int i => i.toNat
  | _ => 0
theorem natV_isM (ns : List Nat) : (natV ns).all isM = true := by
  rw [List.all_eq_true]
  intro x hx
  obtain ⟨n, _, rfl⟩ := List.mem_map.mp hx
  exact isM_nat n
theorem natV_num (ns : List Nat) : (natV ns).map dayNum = ns := by
  unfold natV
  rw [List.map_map]
  have : (dayNum ∘ fun n : Nat => V.int (n : Int)) = id := funext fun n => by simp [dayNum]
  rw [this, List.map_id]
theorem isM_natV : ∀ {xs : List V}, xs.all isM = true → xs = natV (xs.map dayNum)
  | [], _ => rfl
  | x :: xs, h => by
    obtain ⟨h1, h2⟩ := Bool.and_eq_true_iff.mp (show (isM x && xs.all isM) = true from h)
    obtain ⟨i, rfl, i0⟩ := isM_w h1
    obtain ⟨n, rfl⟩ := Int.eq_ofNat_of_zero_le i0
    have ih := isM_natV h2
    show V.int (n : Nat) :: xs = V.int (((Int.ofNat n).toNat : Nat) : Int) :: natV (xs.map dayNum)
    rw [← ih]
    rfl
/-- neighbours that are alike -/
def alikeN (l : List Nat) : List Bool := (l.zip (l.drop 1)).map fun p => decide (p.1 = p.2)
theorem alike_any {l : List Nat} (h : l.Pairwise (· ≤ ·)) : (alikeN l).any id = !decide l.Nodup := by
  induction l with
  | nil => rfl
  | cons a l ih =>
    obtain ⟨h1, h2⟩ := List.pairwise_cons.mp h
    have ih := ih h2
    cases l with
    | nil => rfl
    | cons b r =>
      have e : alikeN (a :: b :: r) = decide (a = b) :: alikeN (b :: r) := rfl
      rw [e, List.any_cons, ih]
      by_cases c : a = b
      · have nn : ¬ (a :: b :: r).Nodup := fun z => (List.pairwise_cons.mp z).1 b List.mem_cons_self c
        rw [decide_eq_false nn, decide_eq_true c]
        rfl
      · have iff : (a :: b :: r).Nodup ↔ (b :: r).Nodup := by
          refine ⟨fun z => (List.pairwise_cons.mp z).2, fun z => List.pairwise_cons.mpr ⟨fun x hx ex => ?_, z⟩⟩
          subst ex
          have hb := h1 b List.mem_cons_self
          rcases List.mem_cons.mp hx with hx | hx
          · exact c hx
          · have := (List.pairwise_cons.mp h2).1 a hx
            omega
        rw [decide_eq_false c, show decide (a :: b :: r).Nodup = decide (b :: r).Nodup from decide_eq_decide.mpr iff]
        rfl
theorem srtN_le (ns : List Nat) : (srtN ns).Pairwise (· ≤ ·) := by
  unfold srtN
  refine List.pairwise_map.mpr ((srt_sorted _).imp fun {a b} h => ?_)
  omega
theorem srtN_nodup (ns : List Nat) : decide (srtN ns).Nodup = decide ns.Nodup := by
  apply decide_eq_decide.mpr
  have p : (srtN ns).Perm ns := by
    unfold srtN
    have := (srt_perm (ns.map fun n : Nat => (n : Int))).map Int.toNat
    rw [List.map_map] at this
    have e : (Int.toNat ∘ fun n : Nat => (n : Int)) = id := funext fun n => by simp
    rw [e, List.map_id] at this
    exact this
  exact p.nodup_iff
end
section
def gN (ns : List Nat) (i : Nat) : Nat := ns.getD i 0
theorem natV_at {ns : List Nat} {i : Int} {k : Nat} (e : i = (k : Int)) (h : k < ns.length) : atI (natV ns) i = some (.int ((gN ns k : Nat) : Int)) := by
  subst e
  refine atI_nat (natV_get ?_)
  unfold gN
  rw [List.getD_eq_getElem?_getD, List.getElem?_eq_getElem h]
  rfl
/-- a stretch is its first part over and over -/
def isOv (ns : List Nat) (b p s : Nat) : Bool := (List.range (s - p)).all fun i => decide ((gN ns (b + i + p) : Int) - gN ns (b + i) = (gN ns (b + p) : Int) - gN ns b)
def firstB (ns : List Nat) (b s i : Nat) : Bool := decide (s % (i + 1) = 0) && isOv ns b (i + 1) s
def firstP (ns : List Nat) (b s : Nat) : List Nat := (List.range (s - 1)).filterMap fun i => if firstB ns b s i = true then some (i + 1) else none
def pg (pap : List (List Int)) (i j : Nat) : Int := (pap.getD i []).getD j 0
def cutsP (pap : List (List Int)) (b s : Nat) : List Int := (List.range (s - 1)).map fun i => pg pap b i + pg pap (b + i + 1) (s - i - 2)
def oversP (ns : List Nat) (pap : List (List Int)) (b s : Nat) : List Int := (firstP ns b s).map fun p => pg pap b (p - 1) + 1
def minI : List Int → Int
  | [] => 0
  | x :: r => if r = [] then x else min x (minI r)
theorem minI_mem : ∀ {l : List Int}, l ≠ [] → minI l ∈ l ∧ ∀ y ∈ l, minI l ≤ y
  | [], h => absurd rfl h
  | x :: r, _ => by
    unfold minI
    by_cases c : r = []
    · rw [if_pos c, c]
      exact ⟨List.mem_cons_self, fun y hy => by rw [List.mem_singleton.mp hy]; exact Int.le_refl _⟩
    · rw [if_neg c]
      obtain ⟨h1, h2⟩ := minI_mem c
      constructor
      · by_cases z : x ≤ minI r
        · rw [Int.min_eq_left z]
          exact List.mem_cons_self
        · rw [Int.min_eq_right (by omega)]
          exact List.mem_cons_of_mem _ h1
      · intro y hy
        rcases List.mem_cons.mp hy with rfl | hy
        · exact Int.min_le_left _ _
        · exact Int.le_trans (Int.min_le_right _ _) (h2 y hy)
theorem minI_eq {l : List Int} {m : Int} (h : m ∈ l) (h2 : ∀ y ∈ l, m ≤ y) : m = minI l := by
  have h0 : l ≠ [] := fun z => by rw [z] at h; cases h
  obtain ⟨g1, g2⟩ := minI_mem h0
  exact Int.le_antisymm (h2 _ g1) (g2 _ h)
def mostP (ns : List Nat) (pap : List (List Int)) (b s : Nat) : Int := if s = 1 then 1 else minI (cutsP pap b s ++ oversP ns pap b s)
/-- what the greatest number of a stretch is found by is there -/
def Fits (pap : List (List Int)) (b s : Nat) : Prop := ∀ i j, i + j < s → (i = 0 → j + 1 < s) → b + i < pap.length ∧ j < (pap.getD (b + i) []).length
/-- at a a paper -/
def PapAt (K : PySem.W.Frag) (H : Hp) (a : Addr) (pap : List (List Int)) : Prop := ∃ as : List Addr, SqS K H a (as.map V.ref) ∧ as.length = pap.length ∧ ∀ (i : Nat) (b : Addr) (r : List Int), as[i]? = some b → pap[i]? = some r → SqS K H b (r.map V.int)
theorem PapAt.mono {K : PySem.W.Frag} {H H' : Hp} {a : Addr} {pap : List (List Int)} (h : PapAt K H a pap) (e : Ex H H') : PapAt K H' a pap := by
  obtain ⟨as, h1, h2, h3⟩ := h
  exact ⟨as, h1.mono e, h2, fun i b r hi hr => (h3 i b r hi hr).mono e⟩
theorem PapAt.get {K : PySem.W.Frag} {H : Hp} {a : Addr} {pap : List (List Int)} (h : PapAt K H a pap) {x : Int} {i : Nat} (e : x = (i : Int)) (hi : i < pap.length) : ∃ (b : Addr) (xs : List V), SqS K H a xs ∧ atI xs x = some (.ref b) ∧ SqS K H b ((pap.getD i []).map V.int) := by
  obtain ⟨as, h1, h2, h3⟩ := h
  have ha : i < as.length := by omega
  have e1 := List.getElem?_eq_getElem ha
  have e2 := List.getElem?_eq_getElem hi
  refine ⟨as[i], _, h1, ?_, ?_⟩
  · rw [e]
    exact atI_nat (by rw [List.getElem?_map, e1]; rfl)
  · have e3 : pap.getD i [] = pap[i] := by rw [List.getD_eq_getElem?_getD, e2]; rfl
    rw [e3]
    exact h3 i _ _ e1 e2
theorem ints_at {r : List Int} {x : Int} {j : Nat} (e : x = (j : Int)) (h : j < r.length) : atI (r.map V.int) x = some (.int (r.getD j 0)) := by
  rw [e]
  refine atI_nat ?_
  rw [List.getElem?_map, List.getElem?_eq_getElem h, List.getD_eq_getElem?_getD, List.getElem?_eq_getElem h]
  rfl
/-- pap[i][j] -/
theorem pap_ix {K : PySem.W.Frag} {H : Hp} {a : Addr} {pap : List (List Int)} (h : PapAt K H a pap) {x : Int} {i : Nat} (e : x = (i : Int)) (hi : i < pap.length) {Q : VK} (q : ∀ b, SqS K H b ((pap.getD i []).map V.int) → Q (.ref b) H) : rIxA K (.ref a) (.int x) H Q := by
  obtain ⟨b, xs, h1, h2, h3⟩ := h.get e hi
  exact ⟨a, xs, x, _, rfl, rfl, h1, h2, q b h3⟩
theorem row_ix {K : PySem.W.Frag} {H : Hp} {b : Addr} {r : List Int} (h : SqS K H b (r.map V.int)) {x : Int} {j : Nat} (e : x = (j : Int)) (hj : j < r.length) {Q : VK} (q : Q (.int (r.getD j 0)) H) : rIxA K (.ref b) (.int x) H Q := ⟨b, _, x, _, rfl, rfl, h, ints_at e hj, q⟩
end
section
/-- the moments of a list that is handed in, none where it is none -/
def momList (xs : List V) : Option (List Nat) := if (xs.all isM && decide (xs.map dayNum).Nodup) = true then some (xs.map dayNum) else none
/-- what is handed in for a list of moments, and what it tells -/
def MomG (K : PySem.W.Frag) (H : Hp) (x : V) (r : Option (List Nat)) : Prop := (∃ a xs, x = .ref a ∧ (H a = some (.lst xs) ∨ H a = some (.tup xs)) ∧ xs.length ≤ 10000 ∧ (∀ y ∈ xs, Cl K H y) ∧ r = momList xs) ∨ ((∃ t, TyX K H x t ∧ PySem.W.kitAny K t [.type "list", .type "tuple"] = some false) ∧ r = none)
theorem MomG.mono {K : PySem.W.Frag} {H H' : Hp} {x : V} {r : Option (List Nat)} (h : MomG K H x r) (e : Ex H H') : MomG K H' x r := by
  rcases h with ⟨a, xs, h1, h2, h3, h4, h5⟩ | ⟨⟨t, h2, h3⟩, h4⟩
  · exact .inl ⟨a, xs, h1, h2.imp (e _ _) (e _ _), h3, fun y hy => (h4 y hy).mono e, h5⟩
  · exact .inr ⟨⟨t, tyX_mono e h2, h3⟩, h4⟩
theorem momList_nat (ns : List Nat) : momList (natV ns) = if ns.Nodup then some ns else none := by
  unfold momList
  rw [natV_isM, natV_num, Bool.true_and]
  by_cases c : ns.Nodup
  · rw [if_pos (decide_eq_true c), if_pos c]
  · rw [if_neg (fun z => c (of_decide_eq_true z)), if_neg c]
theorem momG_nat {K : PySem.W.Frag} {H : Hp} {a : Addr} {ns : List Nat} (h : H a = some (.lst (natV ns)) ∨ H a = some (.tup (natV ns))) (hl : ns.length ≤ 10000) (hn : ns.Nodup) : MomG K H (.ref a) (some ns) := by
  refine .inl ⟨a, natV ns, rfl, h, by rw [natV_len]; exact hl, fun y hy => ?_, ?_⟩
  · obtain ⟨n, _, rfl⟩ := List.mem_map.mp hy
    exact cl_int _
  · rw [momList_nat, if_pos hn]
def sp_in_rising_order (K : PySem.W.Frag) : Sp := fun vs H Q E => ∃ x r, vs = [x] ∧ MomG K H x r ∧ (∀ ns, r = some ns → ∀ p H', Ex H H' → H p = none → H' p = some (.lst (natV (srtN ns))) → Q (.ref p) H') ∧ (r = none → ∀ H', Ex H H' → E (.ref (He.ga K "NoPiece")) none H')
theorem fb_in_rising_order {P : Program} {w : World} {K : PySem.W.Frag} {mg : Str → Option Value} {base : Heap} (T : Env K mg) : ∃ fd, FunD K "in_rising_order" "in_rising_order" (defArgs s_in_rising_order) (defBody s_in_rising_order) (defScope s_in_rising_order) [] [] (He.ga K "in_rising_order") fd ∧ Fb P w K mg base 2 (He.ga K "in_rising_order") fd ["moments"] (sp_in_rising_order K) := by
  obtain ⟨fd, F⟩ := T.f_in_rising_order
  refine ⟨fd, F, fb_of F sc_in_rising_order (fun vs H Q E h => ?_) (fun cdv A outer s H vs Q E hr h => ?_)⟩
  · obtain ⟨x, ns, rfl, _⟩ := h
    rfl
  · obtain ⟨x, r, rfl, hx, q, qe⟩ := h
    refine ⟨_, (pss_cons (ps_if (PW.pt (pw_or (pt_not (pt_val (pe_callB call_isiT (by rfl) T.n_isinstance (by decide +kernel) (pa_cons (pv 0) (pa_cons (pe_tup (pa_cons (pe_bltn (v := .ty "list") (by rfl) T.n_list (by decide +kernel) rfl) (pa_cons (pe_bltn (v := .ty "tuple") (by rfl) T.n_tuple (by decide +kernel) rfl) pa_nil))) pa_nil))))) (pw_or1 (pt_not (pt_val (pe_callB (cr_all rfl) (by rfl) T.n_all (by decide +kernel) (pa_cons (pe_lc (own := [("one", 2)]) (by rfl) sc_in_rising_order.nd (pi_seqB (pv 0) K) (blkOk_by (own := [("one", 2)]) (N := ["moments", "row", "one", "other"]) (sc := defScope s_in_rising_order) (by decide +kernel)) (fun _ _ _ _ _ => (pg_name (i := 2) sc_in_rising_order.nd rfl (Or.inl rfl))) (fun _ _ _ _ _ => pts_nil) (fun _ _ _ _ _ => (c_call (ok_is_minute T) (hr.mono (by decide)) T.g_is_minute T.k_is_minute takes0 (pa_cons (pv 2) pa_nil)))) pa_nil)))))))
      (pss_one (ps_raise rfl (takes_of rfl rfl rfl rfl) (pmk_own PySem.F.excBase_ValueError T.x_NoPiece.x T.g_NoPiece T.x_NoPiece.kp (raises_own T.x_NoPiece.sub T.x_NoPiece.ty) rfl)))
      pss_nil)
      (pss_cons (ps_set (i := 1) sc_in_rising_order.nd rfl (Or.inl rfl) (pe_callB (cr_sortedA K) (by rfl) T.n_sorted (by decide +kernel) (pa_cons (pv 0) pa_nil)))
      (pss_cons (ps_if (pt_val (pe_callB (cr_any rfl) (by rfl) T.n_any (by decide +kernel) (pa_cons (pe_lc (own := [("one", 2), ("other", 3)]) (by rfl) sc_in_rising_order.nd (RZ.pi_zipA (by rfl) T.n_zip (pa_cons (pv 1) (pa_cons (pe_slice sl_list (pv 1) (po_some pe_int) po_none) pa_nil))) (blkOk_by (own := [("one", 2), ("other", 3)]) (N := ["moments", "row", "one", "other"]) (sc := defScope s_in_rising_order) (by decide +kernel)) (fun _ _ _ _ _ => (pg_tupK K (n := 2) rfl (pgs_cons (pg_name (i := 2) sc_in_rising_order.nd rfl (Or.inl rfl)) (pgs_cons (pg_name (i := 3) sc_in_rising_order.nd rfl (Or.inl rfl)) pgs_nil)))) (fun _ _ _ _ _ => pts_nil) (fun _ _ _ _ _ => (pe_cmpR op_eq (pv 2) (pv 3) (nomark _)))) pa_nil)))
      (pss_one (ps_raise rfl (takes_of rfl rfl rfl rfl) (pmk_own PySem.F.excBase_ValueError T.x_NoPiece.x T.g_NoPiece T.x_NoPiece.kp (raises_own T.x_NoPiece.sub T.x_NoPiece.ty) rfl)))
      pss_nil)
      (pss_one (ps_ret (pv 1)))))), ?_⟩
    rcases hx with ⟨a, xs, rfl, hl, lx, hc, er⟩ | ⟨⟨t, ty, kt⟩, rfl⟩
    · refine ⟨_, rfl, (by decide), ?_⟩
      intro a1 na1
      have Xa1 := ex_new (o := HO.tup [V.ty "list", V.ty "tuple"]) na1
      have ha1 : upd H a1 (HO.tup [V.ty "list", V.ty "tuple"]) a1 = some (HO.tup [V.ty "list", V.ty "tuple"]) := upd_same
      generalize upd H a1 (HO.tup [V.ty "list", V.ty "tuple"]) = Ga1 at Xa1 ha1 ⊢
      have ty : ∃ t, TyX K Ga1 (.ref a) t ∧ PySem.W.kitAny K t [.type "list", .type "tuple"] = some true := by
        rcases hl with h | h
        · exact ⟨_, .base (.lst (Xa1 _ _ h)), kitAny_cons (b := true) (kit_ty (by decide +kernel)) (fun z => nomatch z) (fun _ => rfl)⟩
        · exact ⟨_, .base (.tup (Xa1 _ _ h)), kitAny_cons (b := false) (kit_ty (by decide +kernel)) (fun _ => kitAny_cons (b := true) (kit_ty (by decide +kernel)) (fun z => nomatch z) (fun _ => rfl)) (by decide)⟩
      obtain ⟨t, ty, kt⟩ := ty
      have sq : ∀ {H' : Hp}, Ex H H' → SqS K H' a xs := fun {H'} e => by
        rcases hl with h | h
        · exact .inl (sq_lst (e _ _ h))
        · exact .inr (sq_tup (e _ _ h))
      refine ⟨.ref a, a1, _, t, _, true, rfl, ha1, .cons (.ty "list") (.cons (.ty "tuple") .nil), ty, kt, true, rfl, iteF ?_⟩
      refine ⟨_, rfl, a, xs, rfl, sq Xa1, fun J G wk hG A nA => lc_fm wk (fun i => (xs[i]?).map fun x => V.bl (isM x)) (fun H' => Ex Ga1 H') (fun H' l e => ex_mut e nA) (.refl _) (by omega) (fun H' e => hG H' (stays_ex e)) (fun i x H1 H2 acc N hi e hD la y k => ?_) (fun H1 e hD => ?_)⟩
      · obtain ⟨rfl, y⟩ := y
        have cl := (hc x (List.mem_of_getElem? y)).mono (Xa1.trans e)
        have z := k _ e hD
        rw [y] at z
        exact ⟨rfl, _, rfl, x, rfl, cl, acc, hD, la, z⟩
      · have eD : (List.range xs.length).filterMap (fun i => (xs[i]?).map fun x => V.bl (isM x)) = (xs.map isM).map V.bl := by
          have := range_fm (fun x => some (V.bl (isM x))) xs
          simp only [Option.map_eq_bind]
          rw [List.map_map, ← List.filterMap_eq_map']
          exact this
        rw [eD] at hD
        have X1 := Xa1.trans e
        refine ⟨A, _, rfl, sq_lst hD, ?_⟩
        rw [show (xs.map isM).all id = xs.all isM by rw [List.all_map]; rfl]
        cases hm : xs.all isM with
        | false =>
          refine ⟨false, rfl, iteT (qe ?_ H1 X1)⟩
          rw [er]
          unfold momList
          rw [hm]
          rfl
        | true =>
          refine ⟨true, rfl, iteF ?_⟩
          have exs := isM_natV hm
          obtain ⟨ns, hns⟩ : ∃ ns, ns = xs.map dayNum := ⟨_, rfl⟩
          rw [← hns] at exs
          have er2 : r = if ns.Nodup then some ns else none := by rw [er, exs, momList_nat]
          have hl2 : ns.length ≤ 10000 := by rw [hns, List.length_map]; exact lx
          have sq1 := sq X1
          rw [exs, nat_int] at sq1
          refine ⟨_, rfl, a, _, rfl, sq1, fun p np => ?_⟩
          rw [natV_srt]
          have X2 := X1.trans (ex_new (o := .lst (natV (srtN ns))) np)
          have hp : upd H1 p (.lst (natV (srtN ns))) p = some (.lst (natV (srtN ns))) := upd_same
          generalize upd H1 p (.lst (natV (srtN ns))) = H2 at X2 hp ⊢
          have ls := srtN_len ns
          refine ⟨_, rfl, _, rfl, _, rfl, p, _, rfl, sq_lst hp, fun u nu => ?_⟩
          rw [cut1]
          have X3 := X2.trans (ex_new (o := .lst ((natV (srtN ns)).drop 1)) nu)
          have hu : upd H2 u (.lst ((natV (srtN ns)).drop 1)) u = some (.lst ((natV (srtN ns)).drop 1)) := upd_same
          have hp3 := ex_new (o := .lst ((natV (srtN ns)).drop 1)) nu _ _ hp
          generalize upd H2 u (.lst ((natV (srtN ns)).drop 1)) = H3 at X3 hu hp3 ⊢
          have ed : (natV (srtN ns)).drop 1 = natV ((srtN ns).drop 1) := by
            unfold natV
            rw [List.map_drop]
          rw [ed] at hu
          refine ⟨p, u, _, _, rfl, .inl ⟨sq_lst hp3, sq_lst hu, fun B nB => lc_zip (srtN ns) ((srtN ns).drop 1) (fun n : Nat => V.int n) (fun n : Nat => V.int n) (L2.walk_zip rfl) (by rw [List.length_map, List.length_map]) (fun a b => some (.bl (decide (a = b)))) (fun H' => Ex H3 H') (fun H' l e => ex_mut e nB) (.refl _) (by rw [ls]; omega) (fun H' e => ⟨sq_lst (e _ _ hp3), sq_lst (e _ _ hu)⟩) (fun i c d v H4 acc N hc2 hd2 X4 nv hD2 la2 k2 => ?_) (fun H4 X4 hD2 => ?_)⟩⟩
          · have X5 := X4.trans (ex_new (o := .tup [.int (c : Nat), .int (d : Nat)]) nv)
            have hv : upd H4 v (.tup [.int (c : Nat), .int (d : Nat)]) v = some (.tup [.int (c : Nat), .int (d : Nat)]) := upd_same
            have hB5 := ex_new (o := .tup [.int (c : Nat), .int (d : Nat)]) nv _ _ hD2
            have z := k2 _ X5 hB5
            refine ⟨v, _, rfl, sq_tup hv, rfl, _, _, rfl, _, _, rfl, rfl, rfl, _, rfl, _, rfl, rfl, acc, hB5, la2, ?_⟩
            rw [vint_dec]
            rw [show decide ((c : Int) = (d : Int)) = decide (c = d) from decide_eq_decide.mpr (by omega)]
            exact z
          · have eB : ((srtN ns).zip ((srtN ns).drop 1)).filterMap (fun p => some (V.bl (decide (p.1 = p.2)))) = (alikeN (srtN ns)).map V.bl := by
              unfold alikeN
              rw [List.filterMap_eq_map', List.map_map]
              rfl
            rw [eB] at hD2
            have X6 := X3.trans X4
            refine ⟨B, _, rfl, sq_lst hD2, ?_⟩
            rw [alike_any (srtN_le ns), srtN_nodup]
            by_cases nd : ns.Nodup
            · rw [decide_eq_true nd]
              rw [if_pos nd] at er2
              exact ⟨false, rfl, iteF ⟨_, rfl, q ns er2 p H4 X6 (ex_fresh X1 np) (X4 _ _ hp3)⟩⟩
            · rw [decide_eq_false nd]
              rw [if_neg nd] at er2
              exact ⟨true, rfl, iteT (qe er2 H4 X6)⟩
    · refine ⟨_, rfl, (by decide), ?_⟩
      intro a1 na1
      have Xa1 := ex_new (o := HO.tup [V.ty "list", V.ty "tuple"]) na1
      have ha1 : upd H a1 (HO.tup [V.ty "list", V.ty "tuple"]) a1 = some (HO.tup [V.ty "list", V.ty "tuple"]) := upd_same
      generalize upd H a1 (HO.tup [V.ty "list", V.ty "tuple"]) = Ga1 at Xa1 ha1 ⊢
      exact ⟨x, a1, _, t, _, false, rfl, ha1, .cons (.ty "list") (.cons (.ty "tuple") .nil), tyX_mono Xa1 ty, kt, false, rfl, iteT (iteT (qe rfl _ Xa1))⟩
theorem ok_in_rising_order {P : Program} {w : World} {K : PySem.W.Frag} {mg : Str → Option Value} {base : Heap} (T : Env K mg) : Fc P w K mg base 2 (He.ga K "in_rising_order") [] (sp_in_rising_order K ) := by
  obtain ⟨fd, D, F⟩ := fb_in_rising_order T
  exact F.all (D.bindsN fun _ _ _ _ _ _ us hl => match us, hl with | [_], _ => rfl)
end
section
def sp_is_over (K : PySem.W.Frag) : Sp := fun vs H Q _ => ∃ (r : Addr) (ns : List Nat) (b p s : Nat), vs = [.ref r, .int (b : Nat), .int (p : Nat), .int (s : Nat)] ∧ SqL K H r (natV ns) ∧ b + s ≤ ns.length ∧ 1 ≤ p ∧ p < s ∧ ns.length ≤ 1000 ∧ ∀ H', Ex H H' → Q (.bl (isOv ns b p s)) H'
theorem fb_is_over {P : Program} {w : World} {K : PySem.W.Frag} {mg : Str → Option Value} {base : Heap} (T : Env K mg) : ∃ fd, FunD K "is_over" "is_over" (defArgs s_is_over) (defBody s_is_over) (defScope s_is_over) [] [] (He.ga K "is_over") fd ∧ Fb P w K mg base 1 (He.ga K "is_over") fd ["row", "begin", "part", "size"] (sp_is_over K) := by
  obtain ⟨fd, F⟩ := T.f_is_over
  refine ⟨fd, F, fb_of F sc_is_over (fun vs H Q E h => ?_) (fun cdv A outer s H vs Q E hr h => ?_)⟩
  · obtain ⟨r, ns, b, p, s, rfl, _⟩ := h
    rfl
  · obtain ⟨r, ns, b, p, s_, rfl, hw, hbs, p1, ps, hl, q⟩ := h
    refine ⟨_, (pss_cons (ps_set (i := 4) sc_is_over.nd rfl (Or.inr rfl) (pe_op op_sub (pe_ix ix_list (pv 0) (pe_op op_add (pv 1) (pv 2)) (fun _ _ => rfl)) (pe_ix ix_list (pv 0) (pv 1) (fun _ _ => rfl))))
      (pss_one (ps_ret (pe_callB (cr_all rfl) (by rfl) T.n_all (by decide +kernel) (pa_cons (pe_lc (own := [("at", 5)]) (by rfl) sc_is_over.nd (pi_range2 (by rfl) T.n_range (pa_cons (pv 1) (pa_cons (pe_op op_sub (pe_op op_add (pv 1) (pv 3)) (pv 2)) pa_nil))) (blkOk_by (own := [("at", 5)]) (N := ["row", "begin", "part", "size", "step", "at"]) (sc := defScope s_is_over) (by decide +kernel)) (fun _ _ _ _ _ => (pg_name (i := 5) sc_is_over.nd rfl (Or.inl rfl))) (fun _ _ _ _ _ => pts_nil) (fun _ _ _ _ _ => (pe_cmpR op_eq (pe_op op_sub (pe_ix (ix_listK K) (pv 0) (pe_op op_add (pv 5) (pv 2)) (fun _ _ => rfl)) (pe_ix (ix_listK K) (pv 0) (pv 5) (fun _ _ => rfl))) (pv 4) (nomark _)))) pa_nil))))), ?_⟩
    have i1 := natV_at (ns := ns) (i := (b : Int) + (p : Int)) (k := b + p) (by omega) (by omega)
    have i2 := natV_at (ns := ns) (i := (b : Int)) (k := b) rfl (by omega)
    refine ⟨_, rfl, _, rfl, _, rfl, _, _, rfl, rfl, _, _, _, _, rfl, rfl, hw, i1, _, rfl, _, rfl, _, _, _, _, rfl, rfl, hw, i2, _, _, rfl, rfl, _, rfl, _, rfl, _, rfl, _, _, rfl, rfl, _, rfl, _, _, rfl, rfl, _, _, rfl, ⟨(by omega), ⟨(by omega), ⟨(by omega), (by omega)⟩⟩⟩, ?_⟩
    have en : ((b : Int) + (s_ : Int) - (p : Int) - (b : Int)).toNat = s_ - p := by omega
    rw [en]
    intro A nA
    refine lc_rg (fun i => some (.bl (decide ((gN ns (b + i + p) : Int) - gN ns (b + i) = (gN ns (b + p) : Int) - gN ns b)))) (fun H' => Ex H H') (fun H' l e => ex_mut e nA) (.refl _) (by omega) (fun i H' acc N hi e hD la k => ?_) (fun H' e hD => ?_)
    · have i3 := natV_at (ns := ns) (i := (b : Int) + (i : Int) + (p : Int)) (k := b + i + p) (by omega) (by omega)
      have i4 := natV_at (ns := ns) (i := (b : Int) + (i : Int)) (k := b + i) (by omega) (by omega)
      have hw' := ex_sql e hw
      refine ⟨rfl, ?_⟩
      refine ⟨_, rfl, _, rfl, _, rfl, _, _, rfl, rfl, _, _, _, _, rfl, rfl, hw', i3, _, rfl, _, rfl, _, _, _, _, rfl, rfl, hw', i4, _, _, rfl, rfl, _, rfl, rfl, _, hD, la, ?_⟩
      try dsimp only [tNil]
      rw [vint_dec]
      exact k H' e hD
    · rw [fm_bl] at hD
      refine ⟨A, _, rfl, sq_lst hD, ?_⟩
      rw [all_id]
      exact q H' e
theorem ok_is_over {P : Program} {w : World} {K : PySem.W.Frag} {mg : Str → Option Value} {base : Heap} (T : Env K mg) : Fc P w K mg base 1 (He.ga K "is_over") [] (sp_is_over K ) := by
  obtain ⟨fd, D, F⟩ := fb_is_over T
  exact F.all (D.bindsN fun _ _ _ _ _ _ us hl => match us, hl with | [_, _, _, _], _ => rfl)
end
section
def sp_first_parts (K : PySem.W.Frag) : Sp := fun vs H Q _ => ∃ (r : Addr) (ns : List Nat) (b s : Nat), vs = [.ref r, .int (b : Nat), .int (s : Nat)] ∧ SqL K H r (natV ns) ∧ b + s ≤ ns.length ∧ ns.length ≤ 1000 ∧ ∀ a H', Ex H H' → H a = none → H' a = some (.lst (natV (firstP ns b s))) → Q (.ref a) H'
theorem fb_first_parts {P : Program} {w : World} {K : PySem.W.Frag} {mg : Str → Option Value} {base : Heap} (T : Env K mg) : ∃ fd, FunD K "first_parts" "first_parts" (defArgs s_first_parts) (defBody s_first_parts) (defScope s_first_parts) [] [] (He.ga K "first_parts") fd ∧ Fb P w K mg base 2 (He.ga K "first_parts") fd ["row", "begin", "size"] (sp_first_parts K) := by
  obtain ⟨fd, F⟩ := T.f_first_parts
  refine ⟨fd, F, fb_of F sc_first_parts (fun vs H Q E h => ?_) (fun cdv A outer s H vs Q E hr h => ?_)⟩
  · obtain ⟨r, ns, b, s, rfl, _⟩ := h
    rfl
  · obtain ⟨r, ns, b, s_, rfl, hw, hbs, hl, q⟩ := h
    refine ⟨_, (pss_one (ps_ret (pe_lc (own := [("part", 3)]) (by rfl) sc_first_parts.nd (pi_range2 (by rfl) T.n_range (pa_cons pe_int (pa_cons (pv 2) pa_nil))) (blkOk_by (own := [("part", 3)]) (N := ["row", "begin", "size", "part"]) (sc := defScope s_first_parts) (by decide +kernel)) (fun _ _ _ _ _ => (pg_name (i := 3) sc_first_parts.nd rfl (Or.inl rfl))) (fun _ _ _ _ _ => (pts_one (PW.pt (pw_and (pt_cmpR op_eq (pe_op op_mod (pv 2) (pv 3)) pe_int (nomark _)) (pw_and1 (pt_val (c_call (ok_is_over T) (hr.mono (by decide)) T.g_is_over T.k_is_over takes0 (pa_cons (pv 0) (pa_cons (pv 1) (pa_cons (pv 3) (pa_cons (pv 2) pa_nil))))))))))) (fun _ _ _ _ _ => (pv 3))))), ?_⟩
    refine ⟨_, rfl, _, _, rfl, ⟨(by decide), ⟨(by decide), ⟨(by omega), (by omega)⟩⟩⟩, ?_⟩
    intro A nA
    have en : ((s_ : Int) - 1).toNat = s_ - 1 := by omega
    rw [en]
    refine lc_rg (fun i => if firstB ns b s_ i = true then some (.int ((i + 1 : Nat) : Int)) else none) (fun H' => Ex H H') (fun H' l e => ex_mut e nA) (.refl _) (by omega) (fun i H' acc N hi e hD la k => ?_) (fun H' e hD => ?_)
    · have hw' := ex_sql e hw
      have hp1 : 1 ≤ i + 1 := by omega
      have hp2 : i + 1 < s_ := by omega
      have ei : (1 : Int) + (i : Int) = ((i + 1 : Nat) : Int) := by omega
      rw [ei]
      have hz : (0 : Int) < ((i + 1 : Nat) : Int) := by omega
      refine ⟨rfl, ?_⟩
      refine ⟨_, rfl, _, rfl, _, _, rfl, rfl, hz, rfl, _, rfl, ?_⟩
      try dsimp only [tNil]
      have em : ((s_ : Nat) : Int) % ((i + 1 : Nat) : Int) = ((s_ % (i + 1) : Nat) : Int) := (Int.natCast_emod s_ (i + 1)).symm
      rw [vint_dec, em]
      refine ite2 (fun c => ?_) (fun c => ?_)
      · have c2 : s_ % (i + 1) = 0 := by
          have := of_decide_eq_true c
          omega
        have fb : firstB ns b s_ i = isOv ns b (i + 1) s_ := by
          unfold firstB
          rw [decide_eq_true c2, Bool.true_and]
        rw [fb] at k
        refine ⟨_, rfl, _, rfl, _, rfl, _, rfl, _, _, _, _, _, rfl, hw', hbs, hp1, hp2, hl, ?_⟩
        intro H4 X4
        have z := k H4 (e.trans X4) (X4 _ _ hD)
        cases hv : isOv ns b (i + 1) s_ with
        | true =>
          rw [hv, if_pos rfl] at z
          exact ⟨true, rfl, iteT ⟨_, rfl, acc, X4 _ _ hD, la, z⟩⟩
        | false =>
          rw [hv, if_neg (by simp)] at z
          exact ⟨false, rfl, iteF z⟩
      · have fb : firstB ns b s_ i = false := by
          unfold firstB
          rw [decide_eq_false (fun z => c (decide_eq_true (by omega))), Bool.false_and]
        have z := k H' e hD
        rw [fb, if_neg (by simp)] at z
        exact iteF z
    · refine q A H' e nA ?_
      rw [hD]
      unfold firstP natV
      rw [List.map_filterMap]
      congr 3
      funext i
      by_cases c : firstB ns b s_ i = true
      · rw [if_pos c, if_pos c]
        rfl
      · rw [if_neg c, if_neg c]
        rfl
theorem ok_first_parts {P : Program} {w : World} {K : PySem.W.Frag} {mg : Str → Option Value} {base : Heap} (T : Env K mg) : Fc P w K mg base 2 (He.ga K "first_parts") [] (sp_first_parts K ) := by
  obtain ⟨fd, D, F⟩ := fb_first_parts T
  exact F.all (D.bindsN fun _ _ _ _ _ _ us hl => match us, hl with | [_, _, _], _ => rfl)
end
section
def sp_most_number (K : PySem.W.Frag) : Sp := fun vs H Q _ => ∃ (r p : Addr) (ns : List Nat) (pap : List (List Int)) (b s : Nat), vs = [.ref r, .ref p, .int (b : Nat), .int (s : Nat)] ∧ SqL K H r (natV ns) ∧ PapAt K H p pap ∧ Fits pap b s ∧ 1 ≤ s ∧ b + s ≤ ns.length ∧ ns.length ≤ 1000 ∧ ∀ H', Ex H H' → Q (.int (mostP ns pap b s)) H'
theorem first_mem {ns : List Nat} {b s p : Nat} (h : p ∈ firstP ns b s) : 1 ≤ p ∧ p < s := by
  unfold firstP at h
  obtain ⟨i, hi, e⟩ := List.mem_filterMap.mp h
  have := List.mem_range.mp hi
  split at e
  · injection e with e
    omega
  · cases e
theorem fb_most_number {P : Program} {w : World} {K : PySem.W.Frag} {mg : Str → Option Value} {base : Heap} (T : Env K mg) : ∃ fd, FunD K "most_number" "most_number" (defArgs s_most_number) (defBody s_most_number) (defScope s_most_number) [] [] (He.ga K "most_number") fd ∧ Fb P w K mg base 3 (He.ga K "most_number") fd ["row", "paper", "begin", "size"] (sp_most_number K) := by
  obtain ⟨fd, F⟩ := T.f_most_number
  refine ⟨fd, F, fb_of F sc_most_number (fun vs H Q E h => ?_) (fun cdv A outer s H vs Q E hr h => ?_)⟩
  · obtain ⟨r, p, ns, pap, b, s, rfl, _⟩ := h
    rfl
  · obtain ⟨r, p, ns, pap, b, s_, rfl, hw, hP, hF, s1, hbs, hl, q⟩ := h
    refine ⟨_, (pss_cons (ps_if (pt_cmpR op_eq (pv 3) pe_int (nomark _))
      (pss_one (ps_ret pe_int))
      pss_nil)
      (pss_cons (ps_setLc (i := 4) (own := [("cut", 6)]) (by rfl) sc_most_number.nd rfl rfl (sw_true rfl rfl rfl (by decide +kernel)) (pi_range2 (by rfl) T.n_range (pa_cons pe_int (pa_cons (pv 3) pa_nil))) (blkOk_by (own := [("cut", 6)]) (N := ["row", "paper", "begin", "size", "cuts", "overs", "cut", "part"]) (sc := defScope s_most_number) (by decide +kernel)) (fun _ _ _ _ _ => (pg_name (i := 6) sc_most_number.nd rfl (Or.inl rfl))) (fun _ _ _ _ _ => pts_nil) (fun _ _ _ _ _ => (pe_op op_add (pe_ix (ix_seqA K) (pe_ix (ix_seqA K) (pv 1) (pv 2) (fun _ _ => rfl)) (pe_op op_sub (pv 6) pe_int) (fun _ _ => rfl)) (pe_ix (ix_seqA K) (pe_ix (ix_seqA K) (pv 1) (pe_op op_add (pv 2) (pv 6)) (fun _ _ => rfl)) (pe_op op_sub (pe_op op_sub (pv 3) (pv 6)) pe_int) (fun _ _ => rfl)))))
      (pss_cons (ps_setLc (i := 5) (own := [("part", 7)]) (by rfl) sc_most_number.nd rfl rfl (sw_true rfl rfl rfl (by decide +kernel)) (pi_list (c_call (ok_first_parts T) (hr.mono (by decide)) T.g_first_parts T.k_first_parts takes0 (pa_cons (pv 0) (pa_cons (pv 2) (pa_cons (pv 3) pa_nil))))) (blkOk_by (own := [("part", 7)]) (N := ["row", "paper", "begin", "size", "cuts", "overs", "cut", "part"]) (sc := defScope s_most_number) (by decide +kernel)) (fun _ _ _ _ _ => (pg_name (i := 7) sc_most_number.nd rfl (Or.inl rfl))) (fun _ _ _ _ _ => pts_nil) (fun _ _ _ _ _ => (pe_op op_add (pe_ix (ix_seqA K) (pe_ix (ix_seqA K) (pv 1) (pv 2) (fun _ _ => rfl)) (pe_op op_sub (pv 7) pe_int) (fun _ _ => rfl)) pe_int)))
      (pss_one (ps_ret (pe_callB (cr_min rfl) (by rfl) T.n_min (by decide +kernel) (pa_cons (pe_op op_cat (pv 4) (pv 5)) pa_nil))))))), ?_⟩
    refine ⟨_, rfl, rfl, _, rfl, ?_⟩
    try dsimp only [tNil]
    rw [vint_dec]
    refine ite2 (fun c => ?_) (fun c => ?_)
    · have c1 : s_ = 1 := by
        have := of_decide_eq_true c
        omega
      have z := q H (.refl _)
      unfold mostP at z
      rw [if_pos c1] at z
      exact z
    · have c1 : s_ ≠ 1 := fun z => c (decide_eq_true (by omega))
      refine ⟨_, rfl, _, _, rfl, ⟨(by decide), ⟨(by decide), ⟨(by omega), (by omega)⟩⟩⟩, ?_⟩
      intro A nA
      have en : ((s_ : Int) - 1).toNat = s_ - 1 := by omega
      rw [en]
      refine lc_rg (fun i => some (.int (pg pap b i + pg pap (b + i + 1) (s_ - i - 2)))) (fun H' => Ex H H') (fun H' l e => ex_mut e nA) (.refl _) (by omega) (fun i H' acc N hi e hD la k => ?_) (fun H1 X1 hD1 => ?_)
      · have hP' := hP.mono e
        obtain ⟨f1, f2⟩ := hF 0 i (by omega) (by omega)
        obtain ⟨g1, g2⟩ := hF (i + 1) (s_ - i - 2) (by omega) (by omega)
        refine ⟨rfl, _, rfl, _, rfl, pap_ix hP' rfl (by simpa using f1) fun b1 h1 => ⟨_, rfl, _, _, rfl, rfl, row_ix h1 (j := i) (by omega) (by simpa using f2) ⟨_, rfl, _, rfl, _, rfl, _, _, rfl, rfl, pap_ix hP' (i := b + i + 1) (by omega) (by omega) fun b2 h2 => ?_⟩⟩⟩
        refine ⟨_, rfl, _, rfl, _, _, rfl, rfl, _, _, rfl, rfl, row_ix h2 (j := s_ - i - 2) (by omega) (by omega) ⟨_, _, rfl, rfl, acc, hD, la, ?_⟩⟩
        exact k H' e hD
      have hw1 := ex_sql X1 hw
      have eC : (List.range (s_ - 1)).filterMap (fun i => some (V.int (pg pap b i + pg pap (b + i + 1) (s_ - i - 2)))) = (cutsP pap b s_).map V.int := by
        unfold cutsP
        rw [List.filterMap_eq_map', List.map_map]
        rfl
      rw [eC] at hD1
      refine ⟨_, rfl, _, rfl, _, rfl, _, _, _, _, rfl, hw1, hbs, hl, ?_⟩
      intro f H2 X2 nf hf
      have l1 : (firstP ns b s_).length ≤ 1000 := by
        unfold firstP
        have := List.length_filterMap_le (fun i => if firstB ns b s_ i = true then some (i + 1) else none) (List.range (s_ - 1))
        rw [List.length_range] at this
        omega
      refine ⟨_, rfl, ⟨_, (sq_lst hf)⟩, ?_⟩
      intro B nB
      refine lc_on (firstP ns b s_) (fun n : Nat => V.int n) L2.walk_list (fun n => some (.int (pg pap b (n - 1) + 1))) (fun H' => Ex H2 H') (fun H' l e => ex_mut e nB) (.refl _) (by omega) (fun H' e => sq_lst (e _ _ hf)) (fun i n H' acc N hn e hD la k => ?_) (fun H3 X3 hD3 => ?_)
      · have hP' := hP.mono ((X1.trans X2).trans e)
        obtain ⟨m1, m2⟩ := first_mem (List.mem_of_getElem? hn)
        obtain ⟨f1, f2⟩ := hF 0 (n - 1) (by omega) (by omega)
        refine ⟨rfl, _, rfl, _, rfl, pap_ix hP' rfl (by simpa using f1) fun b1 h1 => ⟨_, rfl, _, _, rfl, rfl, row_ix h1 (j := n - 1) (by omega) (by simpa using f2) ⟨_, _, rfl, rfl, acc, hD, la, ?_⟩⟩⟩
        exact k H' e hD
      · have eO : (firstP ns b s_).filterMap (fun n => some (V.int (pg pap b (n - 1) + 1))) = (oversP ns pap b s_).map V.int := by
          unfold oversP
          rw [List.filterMap_eq_map', List.map_map]
          rfl
        rw [eO] at hD3
        have hA3 := X3 _ _ (X2 _ _ hD1)
        have l2 : (cutsP pap b s_).length ≤ 1000 := by
          unfold cutsP
          rw [List.length_map, List.length_range]
          omega
        have l3 : (oversP ns pap b s_).length ≤ 1000 := by
          unfold oversP
          rw [List.length_map]
          exact l1
        have lz : ((cutsP pap b s_).map V.int).length + ((oversP ns pap b s_).map V.int).length ≤ sizeLine := sz_big (by rw [List.length_map, List.length_map]; omega)
        refine ⟨_, rfl, _, rfl, A, B, _, _, rfl, rfl, hA3, hD3, lz, fun C nC => ?_⟩
        refine ⟨C, cutsP pap b s_ ++ oversP ns pap b s_, rfl, by rw [List.map_append]; exact sq_lst upd_same, ?_, fun m hm hle => ?_⟩
        · have : (cutsP pap b s_).length = s_ - 1 := by
            unfold cutsP
            rw [List.length_map, List.length_range]
          rw [List.length_append]
          omega
        · have z := q _ (((X1.trans X2).trans X3).trans (ex_new (o := .lst ((cutsP pap b s_).map V.int ++ (oversP ns pap b s_).map V.int)) nC))
          unfold mostP at z
          rw [if_neg c1, ← minI_eq hm hle] at z
          exact z
theorem ok_most_number {P : Program} {w : World} {K : PySem.W.Frag} {mg : Str → Option Value} {base : Heap} (T : Env K mg) : Fc P w K mg base 3 (He.ga K "most_number") [] (sp_most_number K ) := by
  obtain ⟨fd, D, F⟩ := fb_most_number T
  exact F.all (D.bindsN fun _ _ _ _ _ _ us hl => match us, hl with | [_, _, _, _], _ => rfl)
end
section
/-- rows of a paper in lists of their own, which stand at places that N tells -/
def PapL (N : Addr → Prop) (H : Hp) (a : Addr) (pap : List (List Int)) (as : List Addr) : Prop := H a = some (.lst (as.map V.ref)) ∧ as.length = pap.length ∧ as.Nodup ∧ ∀ (i : Nat) (b : Addr), as[i]? = some b → N b ∧ b ≠ a ∧ H b = some (.lst ((pap.getD i []).map V.int))
theorem PapL.at {K : PySem.W.Frag} {N : Addr → Prop} {H : Hp} {a : Addr} {pap : List (List Int)} {as : List Addr} (h : PapL N H a pap as) : PapAt K H a pap := by
  obtain ⟨h1, h2, _, h3⟩ := h
  refine ⟨as, .inl (sq_lst h1), h2, fun i b r hi hr => .inl ?_⟩
  have := (h3 i b hi).2.2
  rw [List.getD_eq_getElem?_getD, hr] at this
  exact sq_lst this
theorem PapL.mono {N : Addr → Prop} {H H' : Hp} {a : Addr} {pap : List (List Int)} {as : List Addr} (h : PapL N H a pap as) (e : Ex H H') : PapL N H' a pap as := ⟨e _ _ h.1, h.2.1, h.2.2.1, fun i b hi => let ⟨h1, h2, h3⟩ := h.2.2.2 i b hi; ⟨h1, h2, e _ _ h3⟩⟩
theorem PapL.put {N : Addr → Prop} {H : Hp} {a : Addr} {pap : List (List Int)} {as : List Addr} (h : PapL N H a pap as) {i : Nat} {b : Addr} (hi : as[i]? = some b) (r : List Int) : PapL N (upd H b (.lst (r.map V.int))) a (pap.set i r) as := by
  obtain ⟨h1, h2, h3, h4⟩ := h
  have ba := (h4 i b hi).2.1
  obtain ⟨il, _⟩ := List.getElem?_eq_some_iff.mp hi
  refine ⟨by rw [upd_ne (Ne.symm ba)]; exact h1, by rw [List.length_set]; exact h2, h3, fun j c hj => ?_⟩
  obtain ⟨g1, g2, g3⟩ := h4 j c hj
  refine ⟨g1, g2, ?_⟩
  by_cases e : j = i
  · subst e
    rw [hi] at hj
    cases hj
    rw [upd_same, List.getD_eq_getElem?_getD, List.getElem?_set_self (by omega)]
    rfl
  · have bc : c ≠ b := fun z => e (by
      obtain ⟨jl, e1⟩ := List.getElem?_eq_some_iff.mp hj
      obtain ⟨il, e2⟩ := List.getElem?_eq_some_iff.mp hi
      exact (List.getElem_inj h3).mp (by rw [e1, e2, z]))
    rw [upd_ne bc, g3, List.getD_eq_getElem?_getD, List.getD_eq_getElem?_getD, List.getElem?_set_ne (Ne.symm e)]
end
section
def Shp (n i j : Nat) (pap : List (List Int)) : Prop := pap.length = n ∧ ∀ b, b < n → (pap.getD b []).length = if b < j then i + 1 else min i (n - b)
def Bd (pap : List (List Int)) : Prop := ∀ b k, k < (pap.getD b []).length → 1 ≤ pg pap b k ∧ pg pap b k ≤ (k : Int) + 1
theorem shp_fits {n i j : Nat} {pap : List (List Int)} (h : Shp n i j pap) (hj : j + i + 1 ≤ n) : Fits pap j (i + 1) := by
  obtain ⟨h1, h2⟩ := h
  intro p k hpk h0
  refine ⟨by omega, ?_⟩
  rw [h2 _ (by omega)]
  split
  · omega
  · by_cases c : p = 0
    · have := h0 c
      omega
    · omega
theorem getD_set_self {pap : List (List Int)} {j : Nat} (r : List Int) (h : j < pap.length) : (pap.set j r).getD j [] = r := by
  rw [List.getD_eq_getElem?_getD, List.getElem?_set_self h]
  rfl
theorem getD_set_ne {pap : List (List Int)} {j b : Nat} (r : List Int) (h : j ≠ b) : (pap.set j r).getD b [] = pap.getD b [] := by
  rw [List.getD_eq_getElem?_getD, List.getD_eq_getElem?_getD, List.getElem?_set_ne h]
theorem shp_step {n i j : Nat} {pap : List (List Int)} (h : Shp n i j pap) (hj : j + i + 1 ≤ n) (v : Int) : Shp n i (j + 1) (pap.set j (pap.getD j [] ++ [v])) := by
  obtain ⟨h1, h2⟩ := h
  refine ⟨by rw [List.length_set]; exact h1, fun b hb => ?_⟩
  by_cases c : b = j
  · subst c
    rw [getD_set_self _ (by omega), List.length_append, h2 b hb, if_neg (Nat.lt_irrefl _), if_pos (Nat.lt_succ_self _)]
    show min i (n - b) + 1 = i + 1
    omega
  · rw [getD_set_ne _ (Ne.symm c), h2 b hb]
    by_cases d : b < j
    · rw [if_pos d, if_pos (by omega)]
    · rw [if_neg d, if_neg (by omega)]
theorem bd_step {n i j : Nat} {pap : List (List Int)} (h : Shp n i j pap) (hj : j + i + 1 ≤ n) (hb : Bd pap) {v : Int} (v1 : 1 ≤ v) (v2 : v ≤ (i : Int) + 1) : Bd (pap.set j (pap.getD j [] ++ [v])) := by
  obtain ⟨h1, h2⟩ := h
  intro b k hk
  unfold pg
  by_cases c : b = j
  · subst c
    rw [getD_set_self _ (by omega)] at hk ⊢
    have lr := h2 b (by omega)
    rw [if_neg (Nat.lt_irrefl _)] at lr
    rw [List.length_append] at hk
    have hk2 : k < (pap.getD b []).length + 1 := hk
    by_cases d : k < (pap.getD b []).length
    · have := hb b k d
      unfold pg at this
      rw [List.getD_eq_getElem?_getD, List.getElem?_append_left d, ← List.getD_eq_getElem?_getD]
      exact this
    · have e : k = (pap.getD b []).length := by omega
      rw [List.getD_eq_getElem?_getD, e, List.getElem?_append_right (Nat.le_refl _)]
      simp only [Nat.sub_self, List.getElem?_cons_zero, Option.getD_some]
      omega
  · rw [getD_set_ne _ (Ne.symm c)] at hk ⊢
    exact hb b k hk
theorem shp_next {n i : Nat} {pap : List (List Int)} (h : Shp n i (n - i) pap) : Shp n (i + 1) 0 pap := by
  obtain ⟨h1, h2⟩ := h
  refine ⟨h1, fun b hb => ?_⟩
  rw [h2 b hb, if_neg (Nat.not_lt_zero b)]
  split <;> omega
theorem shp_zero (n : Nat) : Shp n 0 0 (List.replicate n []) := by
  refine ⟨List.length_replicate, fun b hb => ?_⟩
  rw [List.getD_eq_getElem?_getD, List.getElem?_replicate, if_pos hb, if_neg (Nat.not_lt_zero b)]
  simp
theorem bd_zero (n : Nat) : Bd (List.replicate n []) := fun b k hk => by
  rw [List.getD_eq_getElem?_getD, List.getElem?_replicate] at hk
  split at hk <;> simp at hk
theorem most_bounds {ns : List Nat} {pap : List (List Int)} {b s : Nat} (hb : Bd pap) (hF : Fits pap b s) (hs : 1 ≤ s) : 1 ≤ mostP ns pap b s ∧ mostP ns pap b s ≤ (s : Int) := by
  unfold mostP
  by_cases c : s = 1
  · rw [if_pos c]
    omega
  · rw [if_neg c]
    have g1 : ∀ k, k < s - 1 → 1 ≤ pg pap b k ∧ pg pap b k ≤ (k : Int) + 1 := fun k hk => hb b k (by have := (hF 0 k (by omega) (by omega)).2; simpa using this)
    have g2 : ∀ k, k < s - 1 → 1 ≤ pg pap (b + k + 1) (s - k - 2) ∧ pg pap (b + k + 1) (s - k - 2) ≤ ((s - k - 2 : Nat) : Int) + 1 := fun k hk => hb (b + k + 1) (s - k - 2) (by
      have := (hF (k + 1) (s - k - 2) (by omega) (by omega)).2
      rw [show b + (k + 1) = b + k + 1 by omega] at this
      exact this)
    have m0 : pg pap b 0 + pg pap (b + 0 + 1) (s - 0 - 2) ∈ cutsP pap b s ++ oversP ns pap b s := List.mem_append_left _ (List.mem_map.mpr ⟨0, List.mem_range.mpr (by omega), rfl⟩)
    obtain ⟨h1, h2⟩ := minI_mem (List.ne_nil_of_mem m0)
    have a1 := h2 _ m0
    have a2 := g1 0 (by omega)
    have a3 := g2 0 (by omega)
    generalize minI (cutsP pap b s ++ oversP ns pap b s) = mv at h1 a1 ⊢
    refine ⟨?_, by omega⟩
    rcases List.mem_append.mp h1 with h | h
    · unfold cutsP at h
      obtain ⟨k, hk, e⟩ := List.mem_map.mp h
      have hk2 := List.mem_range.mp hk
      have b1 := g1 k hk2
      have b2 := g2 k hk2
      omega
    · unfold oversP at h
      obtain ⟨p, hp, e⟩ := List.mem_map.mp h
      unfold firstP at hp
      obtain ⟨k, hk, e2⟩ := List.mem_filterMap.mp hp
      have hk2 := List.mem_range.mp hk
      split at e2
      · injection e2 with e2
        have b1 := g1 (p - 1) (by omega)
        omega
      · cases e2
end
section
/-- the moments of ns, over and over -/
def overN (ns : List Nat) (m s : Nat) : List Nat := (List.range m).flatMap fun t => ns.map fun n => n + t * s
theorem overN_len (ns : List Nat) (m s : Nat) : (overN ns m s).length = m * ns.length := by
  unfold overN
  induction m with
  | zero => simp
  | succ m ih =>
    rw [List.range_succ, List.flatMap_append, List.length_append, ih]
    simp
    rw [Nat.add_mul, Nat.one_mul]
theorem overN_succ (ns : List Nat) (m s : Nat) : overN ns (m + 1) s = overN ns m s ++ ns.map fun n => n + m * s := by
  unfold overN
  rw [List.range_succ, List.flatMap_append]
  simp
/-- shorts -/
inductive Tr where
  | at (n : Nat)
  | ov (ps : List Tr) (m s : Nat)
mutual
def Tr.moms : Tr → List Nat
  | .at n => [n]
  | .ov ps m s => overN (momsL ps) m s
def momsL : List Tr → List Nat
  | [] => []
  | t :: ts => t.moms ++ momsL ts
end
mutual
def Tr.nest : Tr → Nat
  | .at _ => 0
  | .ov ps _ _ => 1 + nestL ps
def nestL : List Tr → Nat
  | [] => 0
  | t :: ts => max t.nest (nestL ts)
end
mutual
def Tr.pcs : Tr → Nat
  | .at _ => 1
  | .ov ps _ _ => 1 + pcsL ps
def pcsL : List Tr → Nat
  | [] => 0
  | t :: ts => t.pcs + pcsL ts
end
theorem pcsL_app (a b : List Tr) : pcsL (a ++ b) = pcsL a + pcsL b := by
  induction a with
  | nil => simp [pcsL]
  | cons t r ih => simp [pcsL, ih, Nat.add_assoc]
theorem momsL_app (a b : List Tr) : momsL (a ++ b) = momsL a ++ momsL b := by
  induction a with
  | nil => simp [momsL]
  | cons t r ih => simp [momsL, ih]
theorem nestL_mem {t : Tr} : ∀ {ts : List Tr}, t ∈ ts → t.nest ≤ nestL ts
  | x :: r, h => by
    show _ ≤ max x.nest (nestL r)
    rcases List.mem_cons.mp h with rfl | h
    · exact Nat.le_max_left _ _
    · exact Nat.le_trans (nestL_mem h) (Nat.le_max_right _ _)
theorem nestL_max : ∀ {ts : List Tr}, ts ≠ [] → ∃ t ∈ ts, t.nest = nestL ts
  | [t], _ => ⟨t, List.mem_cons_self, by show _ = max t.nest 0; omega⟩
  | t :: x :: r, _ => by
    obtain ⟨y, hy, e⟩ := nestL_max (ts := x :: r) (by simp)
    have e2 : nestL (t :: x :: r) = max t.nest (nestL (x :: r)) := by simp [nestL]
    by_cases c : nestL (x :: r) ≤ t.nest
    · exact ⟨t, List.mem_cons_self, by omega⟩
    · exact ⟨y, List.mem_cons_of_mem _ hy, by omega⟩
theorem momsL_take {ts : List Tr} {i : Nat} {t : Tr} (h : ts[i]? = some t) : momsL (ts.take (i + 1)) = momsL (ts.take i) ++ t.moms := by
  rw [take_snoc h, momsL_app]
  simp [momsL]
theorem momsL_take_len (ts : List Tr) (i : Nat) : (momsL (ts.take i)).length ≤ (momsL ts).length := by
  conv => rhs; rw [← List.take_append_drop i ts, momsL_app, List.length_append]
  omega
mutual
/-- a short that may be made -/
def Tr.ok : Tr → Prop
  | .at _ => True
  | .ov ps m s => ps ≠ [] ∧ 2 ≤ m ∧ 1 ≤ s ∧ m * (momsL ps).length ≤ 1440 ∧ (momsL ps).getLastD 0 < s + (momsL ps).headD 0 ∧ (momsL ps).Pairwise (· < ·) ∧ okL_ ps
def okL_ : List Tr → Prop
  | [] => True
  | t :: ts => t.ok ∧ okL_ ts
end
theorem okL_mem {t : Tr} : ∀ {ts : List Tr}, okL_ ts → t ∈ ts → t.ok
  | x :: r, h, hm => by
    unfold okL_ at h
    rcases List.mem_cons.mp hm with rfl | hm
    · exact h.1
    · exact okL_mem h.2 hm
theorem pos_moms (t : Tr) (h : t.ok) : 1 ≤ t.moms.length := by
  match t, h with
  | .at n, _ =>
    unfold Tr.moms
    exact Nat.le_refl _
  | .ov (x :: r) m s, h =>
    unfold Tr.ok at h
    obtain ⟨_, h2, _, _, _, _, h7⟩ := h
    unfold Tr.moms
    rw [overN_len]
    have hx : 1 ≤ x.moms.length := pos_moms x (by unfold okL_ at h7; exact h7.1)
    have : 1 ≤ (momsL (x :: r)).length := by
      unfold momsL
      rw [List.length_append]
      omega
    exact Nat.le_trans (by decide) (Nat.mul_le_mul h2 this)
  | .ov [] m s, h =>
    unfold Tr.ok at h
    exact absurd rfl h.1
theorem len_moms : ∀ {ts : List Tr}, okL_ ts → ts.length ≤ (momsL ts).length
  | [], _ => Nat.le_refl _
  | t :: ts, h => by
    unfold okL_ at h
    have h1 := pos_moms t h.1
    have h2 := len_moms h.2
    unfold momsL
    rw [List.length_cons, List.length_append]
    omega
theorem ov_facts {ps : List Tr} {m s : Nat} (h : (Tr.ov ps m s).ok) : ps ≠ [] ∧ 2 ≤ m ∧ m ≤ 1440 ∧ m * (momsL ps).length ≤ 1440 ∧ (momsL ps).length ≤ 1440 ∧ ps.length ≤ 1440 ∧ okL_ ps := by
  unfold Tr.ok at h
  obtain ⟨h1, h2, h3, h4, _, _, h7⟩ := h
  have h8 := len_moms h7
  have h9 : 0 < ps.length := List.length_pos_iff.mpr h1
  have h10 : m ≤ m * (momsL ps).length := Nat.le_mul_of_pos_right m (by omega)
  have h11 : (momsL ps).length ≤ m * (momsL ps).length := Nat.le_mul_of_pos_left _ (by omega)
  exact ⟨h1, h2, by omega, h4, by omega, by omega, h7⟩
theorem momsL_few : ∀ {ts : List Tr}, okL_ ts → (momsL ts).length ≤ 1440 * ts.length
  | [], _ => by
    unfold momsL
    exact Nat.zero_le _
  | t :: r, h => by
    have h1 : t.moms.length ≤ 1440 := by
      have h2 := h
      unfold okL_ at h2
      cases t with
      | «at» n =>
        unfold Tr.moms
        show 1 ≤ 1440
        decide
      | ov ps m s =>
        have h3 := h2.1
        unfold Tr.ok at h3
        unfold Tr.moms
        rw [overN_len]
        exact h3.2.2.2.1
    have h2 : (momsL r).length ≤ 1440 * r.length := momsL_few (by unfold okL_ at h; exact h.2)
    unfold momsL
    rw [List.length_append, List.length_cons]
    omega
theorem ov_nest {ps : List Tr} {m s d : Nat} (h : (Tr.ov ps m s).nest ≤ d + 1) : nestL ps ≤ d := by
  unfold Tr.nest at h
  omega
theorem headD_app {a b : List Nat} (h : a ≠ []) : (a ++ b).headD 0 = a.headD 0 := by
  cases a with
  | nil => exact absurd rfl h
  | cons x r => rfl
theorem lastD_app {a b : List Nat} (h : b ≠ []) : (a ++ b).getLastD 0 = b.getLastD 0 := by
  rw [List.getLastD_eq_getLast?, List.getLastD_eq_getLast?, List.getLast?_append]
  cases hb : b.getLast? with
  | none => exact absurd (List.getLast?_eq_none_iff.mp hb) h
  | some x => rfl
theorem lastD_map {a : List Nat} (k : Nat) (h : a ≠ []) : (a.map fun n => n + k).getLastD 0 = a.getLastD 0 + k := by
  rw [List.getLastD_eq_getLast?, List.getLastD_eq_getLast?, List.getLast?_map]
  cases hb : a.getLast? with
  | none => exact absurd (List.getLast?_eq_none_iff.mp hb) h
  | some x => rfl
theorem overN_head {ns : List Nat} {s : Nat} (h : ns ≠ []) : ∀ m, 1 ≤ m → (overN ns m s).headD 0 = ns.headD 0
  | 1, _ => by
    rw [overN_succ]
    show ([] ++ ns.map fun n => n + 0 * s).headD 0 = _
    cases ns with
    | nil => exact absurd rfl h
    | cons x r => simp
  | m + 2, _ => by
    have ih := overN_head (s := s) h (m + 1) (by omega)
    have ne : overN ns (m + 1) s ≠ [] := fun z => by
      have := congrArg List.length z
      rw [overN_len] at this
      have p : 0 < ns.length := List.length_pos_iff.mpr h
      have : (m + 1) * ns.length = 0 := this
      have := Nat.mul_pos (show 0 < m + 1 by omega) p
      omega
    rw [overN_succ, headD_app ne, ih]
theorem overN_last {ns : List Nat} {m s : Nat} (h : ns ≠ []) (hm : 1 ≤ m) : (overN ns m s).getLastD 0 = ns.getLastD 0 + (m - 1) * s := by
  obtain ⟨k, rfl⟩ : ∃ k, m = k + 1 := ⟨m - 1, by omega⟩
  rw [overN_succ, lastD_app (by intro z; exact h (List.map_eq_nil_iff.mp z)), lastD_map _ h]
  rfl
theorem moms_ne {t : Tr} (h : t.ok) : t.moms ≠ [] := fun z => by
  have := pos_moms t h
  rw [z] at this
  exact absurd this (by decide)
theorem momsL_ne {ts : List Tr} (h : okL_ ts) (h0 : ts ≠ []) : momsL ts ≠ [] := fun z => by
  have h1 := len_moms h
  rw [z] at h1
  exact h0 (List.length_eq_zero_iff.mp (Nat.le_zero.mp h1))
theorem momsL_head {t : Tr} {ts : List Tr} (h : okL_ (t :: ts)) : (momsL (t :: ts)).headD 0 = t.moms.headD 0 := by
  have e : momsL (t :: ts) = t.moms ++ momsL ts := by simp [momsL]
  rw [e, headD_app (moms_ne (okL_mem h List.mem_cons_self))]
theorem momsL_last {t : Tr} {ts : List Tr} (h : okL_ (ts ++ [t])) : (momsL (ts ++ [t])).getLastD 0 = t.moms.getLastD 0 := by
  have ht : t.ok := okL_mem h (List.mem_append_right _ List.mem_cons_self)
  have e : momsL [t] = t.moms := by simp [momsL]
  rw [momsL_app, e, lastD_app (moms_ne ht)]
theorem last_ref {as : List Addr} (h : as ≠ []) : ∃ b, as[as.length - 1]? = some b ∧ atI (as.map V.ref) (-1) = some (.ref b) := by
  refine ⟨as.getLast h, ?_, ?_⟩
  · have p : 0 < as.length := List.length_pos_iff.mpr h
    rw [List.getLast_eq_getElem, List.getElem?_eq_getElem (by omega)]
  · have e := (List.dropLast_concat_getLast h).symm
    generalize as.getLast h = z at e
    rw [e, List.map_append]
    exact atI_last _ _
/-- rising: each behind the end of the one ahead -/
def risB (ts : List Tr) : Bool := (ts.zip (ts.drop 1)).all fun p => decide (p.1.moms.getLastD 0 < p.2.moms.headD 0)
theorem all_repT (n : Nat) : (List.replicate n true).all id = true := by
  induction n with
  | zero => rfl
  | succ n ih =>
    rw [List.replicate_succ, List.all_cons, ih]
    rfl
theorem le_lastD {ns : List Nat} (h : ns.Pairwise (· < ·)) : ∀ n ∈ ns, n ≤ ns.getLastD 0 := fun n hn => by
  have h0 : ns ≠ [] := fun z => by rw [z] at hn; cases hn
  have e : ns.getLastD 0 = ns.getLast h0 := by
    rw [List.getLastD_eq_getLast?, List.getLast?_eq_some_getLast h0]
    rfl
  rw [e]
  have ec := (List.dropLast_concat_getLast h0).symm
  generalize ns.getLast h0 = z at ec
  rw [ec] at hn h
  rcases List.mem_append.mp hn with hm | hm
  · exact Nat.le_of_lt ((List.pairwise_append.mp h).2.2 n hm z (List.mem_singleton.mpr rfl))
  · rw [List.mem_singleton.mp hm]
    exact Nat.le_refl _
theorem headD_le {ns : List Nat} (h : ns.Pairwise (· < ·)) : ∀ n ∈ ns, ns.headD 0 ≤ n := fun n hn => by
  cases ns with
  | nil => cases hn
  | cons x r =>
    show x ≤ n
    rcases List.mem_cons.mp hn with rfl | hm
    · exact Nat.le_refl _
    · exact Nat.le_of_lt ((List.pairwise_cons.mp h).1 n hm)
theorem mem_overN {ns : List Nat} {m s x : Nat} : x ∈ overN ns m s ↔ ∃ t n, t < m ∧ n ∈ ns ∧ x = n + t * s := by
  unfold overN
  rw [List.mem_flatMap]
  constructor
  · rintro ⟨t, ht, h⟩
    obtain ⟨n, hn, rfl⟩ := List.mem_map.mp h
    exact ⟨t, n, List.mem_range.mp ht, hn, rfl⟩
  · rintro ⟨t, n, ht, hn, rfl⟩
    exact ⟨t, List.mem_range.mpr ht, List.mem_map.mpr ⟨n, hn, rfl⟩⟩
theorem overN_sorted {ns : List Nat} {s : Nat} (h : ns.Pairwise (· < ·)) (hs : ns.getLastD 0 < s + ns.headD 0) : ∀ m, (overN ns m s).Pairwise (· < ·)
  | 0 => .nil
  | m + 1 => by
    rw [overN_succ]
    refine List.pairwise_append.mpr ⟨overN_sorted h hs m, List.pairwise_map.mpr (h.imp fun {a b} z => by omega), fun a ha b hb => ?_⟩
    obtain ⟨t, n, ht, hn, rfl⟩ := mem_overN.mp ha
    obtain ⟨k, hk, rfl⟩ := List.mem_map.mp hb
    have h1 := le_lastD h n hn
    have h2 := headD_le h k hk
    have h3 : t * s + s ≤ m * s := by
      have := Nat.mul_le_mul_right s (show t + 1 ≤ m by omega)
      rw [Nat.add_mul, Nat.one_mul] at this
      exact this
    omega
mutual
theorem sorted_moms : ∀ {t : Tr}, t.ok → t.moms.Pairwise (· < ·)
  | .at n, _ => by
    unfold Tr.moms
    exact List.pairwise_singleton _ _
  | .ov ps m s, h => by
    unfold Tr.ok at h
    obtain ⟨_, _, _, _, h5, h6, _⟩ := h
    unfold Tr.moms
    exact overN_sorted h6 h5 m
end
theorem risB_cons {t x : Tr} {r : List Tr} (h : risB (t :: x :: r) = true) : t.moms.getLastD 0 < x.moms.headD 0 ∧ risB (x :: r) = true := by
  have h : (decide (t.moms.getLastD 0 < x.moms.headD 0) && risB (x :: r)) = true := h
  obtain ⟨h1, h2⟩ := Bool.and_eq_true_iff.mp h
  exact ⟨of_decide_eq_true h1, h2⟩
theorem ris_sorted : ∀ {ts : List Tr}, okL_ ts → risB ts = true → (momsL ts).Pairwise (· < ·)
  | [], _, _ => by
    unfold momsL
    exact .nil
  | [t], h, _ => by
    have e : momsL [t] = t.moms := by simp [momsL]
    rw [e]
    exact sorted_moms (okL_mem h List.mem_cons_self)
  | t :: x :: r, h, hr => by
    obtain ⟨h1, h2⟩ := risB_cons hr
    have hok : okL_ (x :: r) := by
      unfold okL_ at h
      exact h.2
    have ih := ris_sorted hok h2
    have e : momsL (t :: x :: r) = t.moms ++ momsL (x :: r) := by rw [momsL]
    rw [e]
    refine List.pairwise_append.mpr ⟨sorted_moms (okL_mem h List.mem_cons_self), ih, fun a ha b hb => ?_⟩
    have g1 := le_lastD (sorted_moms (okL_mem h List.mem_cons_self)) a ha
    have g2 := headD_le ih b hb
    rw [momsL_head hok] at g2
    omega
theorem lastD_mem {ns : List Nat} (h : ns ≠ []) : ns.getLastD 0 ∈ ns := by
  rw [List.getLastD_eq_getLast?, List.getLast?_eq_some_getLast h]
  exact List.getLast_mem h
theorem headD_mem {ns : List Nat} (h : ns ≠ []) : ns.headD 0 ∈ ns := by
  cases ns with
  | nil => exact absurd rfl h
  | cons x r => exact List.mem_cons_self
theorem ris_of : ∀ {ts : List Tr}, okL_ ts → (momsL ts).Pairwise (· < ·) → risB ts = true
  | [], _, _ => rfl
  | [t], _, _ => rfl
  | t :: x :: r, h, hs => by
    have hok : okL_ (x :: r) := by
      unfold okL_ at h
      exact h.2
    have e : momsL (t :: x :: r) = t.moms ++ momsL (x :: r) := by rw [momsL]
    rw [e] at hs
    obtain ⟨h1, h2, h3⟩ := List.pairwise_append.mp hs
    have ih := ris_of hok h2
    have lt := h3 _ (lastD_mem (moms_ne (okL_mem h List.mem_cons_self))) _ (headD_mem (momsL_ne hok (by simp)))
    rw [momsL_head hok] at lt
    show (decide (t.moms.getLastD 0 < x.moms.headD 0) && risB (x :: r)) = true
    rw [decide_eq_true lt, ih]
    rfl
end
section
def GdP (ns : List Nat) (pap : List (List Int)) : Prop := ∀ b k, k < (pap.getD b []).length → pg pap b k = mostP ns pap b (k + 1)
def Good (ns : List Nat) (pap : List (List Int)) : Prop := Shp ns.length ns.length 0 pap ∧ Bd pap ∧ GdP ns pap
theorem pg_stab {pap : List (List Int)} {j b k : Nat} {v : Int} (hj : j < pap.length) (hk : k < (pap.getD b []).length) : pg (pap.set j (pap.getD j [] ++ [v])) b k = pg pap b k := by
  unfold pg
  by_cases c : b = j
  · subst c
    rw [getD_set_self _ hj, List.getD_eq_getElem?_getD, List.getElem?_append_left hk, ← List.getD_eq_getElem?_getD]
  · rw [getD_set_ne _ (Ne.symm c)]
theorem firstP_lt {ns : List Nat} {b s p : Nat} (h : p ∈ firstP ns b s) : 1 ≤ p ∧ p < s ∧ s % p = 0 ∧ isOv ns b p s = true := by
  unfold firstP at h
  obtain ⟨i, hi, e⟩ := List.mem_filterMap.mp h
  have := List.mem_range.mp hi
  split at e
  · rename_i c
    injection e with e
    subst e
    unfold firstB at c
    obtain ⟨c1, c2⟩ := Bool.and_eq_true_iff.mp c
    exact ⟨by omega, by omega, of_decide_eq_true c1, c2⟩
  · cases e
theorem mostP_stab {ns : List Nat} {pap : List (List Int)} {j b s : Nat} {v : Int} (hF : Fits pap b s) (hj : j < pap.length) : mostP ns (pap.set j (pap.getD j [] ++ [v])) b s = mostP ns pap b s := by
  unfold mostP
  by_cases c : s = 1
  · rw [if_pos c, if_pos c]
  · rw [if_neg c, if_neg c]
    have e1 : cutsP (pap.set j (pap.getD j [] ++ [v])) b s = cutsP pap b s := by
      unfold cutsP
      refine List.map_congr_left fun i hi => ?_
      have := List.mem_range.mp hi
      have f1 : i < (pap.getD b []).length := (hF 0 i (by omega) (by omega)).2
      have f2 : s - i - 2 < (pap.getD (b + i + 1) []).length := (hF (i + 1) (s - i - 2) (by omega) (by omega)).2
      rw [pg_stab hj f1, pg_stab hj f2]
    have e2 : oversP ns (pap.set j (pap.getD j [] ++ [v])) b s = oversP ns pap b s := by
      unfold oversP
      refine List.map_congr_left fun p hp => ?_
      have := firstP_lt hp
      have f1 : p - 1 < (pap.getD b []).length := (hF 0 (p - 1) (by omega) (by omega)).2
      rw [pg_stab hj f1]
    rw [e1, e2]
theorem fits_row {n i j : Nat} {pap : List (List Int)} (h : Shp n i j pap) (hj : j + i ≤ n) {b k : Nat} (hk : k < (pap.getD b []).length) : Fits pap b (k + 1) := by
  obtain ⟨h1, h2⟩ := h
  have hb : b < n := by
    by_cases c : b < n
    · exact c
    · rw [List.getD_eq_getElem?_getD, List.getElem?_eq_none (by omega)] at hk
      simp at hk
  have lb := h2 b hb
  intro p q hpq h0
  have hk1 : k < n - b := by
    rw [lb] at hk
    split at hk <;> omega
  refine ⟨by omega, ?_⟩
  rw [h2 (b + p) (by omega)]
  rw [lb] at hk
  by_cases c : p = 0
  · have := h0 c
    subst c
    simp only [Nat.add_zero]
    omega
  · split at hk <;> split <;> omega
theorem gd_step {ns : List Nat} {i j : Nat} {pap : List (List Int)} (h : Shp ns.length i j pap) (hj : j + i + 1 ≤ ns.length) (hg : GdP ns pap) : GdP ns (pap.set j (pap.getD j [] ++ [mostP ns pap j (i + 1)])) := by
  intro b k hk
  have jl : j < pap.length := by rw [h.1]; omega
  by_cases c : k < (pap.getD b []).length
  · rw [pg_stab jl c, mostP_stab (fits_row h (by omega) c) jl]
    exact hg b k c
  · have bj : b = j := by
      by_cases d : b = j
      · exact d
      · rw [getD_set_ne _ (Ne.symm d)] at hk
        exact absurd hk c
    subst bj
    rw [getD_set_self _ jl, List.length_append] at hk
    have hk2 : k < (pap.getD b []).length + 1 := hk
    have ek : k = (pap.getD b []).length := by omega
    have li := h.2 b (by omega)
    rw [if_neg (Nat.lt_irrefl _)] at li
    have ei : k = i := by omega
    rw [ei, mostP_stab (shp_fits h hj) jl]
    unfold pg
    rw [getD_set_self _ jl, List.getD_eq_getElem?_getD, List.getElem?_append_right (by omega)]
    have : i - (pap.getD b []).length = 0 := by omega
    rw [this]
    rfl
theorem gd_zero (ns : List Nat) (n : Nat) : GdP ns (List.replicate n []) := fun b k hk => by
  rw [List.getD_eq_getElem?_getD, List.getElem?_replicate] at hk
  split at hk <;> simp at hk
section
variable {ns : List Nat} {pap : List (List Int)}
theorem good_len (h : Good ns pap) {b k : Nat} (hk : b + k < ns.length) : k < (pap.getD b []).length := by
  rw [h.1.2 b (by omega), if_neg (Nat.not_lt_zero _)]
  omega
theorem good_eq (h : Good ns pap) {b k : Nat} (hk : b + k < ns.length) : pg pap b k = mostP ns pap b (k + 1) := h.2.2 b k (good_len h hk)
theorem good_one (h : Good ns pap) {b : Nat} (hb : b < ns.length) : pg pap b 0 = 1 := by
  rw [good_eq h (by omega)]
  rfl
theorem good_bd (h : Good ns pap) {b k : Nat} (hk : b + k < ns.length) : 1 ≤ pg pap b k ∧ pg pap b k ≤ (k : Int) + 1 := h.2.1 b k (good_len h hk)
theorem good_min (h : Good ns pap) {b s : Nat} (hs : 2 ≤ s) (hb : b + s ≤ ns.length) : pg pap b (s - 1) ∈ cutsP pap b s ++ oversP ns pap b s ∧ ∀ y ∈ cutsP pap b s ++ oversP ns pap b s, pg pap b (s - 1) ≤ y := by
  rw [good_eq h (by omega), show s - 1 + 1 = s by omega]
  unfold mostP
  rw [if_neg (by omega)]
  refine minI_mem (List.ne_nil_of_mem (a := pg pap b 0 + pg pap (b + 0 + 1) (s - 0 - 2)) (List.mem_append_left _ ?_))
  exact List.mem_map.mpr ⟨0, List.mem_range.mpr (by omega), rfl⟩
theorem good_cut (h : Good ns pap) {b s c : Nat} (h1 : 1 ≤ c) (h2 : c < s) (hb : b + s ≤ ns.length) : pg pap b (s - 1) ≤ pg pap b (c - 1) + pg pap (b + c) (s - c - 1) := by
  refine (good_min h (by omega) hb).2 _ (List.mem_append_left _ (List.mem_map.mpr ⟨c - 1, List.mem_range.mpr (by omega), ?_⟩))
  rw [show b + (c - 1) + 1 = b + c by omega, show s - (c - 1) - 2 = s - c - 1 by omega]
theorem good_ex (h : Good ns pap) {b s : Nat} (hs : 2 ≤ s) (hb : b + s ≤ ns.length) : (∃ c, 1 ≤ c ∧ c < s ∧ pg pap b (s - 1) = pg pap b (c - 1) + pg pap (b + c) (s - c - 1)) ∨ ∃ p, p ∈ firstP ns b s ∧ pg pap b (s - 1) = pg pap b (p - 1) + 1 := by
  rcases List.mem_append.mp (good_min h hs hb).1 with z | z
  · obtain ⟨i, hi, e⟩ := List.mem_map.mp z
    have := List.mem_range.mp hi
    refine .inl ⟨i + 1, by omega, by omega, ?_⟩
    rw [← e, show b + (i + 1) = b + i + 1 by omega, show s - (i + 1) - 1 = s - i - 2 by omega, Nat.add_sub_cancel]
  · obtain ⟨p, hp, e⟩ := List.mem_map.mp z
    exact .inr ⟨p, hp, e.symm⟩
/-- a stretch that is cut nowhere at no cost -/
def NoCut (pap : List (List Int)) (b s : Nat) : Prop := ∀ c, 1 ≤ c → c < s → pg pap b (c - 1) + pg pap (b + c) (s - c - 1) ≠ pg pap b (s - 1)
/-- the first stretch of one is cut nowhere -/
theorem first_nocut (h : Good ns pap) {b s f : Nat} (hb : b + s ≤ ns.length) (h1 : 1 ≤ f) (h2 : f < s) (e : pg pap b (f - 1) + pg pap (b + f) (s - f - 1) = pg pap b (s - 1)) (hn : ∀ c, 1 ≤ c → c < f → pg pap b (c - 1) + pg pap (b + c) (s - c - 1) ≠ pg pap b (s - 1)) : NoCut pap b f := by
  intro c c1 cf z
  have k1 := good_cut h (b := b + c) (s := s - c) (c := f - c) (by omega) (by omega) (by omega)
  rw [show b + c + (f - c) = b + f by omega, show s - c - (f - c) - 1 = s - f - 1 by omega] at k1
  have k2 := good_cut h c1 (show c < s by omega) hb
  exact hn c c1 cf (by omega)
theorem nocut_ov (h : Good ns pap) {b s : Nat} (hs : 2 ≤ s) (hb : b + s ≤ ns.length) (hn : NoCut pap b s) : ∃ p, p ∈ firstP ns b s ∧ pg pap b (p - 1) = pg pap b (s - 1) - 1 := by
  rcases good_ex h hs hb with ⟨c, h1, h2, e⟩ | ⟨p, hp, e⟩
  · exact absurd e.symm (hn c h1 h2)
  · exact ⟨p, hp, by omega⟩
end
/-- a stretch -/
def seg (ns : List Nat) (b s : Nat) : List Nat := (ns.drop b).take s
theorem seg_len {ns : List Nat} {b s : Nat} (h : b + s ≤ ns.length) : (seg ns b s).length = s := by
  unfold seg
  rw [List.length_take, List.length_drop]
  omega
theorem seg_get {ns : List Nat} {b s i : Nat} (h : b + s ≤ ns.length) (hi : i < s) : (seg ns b s)[i]? = some (gN ns (b + i)) := by
  unfold seg gN
  rw [List.getElem?_take, if_pos hi, List.getElem?_drop, List.getD_eq_getElem?_getD, List.getElem?_eq_getElem (by omega)]
  rfl
theorem sg_app {ns : List Nat} {b s c : Nat} (h : c ≤ s) : seg ns b c ++ seg ns (b + c) (s - c) = seg ns b s := by
  unfold seg
  rw [← List.drop_drop]
  generalize ns.drop b = l
  have e : s = c + (s - c) := by omega
  conv => rhs; rw [e, List.take_add]
theorem seg_all (ns : List Nat) : seg ns 0 ns.length = ns := by
  unfold seg
  simp
theorem seg_one {ns : List Nat} {b : Nat} (h : b < ns.length) : seg ns b 1 = [gN ns b] := by
  unfold seg gN
  rw [List.drop_eq_getElem_cons h, List.getD_eq_getElem?_getD, List.getElem?_eq_getElem h]
  rfl
theorem isOv_at {ns : List Nat} {b p s : Nat} (h : isOv ns b p s = true) {i : Nat} (hi : i < s - p) : (gN ns (b + i + p) : Int) - gN ns (b + i) = (gN ns (b + p) : Int) - gN ns b := by
  unfold isOv at h
  exact of_decide_eq_true (List.all_eq_true.mp h i (List.mem_range.mpr hi))
theorem isOv_far {ns : List Nat} {b p s : Nat} (h : isOv ns b p s = true) {st : Nat} (hst : gN ns (b + p) = gN ns b + st) (hp : 1 ≤ p) : ∀ (t i : Nat), t * p + i < s → gN ns (b + (t * p + i)) = gN ns (b + i) + t * st
  | 0, i, _ => by simp
  | t + 1, i, hi => by
    rw [Nat.add_mul, Nat.one_mul] at hi
    have ih := isOv_far h hst hp t i (by omega)
    have k := isOv_at h (i := t * p + i) (by omega)
    rw [Nat.add_mul, Nat.one_mul, Nat.add_mul, Nat.one_mul, show b + (t * p + p + i) = b + (t * p + i) + p by omega]
    omega
theorem over_seg {ns : List Nat} {b p s : Nat} (h : isOv ns b p s = true) {st : Nat} (hst : gN ns (b + p) = gN ns b + st) (hp : 1 ≤ p) (hb : b + s ≤ ns.length) : ∀ m, m * p ≤ s → overN (seg ns b p) m st = seg ns b (m * p)
  | 0, _ => by
    unfold overN seg
    simp
  | m + 1, hm => by
    rw [Nat.add_mul, Nat.one_mul] at hm
    rw [overN_succ, over_seg h hst hp hb m (by omega), Nat.add_mul, Nat.one_mul, ← sg_app (c := m * p) (s := m * p + p) (by omega)]
    congr 1
    rw [Nat.add_sub_cancel_left]
    apply List.ext_getElem?
    intro i
    by_cases c : i < p
    · rw [List.getElem?_map, seg_get (by omega) c, seg_get (by omega) c]
      have k := isOv_far h hst hp m i (by omega)
      rw [show b + m * p + i = b + (m * p + i) by omega, k]
      rfl
    · rw [List.getElem?_eq_none (by rw [List.length_map, seg_len (by omega)]; omega), List.getElem?_eq_none (by rw [seg_len (by omega)]; omega)]
/-- there is one good paper -/
theorem good_pg {ns : List Nat} {pap qap : List (List Int)} (h : Good ns pap) (g : Good ns qap) : ∀ s b k, k < s → b + k < ns.length → pg pap b k = pg qap b k
  | 0, _, _, h, _ => by omega
  | s + 1, b, k, hk, hb => by
    have ih := good_pg h g s
    by_cases c : k < s
    · exact ih b k c hb
    · have e : k = s := by omega
      subst e
      rw [good_eq h hb, good_eq g hb]
      unfold mostP
      by_cases d : k + 1 = 1
      · rw [if_pos d, if_pos d]
      · rw [if_neg d, if_neg d]
        have e1 : cutsP pap b (k + 1) = cutsP qap b (k + 1) := by
          unfold cutsP
          refine List.map_congr_left fun i hi => ?_
          have := List.mem_range.mp hi
          rw [ih b i (by omega) (by omega), ih (b + i + 1) (k + 1 - i - 2) (by omega) (by omega)]
        have e2 : oversP ns pap b (k + 1) = oversP ns qap b (k + 1) := by
          unfold oversP
          refine List.map_congr_left fun p hp => ?_
          have := firstP_lt hp
          rw [ih b (p - 1) (by omega) (by omega)]
        rw [e1, e2]
theorem good_uniq {ns : List Nat} {pap qap : List (List Int)} (h : Good ns pap) (g : Good ns qap) : pap = qap := by
  have h1 : pap.length = ns.length := h.1.1
  have g1 : qap.length = ns.length := g.1.1
  apply List.ext_getElem?
  intro b
  by_cases c : b < ns.length
  · have e1 : pap[b]? = some (pap.getD b []) := by rw [List.getD_eq_getElem?_getD, List.getElem?_eq_getElem (by omega)]; rfl
    have e2 : qap[b]? = some (qap.getD b []) := by rw [List.getD_eq_getElem?_getD, List.getElem?_eq_getElem (by omega)]; rfl
    rw [e1, e2]
    congr 1
    have l1 := h.1.2 b c
    have l2 := g.1.2 b c
    rw [if_neg (Nat.not_lt_zero _)] at l1 l2
    apply List.ext_getElem?
    intro k
    by_cases d : k < ns.length - b
    · have e := good_pg h g (k + 1) b k (by omega) (by omega)
      unfold pg at e
      rw [List.getD_eq_getElem?_getD (l := pap.getD b []), List.getD_eq_getElem?_getD (l := qap.getD b []), List.getElem?_eq_getElem (by omega), List.getElem?_eq_getElem (by omega)] at e
      rw [List.getElem?_eq_getElem (by omega), List.getElem?_eq_getElem (by omega)]
      exact congrArg some e
    · rw [List.getElem?_eq_none (by omega), List.getElem?_eq_none (by omega)]
  · rw [List.getElem?_eq_none (by omega), List.getElem?_eq_none (by omega)]
end
section
def sp_numbers_of (K : PySem.W.Frag) : Sp := fun vs H Q _ => ∃ (r : Addr) (ns : List Nat), vs = [.ref r] ∧ H r = some (.lst (natV ns)) ∧ ns.length ≤ 40 ∧ ∀ a pap as H', Ex H H' → H a = none → PapL (fun b => H b = none) H' a pap as → Good ns pap → Q (.ref a) H'
theorem fb_numbers_of {P : Program} {w : World} {K : PySem.W.Frag} {mg : Str → Option Value} {base : Heap} (T : Env K mg) : ∃ fd, FunD K "numbers_of" "numbers_of" (defArgs s_numbers_of) (defBody s_numbers_of) (defScope s_numbers_of) [] [] (He.ga K "numbers_of") fd ∧ Fb P w K mg base 4 (He.ga K "numbers_of") fd ["row"] (sp_numbers_of K) := by
  obtain ⟨fd, F⟩ := T.f_numbers_of
  refine ⟨fd, F, fb_of F sc_numbers_of (fun vs H Q E h => ?_) (fun cdv A outer s H vs Q E hr h => ?_)⟩
  · obtain ⟨r, ns, rfl, _⟩ := h
    rfl
  · obtain ⟨r, ns, rfl, hw, hl, q⟩ := h
    refine ⟨_, (pss_cons (ps_setLc (i := 1) (own := [("one", 4)]) (by rfl) sc_numbers_of.nd rfl rfl (sw_true rfl rfl rfl (by decide +kernel)) (pi_list (pv 0)) (blkOk_by (own := [("one", 4)]) (N := ["row", "paper", "size", "begin", "one"]) (sc := defScope s_numbers_of) (by decide +kernel)) (fun _ _ _ _ _ => (pg_name (i := 4) sc_numbers_of.nd rfl (Or.inl rfl))) (fun _ _ _ _ _ => pts_nil) (fun _ _ _ _ _ => (pe_lst pa_nil)))
      (pss_cons (ps_for (passes_of rfl) rfl (pi_range2 (by rfl) T.n_range (pa_cons pe_int (pa_cons (pe_op op_add (pe_callB call_len (by rfl) T.n_len (by decide +kernel) (pa_cons (pv 0) pa_nil)) pe_int) pa_nil))) (pg_name (i := 2) sc_numbers_of.nd rfl (Or.inl rfl))
      (pss_one (ps_for (passes_of rfl) rfl (pi_range1 (by rfl) T.n_range (pa_cons (pe_op op_add (pe_op op_sub (pe_callB call_len (by rfl) T.n_len (by decide +kernel) (pa_cons (pv 0) pa_nil)) (pv 2)) pe_int) pa_nil)) (pg_name (i := 3) sc_numbers_of.nd rfl (Or.inl rfl))
      (pss_one (ps_expr (pe_bm PySem.F.plainAttrs_list PySem.F.slot_list_append PySem.F.type_list_append mt_append (pe_ix ix_list (pv 1) (pv 3) (fun _ _ => rfl)) (pa_cons (c_call (ok_most_number T) (hr.mono (by decide)) T.g_most_number T.k_most_number takes0 (pa_cons (pv 0) (pa_cons (pv 1) (pa_cons (pv 3) (pa_cons (pv 2) pa_nil))))) pa_nil)))))))
      (pss_one (ps_ret (pv 1))))), ?_⟩
    refine ⟨_, rfl, _, rfl, ⟨_, (sq_lst hw)⟩, ?_⟩
    intro A nA
    refine lc_any (L2.walk_list (K := K) (a := r) (xs := natV ns)) (fun i acc G => Ex H G ∧ ∃ as : List Addr, acc = as.map V.ref ∧ as.length = i ∧ as.Nodup ∧ ∀ (k : Nat) (b : Addr), as[k]? = some b → H b = none ∧ b ≠ A ∧ G b = some (.lst [])) (fun i acc G z e => ?_) ⟨.refl _, [], rfl, rfl, List.nodup_nil, fun k b hk => by simp at hk⟩ (by rw [natV_len]; omega) (fun i acc G e => ?_) (fun i acc G e => sq_lst (e.1 _ _ hw)) (fun i x G G' acc N hi e hA' la y k _ => ?_) (fun acc G e hA' => ?_)
    · obtain ⟨e1, as, e2, e3, e4, e5⟩ := e
      refine ⟨ex_mut e1 nA, as, e2, e3, e4, fun k b hk => ?_⟩
      obtain ⟨g1, g2, g3⟩ := e5 k b hk
      exact ⟨g1, g2, by rw [upd_ne g2]; exact g3⟩
    · obtain ⟨_, as, rfl, e3, _⟩ := e
      rw [List.length_map, e3]
      exact Nat.le_refl _
    · obtain ⟨rfl, y⟩ := y
      obtain ⟨e1, as, e2, e3, e4, e5⟩ := e
      refine ⟨rfl, by show 0 ≤ sizeLine; decide, fun b nb => ?_⟩
      have X2 := ex_new (o := .lst []) nb
      have bA : b ≠ A := fun z => by rw [z, hA'] at nb; cases nb
      refine ⟨acc, X2 _ _ hA', la, k _ _ (X2 _ _ hA') ⟨e1.trans X2, as ++ [b], by rw [e2, List.map_append]; rfl, by rw [List.length_append, e3]; rfl, ?_, fun j c hj => ?_⟩⟩
      · refine List.nodup_append.mpr ⟨e4, List.pairwise_singleton _ _, fun c hc d hd z => ?_⟩
        rw [List.mem_singleton.mp hd] at z
        obtain ⟨j, jl, e6⟩ := List.getElem_of_mem hc
        have := (e5 j c (by rw [List.getElem?_eq_getElem jl, e6])).2.2
        rw [z, nb] at this
        cases this
      · by_cases d : j < as.length
        · rw [List.getElem?_append_left d] at hj
          obtain ⟨g1, g2, g3⟩ := e5 j c hj
          exact ⟨g1, g2, X2 _ _ g3⟩
        · rw [List.getElem?_append_right (by omega)] at hj
          have hj2 : [b][j - as.length]? = some c := hj
          have cb : c = b := List.mem_singleton.mp (List.mem_of_getElem? hj2)
          rw [cb]
          exact ⟨ex_fresh e1 nb, bA, upd_same⟩
    · obtain ⟨X1, as, rfl, e3, e4, e5⟩ := e
      rw [natV_len] at e3
      have P0 : PapL (fun b => H b = none) G A (List.replicate ns.length []) as := by
        refine ⟨hA', by rw [List.length_replicate]; exact e3, e4, fun i b hi => ?_⟩
        obtain ⟨g1, g2, g3⟩ := e5 i b hi
        refine ⟨g1, g2, ?_⟩
        rw [g3, List.getD_eq_getElem?_getD, List.getElem?_replicate]
        split <;> rfl
      have hw1 := X1 _ _ hw
      clear e5 hA'
      refine ⟨_, rfl, _, _, rfl, (.inl ⟨_, ⟨(sq_lst hw1), rfl⟩⟩), _, _, rfl, rfl, _, _, rfl, ?_⟩
      rw [natV_len]
      have en : ((ns.length : Int) + 1 - 1).toNat = ns.length := by omega
      rw [en]
      refine ⟨⟨by omega, by omega, by omega, by omega⟩, for_range (fun i σ H' => Ex H H' ∧ ∃ pap v3, PapL (fun b => H b = none) H' A pap as ∧ Shp ns.length i 0 pap ∧ Bd pap ∧ GdP ns pap ∧ σ = [some (.ref r), some (.ref A), v3.1, v3.2, none]) ⟨X1, _, (none, none), P0, shp_zero _, bd_zero _, gd_zero _ _, rfl⟩ ?_ ?_⟩
      · rintro i σ H1 hi ⟨X1, pap, v3, hP, hS, hB, hG, rfl⟩
        have hw2 := X1 _ _ hw
        have lz : (natV ns).length = ns.length := natV_len ns
        have e1 : (1 : Int) + (i : Int) = ((i + 1 : Nat) : Int) := by omega
        rw [e1]
        refine ⟨_, rfl, _, _, rfl, (.inl ⟨_, ⟨(sq_lst hw2), rfl⟩⟩), _, rfl, _, _, rfl, rfl, _, _, rfl, rfl, _, rfl, (by omega), (by omega), ?_⟩
        rw [lz]
        have en2 : ((ns.length : Int) - ((i + 1 : Nat) : Int) + 1).toNat = ns.length - i := by omega
        rw [en2]
        refine for_range (fun j σ H' => Ex H H' ∧ ∃ pap v, PapL (fun b => H b = none) H' A pap as ∧ Shp ns.length i j pap ∧ Bd pap ∧ GdP ns pap ∧ σ = [some (.ref r), some (.ref A), some (.int ((i + 1 : Nat) : Int)), v, none]) ⟨X1, pap, _, hP, hS, hB, hG, rfl⟩ ?_ ?_
        · clear hP hS hB hG hw2 X1
          rintro j σ H2 hj ⟨X2, pap, v, hP, hS, hB, hG, rfl⟩
          have hw3 := X2 _ _ hw
          have e0 : (0 : Int) + (j : Int) = (j : Int) := by omega
          rw [e0]
          have jn : j < as.length := by omega
          have hbj : as[j]? = some as[j] := List.getElem?_eq_getElem jn
          have hat : atI (as.map V.ref) (j : Int) = some (.ref as[j]) := atI_nat (by rw [List.getElem?_map, hbj]; rfl)
          obtain ⟨g1, g2, g3⟩ := hP.2.2.2 j _ hbj
          have hPA : PapAt K H2 A pap := hP.at
          have hA2 := hP.1
          have hF := shp_fits hS (by omega)
          have s1 : 1 ≤ i + 1 := by omega
          have s2 : j + (i + 1) ≤ ns.length := by omega
          have s3 : ns.length ≤ 1000 := by omega
          have mb := most_bounds (ns := ns) hB hF s1
          refine ⟨_, rfl, _, rfl, _, _, _, _, rfl, rfl, (sq_lst hA2), hat, (.inl ⟨rfl, ⟨_, (sq_lst g3)⟩⟩), _, rfl, _, rfl, _, rfl, _, rfl, _, _, _, _, _, _, rfl, (sq_lst hw3), hPA, hF, s1, s2, s3, ?_⟩
          intro H3 X3
          have lr := hS.2 j (by omega)
          rw [if_neg (Nat.lt_irrefl _)] at lr
          have hz : ((pap.getD j []).map V.int).length < sizeLine := sz_lt (by rw [List.length_map]; omega)
          refine ⟨_, _, _, rfl, rfl, (X3 _ _ g3), hz, (ex_mut (X2.trans X3) g1), ?_⟩
          have P3 := (hP.mono X3).put hbj (pap.getD j [] ++ [mostP ns pap j (i + 1)])
          rw [List.map_append] at P3
          exact ⟨_, _, P3, shp_step hS (by omega) _, bd_step hS (by omega) hB mb.1 (by have := mb.2; omega), gd_step hS (by omega) hG, rfl⟩
        · rintro σ H2 ⟨X2, pap, v, hP, hS, hB, hG, rfl⟩
          exact ⟨X2, pap, (_, _), hP, shp_next hS, hB, hG, rfl⟩
      · rintro σ H1 ⟨X1, pap, v3, hP, hS, hB, hG, rfl⟩
        exact ⟨_, rfl, q A pap as H1 X1 nA hP ⟨hS, hB, hG⟩⟩
theorem ok_numbers_of {P : Program} {w : World} {K : PySem.W.Frag} {mg : Str → Option Value} {base : Heap} (T : Env K mg) : Fc P w K mg base 4 (He.ga K "numbers_of") [] (sp_numbers_of K ) := by
  obtain ⟨fd, D, F⟩ := fb_numbers_of T
  exact F.all (D.bindsN fun _ _ _ _ _ _ us hl => match us, hl with | [_], _ => rfl)
end
section
def sp_is_whole (K : PySem.W.Frag) : Sp := fun vs H Q _ => ∃ x, vs = [x] ∧ Cl K H x ∧ Q (.bl (isW x)) H
theorem fb_is_whole {P : Program} {w : World} {K : PySem.W.Frag} {mg : Str → Option Value} {base : Heap} (T : Env K mg) : ∃ fd, FunD K "is_whole" "is_whole" (defArgs s_is_whole) (defBody s_is_whole) (defScope s_is_whole) [] [] (He.ga K "is_whole") fd ∧ Fb P w K mg base 1 (He.ga K "is_whole") fd ["thing"] (sp_is_whole K) := by
  obtain ⟨fd, F⟩ := T.f_is_whole
  refine ⟨fd, F, fb_of F sc_is_whole (fun vs H Q E h => ?_) (fun cdv A outer s H vs Q E hr h => ?_)⟩
  · obtain ⟨x, rfl, _⟩ := h
    rfl
  · obtain ⟨x, rfl, ⟨t, b, c, ty, h1, h2, e⟩, q⟩ := h
    refine ⟨_, (pss_one (ps_ret (pe_and (pe_callB call_isi (by rfl) T.n_isinstance (by decide +kernel) (pa_cons (pv 0) (pa_cons (pe_bltn (v := .ty "int") (by rfl) T.n_int (by decide +kernel) rfl) pa_nil))) (pe_one (pe_not (pe_callB call_isi (by rfl) T.n_isinstance (by decide +kernel) (pa_cons (pv 0) (pa_cons (pe_bltn (v := .ty "bool") (by rfl) T.n_bool (by decide +kernel) rfl) pa_nil)))))))), ?_⟩
    refine ⟨x, rfl, x, .ty "int", t, _, b, rfl, .ty "int", ty, h1, b, rfl, ?_⟩
    rw [e] at q
    cases b with
    | false => exact q
    | true => exact ⟨x, rfl, x, .ty "bool", t, _, c, rfl, .ty "bool", ty, h2, c, rfl, q⟩
theorem ok_is_whole {P : Program} {w : World} {K : PySem.W.Frag} {mg : Str → Option Value} {base : Heap} (T : Env K mg) : Fc P w K mg base 1 (He.ga K "is_whole") [] (sp_is_whole K ) := by
  obtain ⟨fd, D, F⟩ := fb_is_whole T
  exact F.all (D.bindsN fun _ _ _ _ _ _ us hl => match us, hl with | [_], _ => rfl)
end
section
def sp_is_moment (K : PySem.W.Frag) : Sp := fun vs H Q _ => ∃ x, vs = [x] ∧ Cl K H x ∧ Q (.bl (isM x)) H
theorem fb_is_moment {P : Program} {w : World} {K : PySem.W.Frag} {mg : Str → Option Value} {base : Heap} (T : Env K mg) : ∃ fd, FunD K "is_moment" "is_moment" (defArgs s_is_moment) (defBody s_is_moment) (defScope s_is_moment) [] [] (He.ga K "is_moment") fd ∧ Fb P w K mg base 2 (He.ga K "is_moment") fd ["thing"] (sp_is_moment K) := by
  obtain ⟨fd, F⟩ := T.f_is_moment
  refine ⟨fd, F, fb_of F sc_is_moment (fun vs H Q E h => ?_) (fun cdv A outer s H vs Q E hr h => ?_)⟩
  · obtain ⟨x, rfl, _⟩ := h
    rfl
  · obtain ⟨x, rfl, cl, q⟩ := h
    refine ⟨_, (pss_one (ps_ret (pe_and (c_call (ok_is_whole T) (hr.mono (by decide)) T.g_is_whole T.k_is_whole takes0 (pa_cons (pv 0) pa_nil)) (pe_one (pe_cmpR op_ge (pv 0) pe_int (nomark _)))))), ?_⟩
    refine ⟨x, rfl, x, rfl, cl, isW x, rfl, ?_⟩
    cases x with
    | int i => exact ⟨_, rfl, i, 0, rfl, rfl, q⟩
    | _ => exact q
theorem ok_is_moment {P : Program} {w : World} {K : PySem.W.Frag} {mg : Str → Option Value} {base : Heap} (T : Env K mg) : Fc P w K mg base 2 (He.ga K "is_moment") [] (sp_is_moment K ) := by
  obtain ⟨fd, D, F⟩ := fb_is_moment T
  exact F.all (D.bindsN fun _ _ _ _ _ _ us hl => match us, hl with | [_], _ => rfl)
end
section
def sp_want_moment (K : PySem.W.Frag) : Sp := fun vs H Q E => ∃ x, vs = [x] ∧ Cl K H x ∧ (isM x = true → Q .non H) ∧ (isM x = false → E (.ref (He.ga K "NoTime")) none H)
theorem fb_want_moment {P : Program} {w : World} {K : PySem.W.Frag} {mg : Str → Option Value} {base : Heap} (T : Env K mg) : ∃ fd, FunD K "want_moment" "want_moment" (defArgs s_want_moment) (defBody s_want_moment) (defScope s_want_moment) [] [] (He.ga K "want_moment") fd ∧ FbN P w K mg base 3 (He.ga K "want_moment") fd ["thing"] (sp_want_moment K) := by
  obtain ⟨fd, F⟩ := T.f_want_moment
  refine ⟨fd, F, fbN_of F sc_want_moment (fun vs H Q E h => ?_) (fun cdv A outer s H vs Q E hr h => ?_)⟩
  · obtain ⟨x, rfl, _⟩ := h
    rfl
  · obtain ⟨x, rfl, cl, q, qe⟩ := h
    refine ⟨_, (pss_one (ps_if (pt_not (pt_val (c_call (ok_is_moment T) (hr.mono (by decide)) T.g_is_moment T.k_is_moment takes0 (pa_cons (pv 0) pa_nil))))
      (pss_one (L2N.ps_raise rfl (L2N.takes_of rfl rfl rfl rfl) (L2N.pmk_own PySem.F.excBase_ValueError T.x_NoTime.x T.g_NoTime T.x_NoTime.kp (raises_own T.x_NoTime.sub T.x_NoTime.ty) rfl)))
      pss_nil)), ?_⟩
    refine ⟨x, rfl, x, rfl, cl, isM x, rfl, ?_⟩
    cases e : isM x with
    | true => exact q e
    | false => exact qe e
theorem okN_want_moment {P : Program} {w : World} {K : PySem.W.Frag} {mg : Str → Option Value} {base : Heap} (T : Env K mg) : FcN P w K mg base 3 (He.ga K "want_moment") [] (sp_want_moment K ) := by
  obtain ⟨fd, D, F⟩ := fb_want_moment T
  exact F.all (D.bindsN fun _ _ _ _ _ _ us hl => match us, hl with | [_], _ => rfl)
theorem ok_want_moment {P : Program} {w : World} {K : PySem.W.Frag} {mg : Str → Option Value} {base : Heap} (T : Env K mg) : Fc P w K mg base 3 (He.ga K "want_moment") [] (sp_want_moment K ) := (okN_want_moment T).fc
end
section
def clockV (m : Int) : List V := [.int (m / 1440), .int (m % 1440 / 60), .int (m % 60)]
def sp_clock_of (K : PySem.W.Frag) : Sp := fun vs H Q E => ∃ x, vs = [x] ∧ Cl K H x ∧ (∀ m : Int, x = .int m → 0 ≤ m → ∀ p, H p = none → Q (.ref p) (upd H p (.tup (clockV m)))) ∧ (isM x = false → E (.ref (He.ga K "NoTime")) none H)
theorem fb_clock_of {P : Program} {w : World} {K : PySem.W.Frag} {mg : Str → Option Value} {base : Heap} (T : Env K mg) : ∃ fd, FunD K "clock_of" "clock_of" (defArgs s_clock_of) (defBody s_clock_of) (defScope s_clock_of) [] [] (He.ga K "clock_of") fd ∧ Fb P w K mg base 4 (He.ga K "clock_of") fd ["moment"] (sp_clock_of K) := by
  obtain ⟨fd, F⟩ := T.f_clock_of
  refine ⟨fd, F, fb_of F sc_clock_of (fun vs H Q E h => ?_) (fun cdv A outer s H vs Q E hr h => ?_)⟩
  · obtain ⟨x, rfl, _⟩ := h
    rfl
  · obtain ⟨x, rfl, cl, q, qe⟩ := h
    refine ⟨_, (pss_cons (ps_expr (c_call (ok_want_moment T) (hr.mono (by decide)) T.g_want_moment T.k_want_moment (takes_of rfl rfl rfl rfl) (pa_cons (pv 0) pa_nil)))
      (pss_one (ps_ret (pe_tup (pa_cons (pe_op op_fdiv (pv 0) (pe_k T.v_DAY)) (pa_cons (pe_op op_fdiv (pe_op op_mod (pv 0) (pe_k T.v_DAY)) (pe_k T.v_HOUR)) (pa_cons (pe_op op_mod (pv 0) (pe_k T.v_HOUR)) pa_nil))))))), ?_⟩
    refine ⟨x, rfl, x, rfl, cl, fun e => ?_, qe⟩
    obtain ⟨m, rfl, hm⟩ := isM_w e
    refine ⟨_, rfl, _, _, rfl, rfl, ⟨by decide, by decide⟩, _, rfl, _, _, rfl, rfl, (by show (0 : Int) < 1440; decide), _, _, rfl, rfl, ⟨by decide, by decide⟩, _, rfl, _, _, rfl, rfl, (by show (0 : Int) < 60; decide), by show 3 ≤ sizeLine; decide, fun p hp => ?_⟩
    exact q m rfl hm p hp
theorem ok_clock_of {P : Program} {w : World} {K : PySem.W.Frag} {mg : Str → Option Value} {base : Heap} (T : Env K mg) : Fc P w K mg base 4 (He.ga K "clock_of") [] (sp_clock_of K ) := by
  obtain ⟨fd, D, F⟩ := fb_clock_of T
  exact F.all (D.bindsN fun _ _ _ _ _ _ us hl => match us, hl with | [_], _ => rfl)
end
section
def sp_show_moment (K : PySem.W.Frag) : Sp := fun vs H Q E => ∃ x, vs = [x] ∧ Cl K H x ∧ (∀ m : Nat, x = .int m → m < 10 ^ 255 ∧ ∀ H', Ex H H' → Q (.str (SX.S (Mo.shw m))) H') ∧ (isM x = false → E (.ref (He.ga K "NoTime")) none H)
theorem str_two : ∀ m : Nat, m < 60 → Txt.zfill (Str.ofString (toString ((m : Nat) : Int))) 2 = SX.S (Mo.two m) := by
  intro m h
  have all : ∀ m, m < 60 → TL.tl (Txt.zfill (Str.ofString (toString ((m : Nat) : Int))) 2) = Mo.two m := by decide +kernel
  exact TL.ext_tl (all m h)
theorem log_small {n : Nat} (h : n < 10 ^ 255) : ((n : Nat) : Int).natAbs.log2 < 1920 := PySem.Flt.log2_lt_of (by decide) (Nat.lt_trans (show ((n : Nat) : Int).natAbs < 10 ^ 255 by rw [Int.natAbs_natCast]; exact h) (by decide +kernel))
theorem fb_show_moment {P : Program} {w : World} {K : PySem.W.Frag} {mg : Str → Option Value} {base : Heap} (T : Env K mg) : ∃ fd, FunD K "show_moment" "show_moment" (defArgs s_show_moment) (defBody s_show_moment) (defScope s_show_moment) [] [] (He.ga K "show_moment") fd ∧ Fb P w K mg base 5 (He.ga K "show_moment") fd ["moment"] (sp_show_moment K) := by
  obtain ⟨fd, F⟩ := T.f_show_moment
  refine ⟨fd, F, fb_of F sc_show_moment (fun vs H Q E h => ?_) (fun cdv A outer s H vs Q E hr h => ?_)⟩
  · obtain ⟨x, rfl, _⟩ := h
    rfl
  · obtain ⟨x, rfl, cl, q, qe⟩ := h
    refine ⟨_, (pss_cons (ps_asg (c_call (ok_clock_of T) (hr.mono (by decide)) T.g_clock_of T.k_clock_of (takes_of rfl rfl rfl rfl) (pa_cons (pv 0) pa_nil)) (pg_tup (by rfl) (pgs_cons (pg_name (i := 1) sc_show_moment.nd rfl (Or.inl rfl)) (pgs_cons (pg_name (i := 2) sc_show_moment.nd rfl (Or.inl rfl)) (pgs_cons (pg_name (i := 3) sc_show_moment.nd rfl (Or.inl rfl)) pgs_nil)))))
      (pss_cons (ps_set (i := 4) sc_show_moment.nd rfl (Or.inl rfl) (pe_op op_add_str (pe_op op_add_str (pe_callTy call_str_int (by rfl) T.n_str (by decide +kernel) (pa_cons (pv 2) pa_nil)) (pe_k T.v_COLON)) (pe_bm PySem.F.plainAttrs_str PySem.F.slot_str_zfill PySem.F.type_str_zfill mt_zfill (pe_callTy call_str_int (by rfl) T.n_str (by decide +kernel) (pa_cons (pv 3) pa_nil)) (pa_cons pe_int pa_nil))))
      (pss_cons (ps_if (pt_cmpR op_eq (pv 1) pe_int (nomark _))
      (pss_one (ps_ret (pv 4)))
      pss_nil)
      (pss_one (ps_ret (pe_op op_add_str (pe_op op_add_str (pe_callTy call_str_int (by rfl) T.n_str (by decide +kernel) (pa_cons (pv 1) pa_nil)) (pe_k T.v_BLANK)) (pv 4))))))), ?_⟩
    refine ⟨x, rfl, x, rfl, cl, fun m e m0 t nt => ?_, qe⟩
    obtain ⟨m, rfl⟩ := Int.eq_ofNat_of_zero_le m0
    subst e
    obtain ⟨mb, q⟩ := q m rfl
    have X1 : Ex H (upd H t (.tup (clockV m))) := ex_new nt
    refine ⟨t, _, rfl, sq_tup upd_same, rfl, _, _, rfl, _, _, rfl, _, _, rfl, rfl, ?_⟩
    have e1 : ((m : Nat) : Int) / 1440 = ((m / 1440 : Nat) : Int) := by omega
    have e2 : ((m : Nat) : Int) % 1440 / 60 = ((m % 1440 / 60 : Nat) : Int) := by omega
    have e3 : ((m : Nat) : Int) % 60 = ((m % 60 : Nat) : Int) := by omega
    rw [e1, e2, e3]
    have l1 : (Mo.shw m).length ≤ 263 := Mo.shw_len (by decide) mb
    have l2 : (TL.numL (m % 1440 / 60)).length ≤ 2 := TL.numL_len (by decide) (by omega)
    have l3 : (TL.numL (m / 1440)).length ≤ 255 := TL.numL_len (by decide) (Nat.lt_of_le_of_lt (Nat.div_le_self _ _) mb)
    refine ⟨_, rfl, _, rfl, log_small (Nat.lt_of_le_of_lt (by omega) mb), ?_⟩
    rw [SX.num_S]
    have c1 : (SX.S (TL.numL (m % 1440 / 60)) ++ Str.ofString ":").length ≤ 1000 := by
      rw [TL.len_tl, TL.tl_append]
      simp only [List.length_append]
      have : (TL.tl (Str.ofString ":")).length = 1 := rfl
      show (TL.numL (m % 1440 / 60)).length + _ ≤ 1000
      omega
    refine ⟨_, _, rfl, rfl, Nat.le_of_lt (small_len (by have := SX.S_len (TL.numL (m % 1440 / 60)); have : (Str.ofString ":").length = 1 := rfl; omega)), ?_⟩
    refine ⟨_, rfl, _, rfl, log_small (Nat.lt_of_le_of_lt (Nat.mod_le _ _) mb), rfl, _, _, rfl, rfl, rfl, ?_⟩
    rw [show Txt.zfill (Str.ofString (toString ((m % 60 : Nat) : Int))) 2 = SX.S (Mo.two (m % 60)) from str_two _ (by omega)]
    refine ⟨_, _, rfl, rfl, Nat.le_of_lt (small_len (by have : (SX.S (Mo.two (m % 60))).length = 2 := rfl; omega)), ?_⟩
    have e4 : SX.S (TL.numL (m % 1440 / 60)) ++ Str.ofString ":" ++ SX.S (Mo.two (m % 60)) = SX.S (Mo.clk m) := by
      rw [show Str.ofString ":" = SX.S [58] from rfl, SX.S_cat, SX.S_cat]
      unfold Mo.clk
      simp
    rw [e4]
    have l4 : (Mo.clk m).length ≤ 5 := by
      unfold Mo.clk Mo.two
      simp
      omega
    refine ⟨_, rfl, rfl, _, rfl, ite2 (fun c => ?_) (fun c => ?_)⟩
    · have c2 : m / 1440 = 0 := by
        have := of_decide_eq_true c
        injection this with this
        omega
      refine ⟨_, rfl, ?_⟩
      have e5 : Mo.shw m = Mo.clk m := by unfold Mo.shw; rw [if_pos c2]
      rw [← e5]
      exact q _ X1
    · have c2 : ¬ m / 1440 = 0 := fun z => c (decide_eq_true (by rw [z]; rfl))
      refine ⟨_, rfl, _, rfl, log_small (Nat.lt_of_le_of_lt (Nat.div_le_self _ _) mb), ?_⟩
      rw [SX.num_S]
      refine ⟨_, _, rfl, rfl, Nat.le_of_lt (small_len (by have := SX.S_len (TL.numL (m / 1440)); have : (Str.ofString " ").length = 1 := rfl; omega)), ?_⟩
      rw [show Str.ofString " " = SX.S [32] from rfl, SX.S_cat]
      refine ⟨_, rfl, _, _, rfl, rfl, Nat.le_of_lt (small_len (by rw [SX.S_len, SX.S_len]; simp; omega)), ?_⟩
      rw [SX.S_cat]
      have e5 : Mo.shw m = TL.numL (m / 1440) ++ [32] ++ Mo.clk m := by unfold Mo.shw; rw [if_neg c2]; simp
      rw [← e5]
      exact q _ X1
theorem sm_good {K : PySem.W.Frag} {H : Hp} {Q : VK} {E : XK} {m : Nat} (mb : m < 10 ^ 255) (q : ∀ H', Ex H H' → Q (.str (SX.S (Mo.shw m))) H') : sp_show_moment K [.int m] H Q E :=
  ⟨_, rfl, cl_int _, fun k e => by
    have ek : k = m := by injection e with e; omega
    subst ek
    exact ⟨mb, q⟩, fun e => absurd e (by rw [show isM (.int m) = true from decide_eq_true (Int.natCast_nonneg m)]; decide)⟩
theorem ok_show_moment {P : Program} {w : World} {K : PySem.W.Frag} {mg : Str → Option Value} {base : Heap} (T : Env K mg) : Fc P w K mg base 5 (He.ga K "show_moment") [] (sp_show_moment K ) := by
  obtain ⟨fd, D, F⟩ := fb_show_moment T
  exact F.all (D.bindsN fun _ _ _ _ _ _ us hl => match us, hl with | [_], _ => rfl)
end
section
def isN (n : Int) (x : V) : Bool := isW x && (match x with | .int i => decide (n ≤ i) | _ => false)
def sp_is_number (K : PySem.W.Frag) : Sp := fun vs H Q _ => ∃ x n, vs = [x, .int n] ∧ Cl K H x ∧ Q (.bl (isN n x)) H
theorem fb_is_number {P : Program} {w : World} {K : PySem.W.Frag} {mg : Str → Option Value} {base : Heap} (T : Env K mg) : ∃ fd, FunD K "is_number" "is_number" (defArgs s_is_number) (defBody s_is_number) (defScope s_is_number) [] [] (He.ga K "is_number") fd ∧ Fb P w K mg base 1 (He.ga K "is_number") fd ["thing", "least"] (sp_is_number K) := by
  obtain ⟨fd, F⟩ := T.f_is_number
  refine ⟨fd, F, fb_of F sc_is_number (fun vs H Q E h => ?_) (fun cdv A outer s H vs Q E hr h => ?_)⟩
  · obtain ⟨x, n, rfl, _⟩ := h
    rfl
  · obtain ⟨x, n, rfl, ⟨t, b, c, ty, h1, h2, e⟩, q⟩ := h
    refine ⟨_, (pss_one (ps_ret (pe_and (pe_callB call_isi (by rfl) T.n_isinstance (by decide +kernel) (pa_cons (pv 0) (pa_cons (pe_bltn (v := .ty "int") (by rfl) T.n_int (by decide +kernel) rfl) pa_nil))) (pe_and (pe_not (pe_callB call_isi (by rfl) T.n_isinstance (by decide +kernel) (pa_cons (pv 0) (pa_cons (pe_bltn (v := .ty "bool") (by rfl) T.n_bool (by decide +kernel) rfl) pa_nil)))) (pe_one (pe_cmpR op_ge (pv 0) (pv 1) (nomark _))))))), ?_⟩
    refine ⟨x, rfl, x, .ty "int", t, _, b, rfl, .ty "int", ty, h1, b, rfl, ?_⟩
    unfold isN at q
    rw [e] at q
    cases b with
    | false => exact q
    | true =>
      refine ⟨x, rfl, x, .ty "bool", t, _, c, rfl, .ty "bool", ty, h2, c, rfl, ?_⟩
      cases c with
      | true => exact ⟨false, rfl, q⟩
      | false =>
        refine ⟨true, rfl, iteT ?_⟩
        cases x with
        | int i => exact ⟨_, rfl, _, rfl, i, n, rfl, rfl, q⟩
        | _ => cases e
theorem ok_is_number {P : Program} {w : World} {K : PySem.W.Frag} {mg : Str → Option Value} {base : Heap} (T : Env K mg) : Fc P w K mg base 1 (He.ga K "is_number") [] (sp_is_number K ) := by
  obtain ⟨fd, D, F⟩ := fb_is_number T
  exact F.all (D.bindsN fun _ _ _ _ _ _ us hl => match us, hl with | [_, _], _ => rfl)
end
section
theorem ex_made {H : Hp} {x dx : Addr} {o1 o2 : HO} (nx : H x = none) (nd : H dx = none) (ne : dx ≠ x) : Ex H (upd (upd H dx o1) x o2) := fun b o e => by
  rw [upd_ne (ne_of_none e nx), upd_ne (ne_of_none e nd)]
  exact e
end
section
abbrev AtC (K : PySem.W.Frag) : Addr := He.ga K "At"
/-- at a an At of a moment -/
def AtAt (K : PySem.W.Frag) (H : Hp) (a : Addr) (n : Nat) : Prop := ∃ dx, H a = some (.ins (AtC K) dx [("moment", .int (n : Nat))])
theorem AtAt.mono {K : PySem.W.Frag} {H H' : Hp} {a : Addr} {n : Nat} (h : AtAt K H a n) (e : Ex H H') : AtAt K H' a n := let ⟨dx, h⟩ := h; ⟨dx, e _ _ h⟩
def sp_At_init (K : PySem.W.Frag) : Sp := fun vs H Q E => ∃ a dx x, vs = [.ref a, x] ∧ H a = some (.ins (AtC K) dx []) ∧ Cl K H x ∧ (isN 0 x = true → Q .non (upd H a (.ins (AtC K) dx [("moment", x)]))) ∧ (isN 0 x = false → E (.ref (He.ga K "NoPiece")) none H)
theorem fb_At_init {P : Program} {w : World} {K : PySem.W.Frag} {mg : Str → Option Value} {base : Heap} (T : Env K mg) : ∃ fd, FunD K "__init__" "At.__init__" (defArgs s_At_init) (defBody s_At_init) (defScope s_At_init) [] [] (He.ma K (He.ga K "At") "__init__") fd ∧ Fb P w K mg base 2 (He.ma K (He.ga K "At") "__init__") fd ["self", "moment"] (sp_At_init K) := by
  obtain ⟨fd, F⟩ := T.f_At_init
  refine ⟨fd, F, fb_of F sc_At_init (fun vs H Q E h => ?_) (fun cdv A outer s H vs Q E hr h => ?_)⟩
  · obtain ⟨a, dx, x, rfl, _⟩ := h
    rfl
  · obtain ⟨a, dx, x, rfl, ha, cl, q, qe⟩ := h
    refine ⟨_, (pss_cons (ps_if (pt_not (pt_val (c_call (ok_is_number T) (hr.mono (by decide)) T.g_is_number T.k_is_number (takes_of rfl rfl rfl rfl) (pa_cons (pv 1) (pa_cons pe_int pa_nil)))))
      (pss_one (ps_raise rfl (takes_of rfl rfl rfl rfl) (pmk_own PySem.F.excBase_ValueError T.x_NoPiece.x T.g_NoPiece T.x_NoPiece.kp (raises_own T.x_NoPiece.sub T.x_NoPiece.ty) rfl)))
      pss_nil)
      (pss_one (ps_fld (pv 0) (pv 1) rfl))), ?_⟩
    refine ⟨_, rfl, x, 0, rfl, cl, _, rfl, ?_⟩
    cases e : isN 0 x with
    | false => exact qe e
    | true =>
      refine iteF ?_
      refine ⟨_, rfl, _, rfl, a, _, dx, [], rfl, ha, T.c_At, T.a_At_moment, by decide, ?_⟩
      exact q e
theorem isN_nat {n m : Nat} (h : m ≤ n) : isN (m : Int) (.int (n : Nat)) = true := by
  show (true && decide ((m : Int) ≤ (n : Int))) = true
  rw [decide_eq_true (by omega)]
  rfl
theorem at_new {K : PySem.W.Frag} {H : Hp} {x dx : Addr} {n : Nat} {Q : VK} {E : XK} (nx : H x = none) (nd : H dx = none) (ne : dx ≠ x) (q : ∀ H', Ex H H' → AtAt K H' x n → Q .non H') :
    sp_At_init K [.ref x, .int (n : Nat)] (upd (upd H dx (.own x)) x (.ins (AtC K) dx [])) Q E := by
  refine ⟨x, dx, _, rfl, upd_same, cl_int _, fun _ => q _ ?_ ⟨dx, upd_same⟩, fun z => ?_⟩
  · exact ex_mut (ex_made nx nd ne) nx
  · rw [show isN 0 (.int (n : Nat)) = true from isN_nat (m := 0) (Nat.zero_le _)] at z
    cases z
theorem ok_At_init {P : Program} {w : World} {K : PySem.W.Frag} {mg : Str → Option Value} {base : Heap} (T : Env K mg) : Fc P w K mg base 2 (He.ma K (He.ga K "At") "__init__") [] (sp_At_init K ) := by
  obtain ⟨fd, D, F⟩ := fb_At_init T
  exact F.all (D.bindsN fun _ _ _ _ _ _ us hl => match us, hl with | [_, _], _ => rfl)
end
section
def sp_At_ends (K : PySem.W.Frag) : Sp := fun vs H Q _ => ∃ a n, vs = [.ref a] ∧ AtAt K H a n ∧ Q (.int (n : Nat)) H
theorem fb_At_ends {P : Program} {w : World} {K : PySem.W.Frag} {mg : Str → Option Value} {base : Heap} (T : Env K mg) : ∃ fd, FunD K "ends" "At.ends" (defArgs s_At_ends) (defBody s_At_ends) (defScope s_At_ends) [] [] (He.ma K (He.ga K "At") "ends") fd ∧ Fb P w K mg base 1 (He.ma K (He.ga K "At") "ends") fd ["self"] (sp_At_ends K) := by
  obtain ⟨fd, F⟩ := T.f_At_ends
  refine ⟨fd, F, fb_of F sc_At_ends (fun vs H Q E h => ?_) (fun cdv A outer s H vs Q E hr h => ?_)⟩
  · obtain ⟨a, n, rfl, _⟩ := h
    rfl
  · obtain ⟨a, n, rfl, ⟨dx, ha⟩, q⟩ := h
    refine ⟨_, (pss_one (ps_ret (pe_fld (pv 0) (by rfl)))), ?_⟩
    exact ⟨_, rfl, a, _, dx, _, _, rfl, ha, T.c_At, T.a_At_moment, rfl, q⟩
theorem ok_At_ends {P : Program} {w : World} {K : PySem.W.Frag} {mg : Str → Option Value} {base : Heap} (T : Env K mg) : Fc P w K mg base 1 (He.ma K (He.ga K "At") "ends") [] (sp_At_ends K ) := by
  obtain ⟨fd, D, F⟩ := fb_At_ends T
  exact F.all (D.bindsN fun _ _ _ _ _ _ us hl => match us, hl with | [_], _ => rfl)
end
section
abbrev OverC (K : PySem.W.Frag) : Addr := He.ga K "Over"
def overF (kp : Addr) (m s : Nat) : List (Str × V) := [("kept", .ref kp), ("many", .int (m : Nat)), ("step", .int (s : Nat))]
mutual
/-- at a this short -/
def ShAt (K : PySem.W.Frag) (H : Hp) : Tr → Addr → Prop
  | .at n, a => AtAt K H a n
  | .ov ps m s, a => ∃ dx kp as, H a = some (.ins (OverC K) dx (overF kp m s)) ∧ H kp = some (.tup (as.map V.ref)) ∧ ShsAt K H ps as
def ShsAt (K : PySem.W.Frag) (H : Hp) : List Tr → List Addr → Prop
  | [], as => as = []
  | t :: ts, as => ∃ a r, as = a :: r ∧ ShAt K H t a ∧ ShsAt K H ts r
end
mutual
theorem ShAt.mono {K : PySem.W.Frag} {H H' : Hp} (e : Ex H H') : ∀ {t : Tr} {a : Addr}, ShAt K H t a → ShAt K H' t a
  | .at n, a, h => by
    unfold ShAt at h ⊢
    exact AtAt.mono h e
  | .ov ps m s, a, h => by
    unfold ShAt at h ⊢
    obtain ⟨dx, kp, as, h1, h2, h3⟩ := h
    exact ⟨dx, kp, as, e _ _ h1, e _ _ h2, ShsAt.mono e h3⟩
theorem ShsAt.mono {K : PySem.W.Frag} {H H' : Hp} (e : Ex H H') : ∀ {ts : List Tr} {as : List Addr}, ShsAt K H ts as → ShsAt K H' ts as
  | [], as, h => by
    unfold ShsAt at h ⊢
    exact h
  | t :: ts, as, h => by
    unfold ShsAt at h ⊢
    obtain ⟨a, r, h1, h2, h3⟩ := h
    exact ⟨a, r, h1, ShAt.mono e h2, ShsAt.mono e h3⟩
end
theorem ShsAt.len {K : PySem.W.Frag} {H : Hp} : ∀ {ts : List Tr} {as : List Addr}, ShsAt K H ts as → as.length = ts.length
  | [], as, h => by
    unfold ShsAt at h
    rw [h]
    rfl
  | t :: ts, as, h => by
    unfold ShsAt at h
    obtain ⟨a, r, rfl, _, h3⟩ := h
    rw [List.length_cons, List.length_cons, ShsAt.len h3]
theorem ShsAt.get {K : PySem.W.Frag} {H : Hp} : ∀ {ts : List Tr} {as : List Addr} {i : Nat} {a : Addr}, ShsAt K H ts as → as[i]? = some a → ∃ t, ts[i]? = some t ∧ ShAt K H t a
  | [], as, i, a, h, hi => by
    unfold ShsAt at h
    rw [h] at hi
    cases hi
  | t :: ts, as, i, a, h, hi => by
    unfold ShsAt at h
    obtain ⟨b, r, rfl, h2, h3⟩ := h
    cases i with
    | zero =>
      cases hi
      exact ⟨t, rfl, h2⟩
    | succ i => exact ShsAt.get (i := i) h3 hi
/-- nothing in it is a list -/
theorem ShAt.ins {K : PySem.W.Frag} {H : Hp} {t : Tr} {a : Addr} (h : ShAt K H t a) : ∃ C dx fs, H a = some (.ins C dx fs) := by
  cases t with
  | «at» n =>
    unfold ShAt at h
    obtain ⟨dx, h⟩ := h
    exact ⟨_, dx, _, h⟩
  | ov ps m s =>
    unfold ShAt at h
    obtain ⟨dx, kp, as, h1, _⟩ := h
    exact ⟨_, dx, _, h1⟩
mutual
theorem ShAt.oth {K : PySem.W.Frag} {H H' : Hp} {d : Addr} (o : Oth d H H') (hd : ∀ ob, H d = some ob → (∃ xs, ob = .lst xs)) : ∀ {t : Tr} {a : Addr}, ShAt K H t a → ShAt K H' t a
  | .at n, a, h => by
    unfold ShAt at h ⊢
    obtain ⟨dx, h⟩ := h
    refine ⟨dx, o _ _ (fun z => ?_) h⟩
    obtain ⟨xs, e⟩ := hd _ (z ▸ h)
    cases e
  | .ov ps m s, a, h => by
    unfold ShAt at h ⊢
    obtain ⟨dx, kp, as, h1, h2, h3⟩ := h
    refine ⟨dx, kp, as, o _ _ (fun z => ?_) h1, o _ _ (fun z => ?_) h2, ShsAt.oth o hd h3⟩
    · obtain ⟨xs, e⟩ := hd _ (z ▸ h1)
      cases e
    · obtain ⟨xs, e⟩ := hd _ (z ▸ h2)
      cases e
theorem ShsAt.oth {K : PySem.W.Frag} {H H' : Hp} {d : Addr} (o : Oth d H H') (hd : ∀ ob, H d = some ob → (∃ xs, ob = .lst xs)) : ∀ {ts : List Tr} {as : List Addr}, ShsAt K H ts as → ShsAt K H' ts as
  | [], as, h => by
    unfold ShsAt at h ⊢
    exact h
  | t :: ts, as, h => by
    unfold ShsAt at h ⊢
    obtain ⟨a, r, h1, h2, h3⟩ := h
    exact ⟨a, r, h1, ShAt.oth o hd h2, ShsAt.oth o hd h3⟩
end
def sp_Over_moments (K : PySem.W.Frag) (d : Nat) : Sp := fun vs H Q _ => ∃ a ps m s, vs = [.ref a] ∧ ShAt K H (.ov ps m s) a ∧ (Tr.ov ps m s).nest ≤ d ∧ (Tr.ov ps m s).ok ∧ ∀ p H', Ex H H' → H p = none → H' p = some (.lst (natV (Tr.ov ps m s).moms)) → Q (.ref p) H'
def sp_Over_means_many (K : PySem.W.Frag) (d : Nat) : Sp := fun vs H Q _ => ∃ a ps m s, vs = [.ref a] ∧ ShAt K H (.ov ps m s) a ∧ (Tr.ov ps m s).nest ≤ d ∧ okL_ ps ∧ ps.length ≤ 20000 ∧ ∀ H', Ex H H' → Q (.int ((m * (momsL ps).length : Nat) : Int)) H'
def sp_Over_pieces (K : PySem.W.Frag) (d : Nat) : Sp := fun vs H Q _ => ∃ a ps m s, vs = [.ref a] ∧ ShAt K H (.ov ps m s) a ∧ (Tr.ov ps m s).nest ≤ d ∧ okL_ ps ∧ ps.length ≤ 20000 ∧ ∀ H', Ex H H' → Q (.int (((Tr.ov ps m s).pcs : Nat) : Int)) H'
def sp_Over_nested (K : PySem.W.Frag) (d : Nat) : Sp := fun vs H Q _ => ∃ a ps m s, vs = [.ref a] ∧ ShAt K H (.ov ps m s) a ∧ (Tr.ov ps m s).nest ≤ d ∧ ps ≠ [] ∧ okL_ ps ∧ ps.length ≤ 20000 ∧ ∀ H', Ex H H' → Q (.int (((Tr.ov ps m s).nest : Nat) : Int)) H'
def sp_Over_begins (K : PySem.W.Frag) (d : Nat) : Sp := fun vs H Q _ => ∃ a ps m s, vs = [.ref a] ∧ ShAt K H (.ov ps m s) a ∧ (Tr.ov ps m s).nest ≤ d ∧ (Tr.ov ps m s).ok ∧ Q (.int ((((Tr.ov ps m s).moms.headD 0 : Nat)) : Int)) H
def sp_Over_ends (K : PySem.W.Frag) (d : Nat) : Sp := fun vs H Q _ => ∃ a ps m s, vs = [.ref a] ∧ ShAt K H (.ov ps m s) a ∧ (Tr.ov ps m s).nest ≤ d ∧ (Tr.ov ps m s).ok ∧ Q (.int ((((Tr.ov ps m s).moms.getLastD 0 : Nat)) : Int)) H
theorem ShsAt.snoc {K : PySem.W.Frag} {H : Hp} {t : Tr} {a : Addr} : ∀ {ts : List Tr} {as : List Addr}, ShsAt K H ts as → ShAt K H t a → ShsAt K H (ts ++ [t]) (as ++ [a])
  | [], as, h, ha => by
    unfold ShsAt at h
    rw [h]
    show ShsAt K H [t] [a]
    unfold ShsAt
    exact ⟨a, [], rfl, ha, by unfold ShsAt; rfl⟩
  | x :: ts, as, h, ha => by
    unfold ShsAt at h
    obtain ⟨b, r, rfl, h2, h3⟩ := h
    show ShsAt K H (x :: (ts ++ [t])) (b :: (r ++ [a]))
    unfold ShsAt
    exact ⟨b, r ++ [a], rfl, h2, ShsAt.snoc h3 ha⟩
end
section
theorem fb_Over_ends {P : Program} {w : World} {K : PySem.W.Frag} {mg : Str → Option Value} {base : Heap} (T : Env K mg) {d L : Nat} (hL : 40 ≤ L) (r_Over_ends : Fc P w K mg base L (He.ma K (He.ga K "Over") "ends") [] (sp_Over_ends K d)) : ∃ fd, FunD K "ends" "Over.ends" (defArgs s_Over_ends) (defBody s_Over_ends) (defScope s_Over_ends) [] [] (He.ma K (He.ga K "Over") "ends") fd ∧ Fb P w K mg base (L + 1) (He.ma K (He.ga K "Over") "ends") fd ["self"] (sp_Over_ends K (d + 1)) := by
  obtain ⟨fd, F⟩ := T.f_Over_ends
  refine ⟨fd, F, fb_of F sc_Over_ends (fun vs H Q E h => ?_) (fun cdv A outer s H vs Q E hr h => ?_)⟩
  · obtain ⟨a, ps, m, s, rfl, _⟩ := h
    rfl
  · obtain ⟨a, ps, m, s_, rfl, hO, hn, hok, q⟩ := h
    refine ⟨_, (pss_one (ps_ret (pe_op op_add (pe_orE (c_meth0 (pe_ix ix_tup (pe_fld (pv 0) (by rfl)) (pe_un un_neg pe_int) (fun _ _ => rfl)) T.c_At T.m_At_ends (ok_At_ends T) (hr.mono (by omega)) takes0) (c_meth0 (pe_ix ix_tup (pe_fld (pv 0) (by rfl)) (pe_un un_neg pe_int) (fun _ _ => rfl)) T.c_Over T.m_Over_ends r_Over_ends (hr.mono (by omega)) takes0)) (pe_op op_mul (pe_op op_sub (pe_fld (pv 0) (by rfl)) pe_int) (pe_fld (pv 0) (by rfl)))))), ?_⟩
    have hnL := ov_nest hn
    obtain ⟨o1, o2, _, _, _, _, o7⟩ := ov_facts hok
    have nn := momsL_ne o7 o1
    unfold Tr.moms at q
    obtain ⟨dx, kp, as, ha, hk, hA⟩ := (by unfold ShAt at hO; exact hO : ∃ dx kp as, H a = some (.ins (OverC K) dx (overF kp m s_)) ∧ H kp = some (.tup (as.map V.ref)) ∧ ShsAt K H ps as)
    rw [overN_last nn (by omega)] at q
    have hm := (ov_facts hok).2.2.1
    have hl1 := hA.len
    have as0 : as ≠ [] := fun z => by
      rw [z] at hl1
      exact o1 (List.length_eq_zero_iff.mp hl1.symm)
    obtain ⟨b, gb, aL⟩ := last_ref as0
    obtain ⟨t, ht, hS⟩ := hA.get gb
    have ep : ps = ps.dropLast ++ [t] := by
      have e := (List.dropLast_concat_getLast o1).symm
      have e2 : ps.getLast o1 = t := by
        rw [List.getLast_eq_getElem]
        rw [hl1] at ht
        obtain ⟨_, e⟩ := List.getElem?_eq_some_iff.mp ht
        exact e
      rw [e2] at e
      exact e
    have htm := List.mem_of_getElem? ht
    have eL : (momsL ps).getLastD 0 = t.moms.getLastD 0 := by
      rw [ep] at o7 ⊢
      exact momsL_last o7
    rw [eL] at q
    have ok := okL_mem o7 htm
    have tn := Nat.le_trans (nestL_mem htm) hnL
    have e : ((t.moms.getLastD 0 : Nat) : Int) + (((m : Nat) : Int) - 1) * ((s_ : Nat) : Int) = ((t.moms.getLastD 0 + (m - 1) * s_ : Nat) : Int) := by
      rw [Int.natCast_add, Int.natCast_mul, Int.natCast_sub (by omega)]
      rfl
    rw [← e] at q
    cases t with
    | «at» n =>
      unfold ShAt at hS
      obtain ⟨dy, h2⟩ := id hS
      unfold Tr.moms at q
      exact .inl ⟨_, rfl, a, _, dx, _, _, rfl, ha, T.c_Over, T.a_Over_kept, rfl, _, rfl, kp, _, _, _, rfl, rfl, sq_tup hk, aL, b, dy, _, rfl, h2, rfl, b, n, rfl, hS, _, rfl, a, _, dx, _, _, rfl, ha, T.c_Over, T.a_Over_many, rfl, _, _, rfl, rfl, _, rfl, a, _, dx, _, _, rfl, ha, T.c_Over, T.a_Over_step, rfl, _, _, rfl, rfl, .inl ⟨by omega, by omega⟩, _, _, rfl, rfl, q⟩
    | ov ps' m' s' =>
      obtain ⟨dy, kp', as', h2, _⟩ := (by unfold ShAt at hS; exact hS : ∃ dx kp as, H b = some (.ins (OverC K) dx (overF kp m' s')) ∧ H kp = some (.tup (as.map V.ref)) ∧ ShsAt K H ps' as)
      exact .inr ⟨_, rfl, a, _, dx, _, _, rfl, ha, T.c_Over, T.a_Over_kept, rfl, _, rfl, kp, _, _, _, rfl, rfl, sq_tup hk, aL, b, dy, _, rfl, h2, rfl, b, ps', m', s', rfl, hS, tn, ok, _, rfl, a, _, dx, _, _, rfl, ha, T.c_Over, T.a_Over_many, rfl, _, _, rfl, rfl, _, rfl, a, _, dx, _, _, rfl, ha, T.c_Over, T.a_Over_step, rfl, _, _, rfl, rfl, .inl ⟨by omega, by omega⟩, _, _, rfl, rfl, q⟩
theorem ok_Over_ends {P : Program} {w : World} {K : PySem.W.Frag} {mg : Str → Option Value} {base : Heap} (T : Env K mg) {d L : Nat} (hL : 40 ≤ L) (r_Over_ends : Fc P w K mg base L (He.ma K (He.ga K "Over") "ends") [] (sp_Over_ends K d)) : Fc P w K mg base (L + 1) (He.ma K (He.ga K "Over") "ends") [] (sp_Over_ends K (d + 1)) := by
  obtain ⟨fd, D, F⟩ := fb_Over_ends T hL r_Over_ends
  exact F.all (D.bindsN fun _ _ _ _ _ _ us hl => match us, hl with | [_], _ => rfl)
theorem all_Over_ends {P : Program} {w : World} {K : PySem.W.Frag} {mg : Str → Option Value} {base : Heap} (T : Env K mg) : ∀ d, Fc P w K mg base (40 + 1 * d) (He.ma K (He.ga K "Over") "ends") [] (sp_Over_ends K d)
  | 0 => fc_no fun vs H Q E h => by
    obtain ⟨a, ps, m, s, _, _, h, _⟩ := h
    unfold Tr.nest at h
    omega
  | d + 1 => ok_Over_ends T (Nat.le_add_right 40 _) (all_Over_ends T d)
end
section
def sp_At_begins (K : PySem.W.Frag) : Sp := fun vs H Q _ => ∃ a n, vs = [.ref a] ∧ AtAt K H a n ∧ Q (.int (n : Nat)) H
theorem fb_At_begins {P : Program} {w : World} {K : PySem.W.Frag} {mg : Str → Option Value} {base : Heap} (T : Env K mg) : ∃ fd, FunD K "begins" "At.begins" (defArgs s_At_begins) (defBody s_At_begins) (defScope s_At_begins) [] [] (He.ma K (He.ga K "At") "begins") fd ∧ Fb P w K mg base 1 (He.ma K (He.ga K "At") "begins") fd ["self"] (sp_At_begins K) := by
  obtain ⟨fd, F⟩ := T.f_At_begins
  refine ⟨fd, F, fb_of F sc_At_begins (fun vs H Q E h => ?_) (fun cdv A outer s H vs Q E hr h => ?_)⟩
  · obtain ⟨a, n, rfl, _⟩ := h
    rfl
  · obtain ⟨a, n, rfl, ⟨dx, ha⟩, q⟩ := h
    refine ⟨_, (pss_one (ps_ret (pe_fld (pv 0) (by rfl)))), ?_⟩
    exact ⟨_, rfl, a, _, dx, _, _, rfl, ha, T.c_At, T.a_At_moment, rfl, q⟩
theorem ok_At_begins {P : Program} {w : World} {K : PySem.W.Frag} {mg : Str → Option Value} {base : Heap} (T : Env K mg) : Fc P w K mg base 1 (He.ma K (He.ga K "At") "begins") [] (sp_At_begins K ) := by
  obtain ⟨fd, D, F⟩ := fb_At_begins T
  exact F.all (D.bindsN fun _ _ _ _ _ _ us hl => match us, hl with | [_], _ => rfl)
end
section
theorem fb_Over_begins {P : Program} {w : World} {K : PySem.W.Frag} {mg : Str → Option Value} {base : Heap} (T : Env K mg) {d L : Nat} (hL : 40 ≤ L) (r_Over_begins : Fc P w K mg base L (He.ma K (He.ga K "Over") "begins") [] (sp_Over_begins K d)) : ∃ fd, FunD K "begins" "Over.begins" (defArgs s_Over_begins) (defBody s_Over_begins) (defScope s_Over_begins) [] [] (He.ma K (He.ga K "Over") "begins") fd ∧ Fb P w K mg base (L + 1) (He.ma K (He.ga K "Over") "begins") fd ["self"] (sp_Over_begins K (d + 1)) := by
  obtain ⟨fd, F⟩ := T.f_Over_begins
  refine ⟨fd, F, fb_of F sc_Over_begins (fun vs H Q E h => ?_) (fun cdv A outer s H vs Q E hr h => ?_)⟩
  · obtain ⟨a, ps, m, s, rfl, _⟩ := h
    rfl
  · obtain ⟨a, ps, m, s_, rfl, hO, hn, hok, q⟩ := h
    refine ⟨_, (pss_one (ps_ret (pe_orE (c_meth0 (pe_ix ix_tup (pe_fld (pv 0) (by rfl)) pe_int (fun _ _ => rfl)) T.c_At T.m_At_begins (ok_At_begins T) (hr.mono (by omega)) takes0) (c_meth0 (pe_ix ix_tup (pe_fld (pv 0) (by rfl)) pe_int (fun _ _ => rfl)) T.c_Over T.m_Over_begins r_Over_begins (hr.mono (by omega)) takes0)))), ?_⟩
    have hnL := ov_nest hn
    obtain ⟨o1, o2, _, _, _, _, o7⟩ := ov_facts hok
    have nn := momsL_ne o7 o1
    unfold Tr.moms at q
    obtain ⟨dx, kp, as, ha, hk, hA⟩ := (by unfold ShAt at hO; exact hO : ∃ dx kp as, H a = some (.ins (OverC K) dx (overF kp m s_)) ∧ H kp = some (.tup (as.map V.ref)) ∧ ShsAt K H ps as)
    rw [overN_head nn m (by omega)] at q
    cases ps with
    | nil => exact absurd rfl o1
    | cons t ts =>
      rw [momsL_head o7] at q
      unfold ShsAt at hA
      obtain ⟨b, r, rfl, hS, _⟩ := hA
      have aF : atI ((b :: r).map V.ref) 0 = some (.ref b) := atI_nat (j := 0) rfl
      have ok := okL_mem o7 (List.mem_cons_self (a := t) (l := ts))
      have tn := Nat.le_trans (nestL_mem (List.mem_cons_self (a := t) (l := ts))) hnL
      cases t with
      | «at» n =>
        unfold ShAt at hS
        obtain ⟨dy, h2⟩ := id hS
        exact .inl ⟨_, rfl, a, _, dx, _, _, rfl, ha, T.c_Over, T.a_Over_kept, rfl, kp, _, _, _, rfl, rfl, sq_tup hk, aF, b, dy, _, rfl, h2, rfl, b, n, rfl, hS, by unfold Tr.moms at q; exact q⟩
      | ov ps' m' s' =>
        obtain ⟨dy, kp', as', h2, _⟩ := (by unfold ShAt at hS; exact hS : ∃ dx kp as, H b = some (.ins (OverC K) dx (overF kp m' s')) ∧ H kp = some (.tup (as.map V.ref)) ∧ ShsAt K H ps' as)
        exact .inr ⟨_, rfl, a, _, dx, _, _, rfl, ha, T.c_Over, T.a_Over_kept, rfl, kp, _, _, _, rfl, rfl, sq_tup hk, aF, b, dy, _, rfl, h2, rfl, b, ps', m', s', rfl, hS, tn, ok, q⟩
theorem ok_Over_begins {P : Program} {w : World} {K : PySem.W.Frag} {mg : Str → Option Value} {base : Heap} (T : Env K mg) {d L : Nat} (hL : 40 ≤ L) (r_Over_begins : Fc P w K mg base L (He.ma K (He.ga K "Over") "begins") [] (sp_Over_begins K d)) : Fc P w K mg base (L + 1) (He.ma K (He.ga K "Over") "begins") [] (sp_Over_begins K (d + 1)) := by
  obtain ⟨fd, D, F⟩ := fb_Over_begins T hL r_Over_begins
  exact F.all (D.bindsN fun _ _ _ _ _ _ us hl => match us, hl with | [_], _ => rfl)
theorem all_Over_begins {P : Program} {w : World} {K : PySem.W.Frag} {mg : Str → Option Value} {base : Heap} (T : Env K mg) : ∀ d, Fc P w K mg base (40 + 1 * d) (He.ma K (He.ga K "Over") "begins") [] (sp_Over_begins K d)
  | 0 => fc_no fun vs H Q E h => by
    obtain ⟨a, ps, m, s, _, _, h, _⟩ := h
    unfold Tr.nest at h
    omega
  | d + 1 => ok_Over_begins T (Nat.le_add_right 40 _) (all_Over_begins T d)
end
section
theorem sh_ends {K : PySem.W.Frag} {W : WX} {ta : TE} {σ : L2.St} {H : Hp} {Q : VK} {t : Tr} {a : Addr} {d : Nat} (hS : ShAt K H t a) (hok : t.ok) (hn : t.nest ≤ d) (hta : ∀ R : VK, R (.ref a) H → ta σ H R) (q : Q (.int ((t.moms.getLastD 0 : Nat) : Int)) H) : tOrE (tMt (He.ga K "At") "ends" (sp_At_ends K) W ta tNil) (tMt (He.ga K "Over") "ends" (sp_Over_ends K d) W ta tNil) σ H Q := by
  cases t with
  | «at» n =>
    unfold ShAt at hS
    obtain ⟨dy, h2⟩ := id hS
    unfold Tr.moms at q
    exact .inl (hta _ ⟨a, dy, _, rfl, h2, rfl, a, n, rfl, hS, q⟩)
  | ov ps' m' s' =>
    obtain ⟨dy, kp', as', h2, _⟩ := (by unfold ShAt at hS; exact hS : ∃ dx kp as, H a = some (.ins (OverC K) dx (overF kp m' s')) ∧ H kp = some (.tup (as.map V.ref)) ∧ ShsAt K H ps' as)
    exact .inr (hta _ ⟨a, dy, _, rfl, h2, rfl, a, ps', m', s', rfl, hS, hn, hok, q⟩)
theorem sh_begins {K : PySem.W.Frag} {W : WX} {ta : TE} {σ : L2.St} {H : Hp} {Q : VK} {t : Tr} {a : Addr} {d : Nat} (hS : ShAt K H t a) (hok : t.ok) (hn : t.nest ≤ d) (hta : ∀ R : VK, R (.ref a) H → ta σ H R) (q : Q (.int ((t.moms.headD 0 : Nat) : Int)) H) : tOrE (tMt (He.ga K "At") "begins" (sp_At_begins K) W ta tNil) (tMt (He.ga K "Over") "begins" (sp_Over_begins K d) W ta tNil) σ H Q := by
  cases t with
  | «at» n =>
    unfold ShAt at hS
    obtain ⟨dy, h2⟩ := id hS
    unfold Tr.moms at q
    exact .inl (hta _ ⟨a, dy, _, rfl, h2, rfl, a, n, rfl, hS, q⟩)
  | ov ps' m' s' =>
    obtain ⟨dy, kp', as', h2, _⟩ := (by unfold ShAt at hS; exact hS : ∃ dx kp as, H a = some (.ins (OverC K) dx (overF kp m' s')) ∧ H kp = some (.tup (as.map V.ref)) ∧ ShsAt K H ps' as)
    exact .inr (hta _ ⟨a, dy, _, rfl, h2, rfl, a, ps', m', s', rfl, hS, hn, hok, q⟩)
def sp_all_rising (K : PySem.W.Frag) : Sp := fun vs H Q _ => ∃ (p : Addr) (as : List Addr) (ts : List Tr), vs = [.ref p] ∧ H p = some (.tup (as.map V.ref)) ∧ ShsAt K H ts as ∧ nestL ts ≤ 9 ∧ okL_ ts ∧ ts.length ≤ 20000 ∧ ∀ H', Ex H H' → Q (.bl (risB ts)) H'
theorem fb_all_rising {P : Program} {w : World} {K : PySem.W.Frag} {mg : Str → Option Value} {base : Heap} (T : Env K mg) : ∃ fd, FunD K "all_rising" "all_rising" (defArgs s_all_rising) (defBody s_all_rising) (defScope s_all_rising) [] [] (He.ga K "all_rising") fd ∧ Fb P w K mg base 60 (He.ga K "all_rising") fd ["parts"] (sp_all_rising K) := by
  obtain ⟨fd, F⟩ := T.f_all_rising
  refine ⟨fd, F, fb_of F sc_all_rising (fun vs H Q E h => ?_) (fun cdv A outer s H vs Q E hr h => ?_)⟩
  · obtain ⟨p, as, ts, rfl, _⟩ := h
    rfl
  · obtain ⟨p, as, ts, rfl, hp, hA, hn, hok, hl, q⟩ := h
    refine ⟨_, (pss_one (ps_ret (pe_callB (cr_all rfl) (by rfl) T.n_all (by decide +kernel) (pa_cons (pe_lc (own := [("one", 1), ("other", 2)]) (by rfl) sc_all_rising.nd (RZ.pi_zipA (by rfl) T.n_zip (pa_cons (pv 0) (pa_cons (pe_slice sl_tupA (pv 0) (po_some pe_int) po_none) pa_nil))) (blkOk_by (own := [("one", 1), ("other", 2)]) (N := ["parts", "one", "other"]) (sc := defScope s_all_rising) (by decide +kernel)) (fun _ _ _ _ _ => (pg_tupK K (n := 2) rfl (pgs_cons (pg_name (i := 1) sc_all_rising.nd rfl (Or.inl rfl)) (pgs_cons (pg_name (i := 2) sc_all_rising.nd rfl (Or.inl rfl)) pgs_nil)))) (fun _ _ _ _ _ => pts_nil) (fun _ _ _ _ _ => (pe_cmpR op_lt (pe_orE (c_meth0 (pv 1) T.c_At T.m_At_ends (ok_At_ends T) (hr.mono (by decide)) takes0) (c_meth0 (pv 1) T.c_Over T.m_Over_ends (all_Over_ends T 9) (hr.mono (by decide)) takes0)) (pe_orE (c_meth0 (pv 2) T.c_At T.m_At_begins (ok_At_begins T) (hr.mono (by decide)) takes0) (c_meth0 (pv 2) T.c_Over T.m_Over_begins (all_Over_begins T 9) (hr.mono (by decide)) takes0)) (nomark _)))) pa_nil)))), ?_⟩
    refine ⟨_, rfl, _, rfl, _, rfl, ?_⟩
    dsimp only [tNoPart]
    refine slA_of (sq_tup hp) fun b2 H4 X4 hb2 => ?_
    rw [cut1] at hb2
    have ed : (as.map V.ref).drop 1 = (as.drop 1).map V.ref := by rw [List.map_drop]
    rw [ed] at hb2
    have hA4 := hA.mono X4
    have hl1 := hA.len
    have hz1 : (as.zip ts).map (fun p => V.ref p.1) = as.map V.ref := by
      show (as.zip ts).map (V.ref ∘ Prod.fst) = _
      rw [← List.map_map, List.map_fst_zip (by omega)]
    have hz1d : ((as.zip ts).drop 1).map (fun p => V.ref p.1) = (as.drop 1).map V.ref := by rw [List.map_drop, List.map_drop, hz1]
    have hz2 : (as.zip ts).map Prod.snd = ts := List.map_snd_zip (by omega)
    have zl : (as.zip ts).length ≤ 20000 := by rw [List.length_zip]; omega
    have hp4 : H4 p = some (.tup ((as.zip ts).map fun p => V.ref p.1)) := by rw [hz1]; exact X4 _ _ hp
    rw [← hz1d] at hb2
    refine ⟨p, b2, (as.zip ts).map (fun p => V.ref p.1), ((as.zip ts).drop 1).map (fun p => V.ref p.1), rfl, .inr ⟨sq_tup hp4, hb2, fun D nD => lc_zip (as.zip ts) ((as.zip ts).drop 1) (fun p => V.ref p.1) (fun p => V.ref p.1) (walk_zipT rfl) (by rw [List.length_map, List.length_map]) (fun x y => some (.bl (decide (x.2.moms.getLastD 0 < y.2.moms.headD 0)))) (fun H' => Ex H4 H') (fun H' z e => ex_mut e nD) (.refl _) (by omega) (fun H' e => ⟨sq_tup (e _ _ hp4), ex_sqt e hb2⟩) (fun i x y u H5 acc N hx hy X5 nu hD la k => ?_) fun H5 X5 d5 => ?_⟩⟩
    · have hD2 := fun o => ex_new (o := o) nu _ _ hD
      have Z := X5.trans (ex_new (o := .tup [.ref x.1, .ref y.1]) nu)
      rw [List.getElem?_drop] at hy
      obtain ⟨hx1, hx2⟩ := List.getElem?_zip_eq_some.mp hx
      obtain ⟨hy1, hy2⟩ := List.getElem?_zip_eq_some.mp hy
      have gx : ShAt K H4 x.2 x.1 := by
        obtain ⟨t, ht, h⟩ := hA4.get hx1
        rw [hx2] at ht
        cases ht
        exact h
      have gy : ShAt K H4 y.2 y.1 := by
        obtain ⟨t, ht, h⟩ := hA4.get hy1
        rw [hy2] at ht
        cases ht
        exact h
      have mx := List.mem_of_getElem? hx2
      have my := List.mem_of_getElem? hy2
      refine ⟨u, _, rfl, sq_tup upd_same, rfl, _, _, rfl, _, _, rfl, rfl, rfl, ?_⟩
      refine sh_ends (gx.mono Z) (okL_mem hok mx) (Nat.le_trans (nestL_mem mx) hn) (fun R r => ⟨_, rfl, r⟩) ?_
      refine sh_begins (gy.mono Z) (okL_mem hok my) (Nat.le_trans (nestL_mem my) hn) (fun R r => ⟨_, rfl, r⟩) ?_
      refine ⟨_, _, rfl, rfl, acc, hD2 _, la, ?_⟩
      have ei : decide (((x.2.moms.getLastD 0 : Nat) : Int) < ((y.2.moms.headD 0 : Nat) : Int)) = decide (x.2.moms.getLastD 0 < y.2.moms.headD 0) := decide_eq_decide.mpr ⟨fun z => by omega, fun z => by omega⟩
      show N (upd (upd H5 u (.tup [.ref x.1, .ref y.1])) D (.lst (acc ++ [.bl (decide (((x.2.moms.getLastD 0 : Nat) : Int) < ((y.2.moms.headD 0 : Nat) : Int)))])))
      rw [ei]
      exact k _ Z (hD2 _)
    · have ef : ((as.zip ts).zip ((as.zip ts).drop 1)).filterMap (fun p => some (V.bl (decide (p.1.2.moms.getLastD 0 < p.2.2.moms.headD 0)))) = ((ts.zip (ts.drop 1)).map fun p => decide (p.1.moms.getLastD 0 < p.2.moms.headD 0)).map V.bl := by
        rw [List.filterMap_eq_map', List.map_map]
        conv => rhs; rw [← hz2, ← List.map_drop, List.zip_map, List.map_map]
        rfl
      rw [ef] at d5
      refine ⟨D, _, rfl, sq_lst d5, ?_⟩
      rw [List.all_map]
      exact q _ (X4.trans X5)
theorem ok_all_rising {P : Program} {w : World} {K : PySem.W.Frag} {mg : Str → Option Value} {base : Heap} (T : Env K mg) : Fc P w K mg base 60 (He.ga K "all_rising") [] (sp_all_rising K ) := by
  obtain ⟨fd, D, F⟩ := fb_all_rising T
  exact F.all (D.bindsN fun _ _ _ _ _ _ us hl => match us, hl with | [_], _ => rfl)
end
section
/-- at p a list or a tuple -/
def SqA (H : Hp) (p : Addr) (xs : List V) : Prop := H p = some (.lst xs) ∨ H p = some (.tup xs)
def sp_shorts_in (K : PySem.W.Frag) : Sp := fun vs H Q E => ∃ (p : Addr) (as : List Addr) (ts : List Tr), vs = [.ref p] ∧ SqA H p (as.map V.ref) ∧ ShsAt K H ts as ∧ nestL ts ≤ 9 ∧ okL_ ts ∧ ts.length ≤ 20000 ∧ (risB ts = true → ∀ t H', Ex H H' → H' t = some (.tup (as.map V.ref)) → Q (.ref t) H') ∧ (risB ts = false → ∀ H', Ex H H' → E (.ref (He.ga K "NoPiece")) none H')
theorem fb_shorts_in {P : Program} {w : World} {K : PySem.W.Frag} {mg : Str → Option Value} {base : Heap} (T : Env K mg) : ∃ fd, FunD K "shorts_in" "shorts_in" (defArgs s_shorts_in) (defBody s_shorts_in) (defScope s_shorts_in) [] [] (He.ga K "shorts_in") fd ∧ Fb P w K mg base 61 (He.ga K "shorts_in") fd ["parts"] (sp_shorts_in K) := by
  obtain ⟨fd, F⟩ := T.f_shorts_in
  refine ⟨fd, F, fb_of F sc_shorts_in (fun vs H Q E h => ?_) (fun cdv A outer s H vs Q E hr h => ?_)⟩
  · obtain ⟨p, as, ts, rfl, _⟩ := h
    rfl
  · obtain ⟨p, as, ts, rfl, hp, hA, hn, hok, hl, q, qe⟩ := h
    refine ⟨_, (pss_cons (ps_if (pt_not (pt_val (pe_callB call_isiT (by rfl) T.n_isinstance (by decide +kernel) (pa_cons (pv 0) (pa_cons (pe_tup (pa_cons (pe_bltn (v := .ty "list") (by rfl) T.n_list (by decide +kernel) rfl) (pa_cons (pe_bltn (v := .ty "tuple") (by rfl) T.n_tuple (by decide +kernel) rfl) pa_nil))) pa_nil)))))
      (pss_one (ps_raise rfl (takes_of rfl rfl rfl rfl) (pmk_own PySem.F.excBase_ValueError T.x_NoPiece.x T.g_NoPiece T.x_NoPiece.kp (raises_own T.x_NoPiece.sub T.x_NoPiece.ty) rfl)))
      pss_nil)
      (pss_cons (ps_set (i := 1) sc_shorts_in.nd rfl (Or.inl rfl) (pe_callTy call_tuple_of (by rfl) T.n_tuple (by decide +kernel) (pa_cons (pv 0) pa_nil)))
      (pss_cons (ps_if (PW.pt (pw_or (pt_not (pt_val (pe_callB (cr_all rfl) (by rfl) T.n_all (by decide +kernel) (pa_cons (pe_lc (own := [("one", 2)]) (by rfl) sc_shorts_in.nd (pi_tup (pv 1)) (blkOk_by (own := [("one", 2)]) (N := ["parts", "found", "one"]) (sc := defScope s_shorts_in) (by decide +kernel)) (fun _ _ _ _ _ => (pg_name (i := 2) sc_shorts_in.nd rfl (Or.inl rfl))) (fun _ _ _ _ _ => pts_nil) (fun _ _ _ _ _ => (pe_callB (call_isiK K) (by rfl) T.n_isinstance (by decide +kernel) (pa_cons (pv 2) (pa_cons (pe_glob (v := .ref _) (by rfl) T.g_Short rfl) pa_nil))))) pa_nil)))) (pw_or1 (pt_not (pt_val (c_call (ok_all_rising T) (hr.mono (by decide)) T.g_all_rising T.k_all_rising (takes_of rfl rfl rfl rfl) (pa_cons (pv 1) pa_nil)))))))
      (pss_one (ps_raise rfl (takes_of rfl rfl rfl rfl) (pmk_own PySem.F.excBase_ValueError T.x_NoPiece.x T.g_NoPiece T.x_NoPiece.kp (raises_own T.x_NoPiece.sub T.x_NoPiece.ty) rfl)))
      pss_nil)
      (pss_one (ps_ret (pv 1)))))), ?_⟩
    have hl1 := hA.len
    refine ⟨_, rfl, by show 2 ≤ sizeLine; decide, fun tp ntp => ?_⟩
    have X1 := ex_new (o := .tup [.ty "list", .ty "tuple"]) ntp
    have ty : ∃ t, TyX K (upd H tp (.tup [.ty "list", .ty "tuple"])) (.ref p) t ∧ PySem.W.kitAny K t [.type "list", .type "tuple"] = some true := by
      rcases hp with h | h
      · exact ⟨_, .base (.lst (X1 _ _ h)), kitAny_cons (b := true) (kit_ty (by decide +kernel)) (fun z => nomatch z) (fun _ => rfl)⟩
      · exact ⟨_, .base (.tup (X1 _ _ h)), kitAny_cons (b := false) (kit_ty (by decide +kernel)) (fun _ => kitAny_cons (b := true) (kit_ty (by decide +kernel)) (fun z => nomatch z) (fun _ => rfl)) (by decide)⟩
    obtain ⟨t, ty, kt⟩ := ty
    refine ⟨.ref p, tp, _, t, _, true, rfl, upd_same, .cons (.ty "list") (.cons (.ty "tuple") .nil), ty, kt, true, rfl, iteF ?_⟩
    generalize upd H tp (.tup [.ty "list", .ty "tuple"]) = H1 at X1 ty ⊢
    refine ⟨_, rfl, p, as.map V.ref, rfl, ?_⟩
    have rest : ∀ t2 H2, Ex H1 H2 → H2 t2 = some (.tup (as.map V.ref)) → (tSeq (tIfS (tOr (tNot (tB (tCB (rAll K) (tCons (tLc (iTup K (tVar 1)) (gName 2) tYes (tCB (rIsi K) (tCons (tVar 2) (tCons (tC (V.ref (He.ga K "Short"))) tNil))) (List.map (fun x => x.snd) [(Str.ofString "one", 2)])) tNil)))) (tNot (tB (tFc (sp_all_rising K) (fun cls d x H => E cls d H) (tCons (tVar 1) tNil))))) (fun x σ H => (fun cls d H' => E cls d H') (Value.ref (He.ga K "NoPiece")) none H) tNext) (tRet (tVar 1))) { nx := fun _ H' => Q .non H', rt := Q } [some (.ref p), some (.ref t2), none] H2 := fun t2 H2 X2 h2 => by
      have X02 := X1.trans X2
      have hA2 := hA.mono X02
      refine ⟨_, rfl, t2, rfl, ⟨_, sq_tup h2⟩, fun A nA => lc_on as V.ref L2.walk_tup (fun _ => some (.bl true)) (fun H' => Ex H2 H') (fun H' z e => ex_mut e nA) (.refl _) (by omega) (fun H' e => sq_tup (e _ _ h2)) (fun i x H3 acc N hx X3 hD la k => ?_) fun H3 X3 d3 => ?_⟩
      · obtain ⟨t, ht, hS⟩ := hA2.get hx
        have hS3 := hS.mono X3
        cases t with
        | «at» n =>
          unfold ShAt at hS3
          obtain ⟨dx, h1⟩ := hS3
          exact ⟨rfl, _, rfl, .ref x, .ref (He.ga K "Short"), _, _, true, rfl, .own _, ty_ins T.i_At T.c_At h1, T.kit_At_Short, acc, hD, la, k H3 X3 hD⟩
        | ov ps m s =>
          unfold ShAt at hS3
          obtain ⟨dx, kp, as', h1, _⟩ := hS3
          exact ⟨rfl, _, rfl, .ref x, .ref (He.ga K "Short"), _, _, true, rfl, .own _, ty_ins T.i_Over T.c_Over h1, T.kit_Over_Short, acc, hD, la, k H3 X3 hD⟩
      · have ef : as.filterMap (fun _ => some (V.bl true)) = (List.replicate as.length true).map V.bl := by
          rw [List.map_replicate, ← List.map_const', List.filterMap_eq_map']
        rw [ef] at d3
        refine ⟨A, _, rfl, sq_lst d3, ?_⟩
        rw [all_repT]
        refine ⟨true, rfl, iteF ?_⟩
        refine ⟨_, rfl, t2, as, ts, rfl, X3 _ _ h2, hA2.mono X3, hn, hok, hl, fun H4 X4 => ⟨_, rfl, ?_⟩⟩
        cases hr2 : risB ts with
        | true =>
          refine iteF ?_
          exact ⟨_, rfl, q hr2 t2 H4 (X02.trans (X3.trans X4)) ((X3.trans X4) _ _ h2)⟩
        | false => exact iteT (qe hr2 H4 (X02.trans (X3.trans X4)))
    rcases hp with h | h
    · exact .inl ⟨sq_lst (X1 _ _ h), fun t2 nt2 => rest t2 _ (ex_new nt2) upd_same⟩
    · exact .inr ⟨sq_tup (X1 _ _ h), rest p _ (.refl _) (X1 _ _ h)⟩
theorem ok_shorts_in {P : Program} {w : World} {K : PySem.W.Frag} {mg : Str → Option Value} {base : Heap} (T : Env K mg) : Fc P w K mg base 61 (He.ga K "shorts_in") [] (sp_shorts_in K ) := by
  obtain ⟨fd, D, F⟩ := fb_shorts_in T
  exact F.all (D.bindsN fun _ _ _ _ _ _ us hl => match us, hl with | [_], _ => rfl)
end
section
def sp_At_moments (K : PySem.W.Frag) : Sp := fun vs H Q _ => ∃ a n, vs = [.ref a] ∧ AtAt K H a n ∧ ∀ p, H p = none → Q (.ref p) (upd H p (.lst [.int (n : Nat)]))
theorem fb_At_moments {P : Program} {w : World} {K : PySem.W.Frag} {mg : Str → Option Value} {base : Heap} (T : Env K mg) : ∃ fd, FunD K "moments" "At.moments" (defArgs s_At_moments) (defBody s_At_moments) (defScope s_At_moments) [] [] (He.ma K (He.ga K "At") "moments") fd ∧ Fb P w K mg base 1 (He.ma K (He.ga K "At") "moments") fd ["self"] (sp_At_moments K) := by
  obtain ⟨fd, F⟩ := T.f_At_moments
  refine ⟨fd, F, fb_of F sc_At_moments (fun vs H Q E h => ?_) (fun cdv A outer s H vs Q E hr h => ?_)⟩
  · obtain ⟨a, n, rfl, _⟩ := h
    rfl
  · obtain ⟨a, n, rfl, ⟨dx, ha⟩, q⟩ := h
    refine ⟨_, (pss_one (ps_ret (pe_lst (pa_cons (pe_fld (pv 0) (by rfl)) pa_nil)))), ?_⟩
    exact ⟨_, rfl, a, _, dx, _, _, rfl, ha, T.c_At, T.a_At_moment, rfl, by show 1 ≤ sizeLine; decide, q⟩
theorem ok_At_moments {P : Program} {w : World} {K : PySem.W.Frag} {mg : Str → Option Value} {base : Heap} (T : Env K mg) : Fc P w K mg base 1 (He.ma K (He.ga K "At") "moments") [] (sp_At_moments K ) := by
  obtain ⟨fd, D, F⟩ := fb_At_moments T
  exact F.all (D.bindsN fun _ _ _ _ _ _ us hl => match us, hl with | [_], _ => rfl)
end
section
def sp_row_moments (K : PySem.W.Frag) (d : Nat) : Sp := fun vs H Q _ => ∃ (p : Addr) (as : List Addr) (ts : List Tr), vs = [.ref p] ∧ H p = some (.tup (as.map V.ref)) ∧ ShsAt K H ts as ∧ nestL ts ≤ d ∧ okL_ ts ∧ (momsL ts).length ≤ 1440 ∧ ∀ t H', Ex H H' → H t = none → H' t = some (.lst (natV (momsL ts))) → Q (.ref t) H'
theorem fb_row_moments {P : Program} {w : World} {K : PySem.W.Frag} {mg : Str → Option Value} {base : Heap} (T : Env K mg) {d L : Nat} (hL : 40 ≤ L) (r_Over_moments : Fc P w K mg base L (He.ma K (He.ga K "Over") "moments") [] (sp_Over_moments K d)) : ∃ fd, FunD K "row_moments" "row_moments" (defArgs s_row_moments) (defBody s_row_moments) (defScope s_row_moments) [] [] (He.ga K "row_moments") fd ∧ Fb P w K mg base (L + 1) (He.ga K "row_moments") fd ["parts"] (sp_row_moments K (d)) := by
  obtain ⟨fd, F⟩ := T.f_row_moments
  refine ⟨fd, F, fb_of F sc_row_moments (fun vs H Q E h => ?_) (fun cdv A outer s H vs Q E hr h => ?_)⟩
  · obtain ⟨p, as, ts, rfl, _⟩ := h
    rfl
  · obtain ⟨p, as, ts, rfl, hp, hA, hn, hok, hl, q⟩ := h
    refine ⟨_, (pss_cons (ps_set (i := 1) sc_row_moments.nd rfl (Or.inl rfl) (pe_lst pa_nil))
      (pss_cons (ps_for (passes_of rfl) rfl (pi_tup (pv 0)) (pg_name (i := 2) sc_row_moments.nd rfl (Or.inl rfl))
      (pss_one (ps_expr (pe_bm PySem.F.plainAttrs_list PySem.F.slot_list_extend PySem.F.type_list_extend mt_extend (pv 1) (pa_cons (pe_orE (c_meth0 (pv 2) T.c_At T.m_At_moments (ok_At_moments T) (hr.mono (by omega)) takes0) (c_meth0 (pv 2) T.c_Over T.m_Over_moments r_Over_moments (hr.mono (by omega)) takes0)) pa_nil)))))
      (pss_one (ps_ret (pv 1))))), ?_⟩
    refine ⟨by show 0 ≤ sizeLine; decide, fun f nf => ?_⟩
    have X0 := ex_new (o := .lst []) nf
    have hl1 := hA.len
    have pf : p ≠ f := ne_of_none hp nf
    refine ⟨_, rfl, p, rfl, ⟨_, sq_tup (X0 _ _ hp)⟩, for_on as V.ref L2.walk_tup (fun i σ H' => Oth f H H' ∧ ∃ v2, σ = [some (.ref p), some (.ref f), v2] ∧ H' f = some (.lst (natV (momsL (ts.take i))))) ⟨ex_oth X0, _, rfl, upd_same⟩ (fun i σ H' z => sq_tup (z.1 _ _ pf hp)) ?_ ?_⟩
    · rintro i a σ H2 hx ⟨O2, v2, rfl, hf⟩
      obtain ⟨t, ht, hS⟩ := hA.get hx
      have htm := List.mem_of_getElem? ht
      have X2 : Ex H H2 := fun b o e => O2 b o (ne_of_none e nf) e
      have eT := momsL_take ht
      have bT := momsL_take_len ts (i + 1)
      rw [eT, List.length_append] at bT
      have hS2 := hS.mono X2
      have fin : ∀ (u : Addr) (H3 : Hp), Ex H2 H3 → H3 u = some (.lst (natV t.moms)) → rExtend (.ref f) [.ref u] H3 (fun _ H' => Oth f H H' ∧ ∃ v2', [some (V.ref p), some (V.ref f), some (V.ref a)] = [some (.ref p), some (.ref f), v2'] ∧ H' f = some (.lst (natV (momsL (ts.take (i + 1)))))) := fun u H3 X3 hu => by
        refine ⟨f, u, _, _, rfl, rfl, X3 _ _ hf, hu, sz_le (by rw [natV_len, natV_len]; omega), (O2.trans (ex_oth X3)).upd, _, rfl, ?_⟩
        rw [upd_same, eT]
        unfold natV
        rw [List.map_append]
      refine ⟨_, rfl, .inl ⟨rfl, _, sq_lst hf⟩, ?_⟩
      cases t with
      | «at» n =>
        unfold ShAt at hS2
        obtain ⟨dx, h2⟩ := id hS2
        exact .inl ⟨_, rfl, a, dx, _, rfl, h2, rfl, a, n, rfl, hS2, fun u nu => fin u _ (ex_new nu) (by rw [upd_same]; unfold Tr.moms; rfl)⟩
      | ov ps m s =>
        obtain ⟨dx, kp, as', h2, _⟩ := (by unfold ShAt at hS2; exact hS2 : ∃ dx kp as, H2 a = some (.ins (OverC K) dx (overF kp m s)) ∧ H2 kp = some (.tup (as.map V.ref)) ∧ ShsAt K H2 ps as)
        exact .inr ⟨_, rfl, a, dx, _, rfl, h2, rfl, a, ps, m, s, rfl, hS2, Nat.le_trans (nestL_mem htm) hn, okL_mem hok htm, fun u H3 X3 nu hu => fin u H3 X3 hu⟩
    · rintro σ H2 ⟨O2, v2, rfl, hf⟩
      rw [List.take_of_length_le (by omega)] at hf
      exact ⟨_, rfl, q f H2 (fun b o e => O2 b o (ne_of_none e nf) e) nf hf⟩
theorem ok_row_moments {P : Program} {w : World} {K : PySem.W.Frag} {mg : Str → Option Value} {base : Heap} (T : Env K mg) {d L : Nat} (hL : 40 ≤ L) (r_Over_moments : Fc P w K mg base L (He.ma K (He.ga K "Over") "moments") [] (sp_Over_moments K d)) : Fc P w K mg base (L + 1) (He.ga K "row_moments") [] (sp_row_moments K (d)) := by
  obtain ⟨fd, D, F⟩ := fb_row_moments T hL r_Over_moments
  exact F.all (D.bindsN fun _ _ _ _ _ _ us hl => match us, hl with | [_], _ => rfl)
end
section
def sp_At_means_many (K : PySem.W.Frag) : Sp := fun vs H Q _ => ∃ a n, vs = [.ref a] ∧ AtAt K H a n ∧ Q (.int 1) H
theorem fb_At_means_many {P : Program} {w : World} {K : PySem.W.Frag} {mg : Str → Option Value} {base : Heap} (T : Env K mg) : ∃ fd, FunD K "means_many" "At.means_many" (defArgs s_At_means_many) (defBody s_At_means_many) (defScope s_At_means_many) [] [] (He.ma K (He.ga K "At") "means_many") fd ∧ Fb P w K mg base 1 (He.ma K (He.ga K "At") "means_many") fd ["self"] (sp_At_means_many K) := by
  obtain ⟨fd, F⟩ := T.f_At_means_many
  refine ⟨fd, F, fb_of F sc_At_means_many (fun vs H Q E h => ?_) (fun cdv A outer s H vs Q E hr h => ?_)⟩
  · obtain ⟨a, n, rfl, _⟩ := h
    rfl
  · obtain ⟨a, n, rfl, ⟨dx, ha⟩, q⟩ := h
    refine ⟨_, (pss_one (ps_ret pe_int)), ?_⟩
    exact q
theorem ok_At_means_many {P : Program} {w : World} {K : PySem.W.Frag} {mg : Str → Option Value} {base : Heap} (T : Env K mg) : Fc P w K mg base 1 (He.ma K (He.ga K "At") "means_many") [] (sp_At_means_many K ) := by
  obtain ⟨fd, D, F⟩ := fb_At_means_many T
  exact F.all (D.bindsN fun _ _ _ _ _ _ us hl => match us, hl with | [_], _ => rfl)
end
section
theorem range_opt {α : Type} (ts : List α) (f : α → V) : (List.range ts.length).filterMap (fun i => (ts[i]?).map f) = ts.map f := by
  induction ts with
  | nil => rfl
  | cons t r ih =>
    rw [List.length_cons, List.range_succ_eq_map, List.filterMap_cons, List.filterMap_map]
    show f t :: List.filterMap (fun i => (r[i]?).map f) (List.range r.length) = f t :: r.map f
    rw [ih]
theorem sum_many : ∀ ts : List Tr, (ts.map fun t => ((t.moms.length : Nat) : Int)).sum = (((momsL ts).length : Nat) : Int)
  | [] => rfl
  | t :: r => by
    rw [List.map_cons, List.sum_cons, sum_many r]
    have e : momsL (t :: r) = t.moms ++ momsL r := by simp [momsL]
    rw [e, List.length_append]
    omega
theorem sum_pcs : ∀ ts : List Tr, (ts.map fun t => ((t.pcs : Nat) : Int)).sum = ((pcsL ts : Nat) : Int)
  | [] => rfl
  | t :: r => by
    rw [List.map_cons, List.sum_cons, sum_pcs r]
    show _ = ((t.pcs + pcsL r : Nat) : Int)
    omega
def sp_row_many (K : PySem.W.Frag) (d : Nat) : Sp := fun vs H Q _ => ∃ (p : Addr) (as : List Addr) (ts : List Tr), vs = [.ref p] ∧ H p = some (.tup (as.map V.ref)) ∧ ShsAt K H ts as ∧ nestL ts ≤ d ∧ okL_ ts ∧ ts.length ≤ 20000 ∧ ∀ H', Ex H H' → Q (.int (((momsL ts).length : Nat) : Int)) H'
theorem fb_row_many {P : Program} {w : World} {K : PySem.W.Frag} {mg : Str → Option Value} {base : Heap} (T : Env K mg) {d L : Nat} (hL : 40 ≤ L) (r_Over_means_many : Fc P w K mg base L (He.ma K (He.ga K "Over") "means_many") [] (sp_Over_means_many K d)) : ∃ fd, FunD K "row_many" "row_many" (defArgs s_row_many) (defBody s_row_many) (defScope s_row_many) [] [] (He.ga K "row_many") fd ∧ Fb P w K mg base (L + 1) (He.ga K "row_many") fd ["parts"] (sp_row_many K (d)) := by
  obtain ⟨fd, F⟩ := T.f_row_many
  refine ⟨fd, F, fb_of F sc_row_many (fun vs H Q E h => ?_) (fun cdv A outer s H vs Q E hr h => ?_)⟩
  · obtain ⟨p, as, ts, rfl, _⟩ := h
    rfl
  · obtain ⟨p, as, ts, rfl, hp, hA, hn, hok, hl, q⟩ := h
    refine ⟨_, (pss_one (ps_ret (pe_callB (cr_sum rfl) (by rfl) T.n_sum (by decide +kernel) (pa_cons (pe_lc (own := [("one", 1)]) (by rfl) sc_row_many.nd (pi_tup (pv 0)) (blkOk_by (own := [("one", 1)]) (N := ["parts", "one"]) (sc := defScope s_row_many) (by decide +kernel)) (fun _ _ _ _ _ => (pg_name (i := 1) sc_row_many.nd rfl (Or.inl rfl))) (fun _ _ _ _ _ => pts_nil) (fun _ _ _ _ _ => (pe_orE (c_meth0 (pv 1) T.c_At T.m_At_means_many (ok_At_means_many T) (hr.mono (by omega)) takes0) (c_meth0 (pv 1) T.c_Over T.m_Over_means_many r_Over_means_many (hr.mono (by omega)) takes0)))) pa_nil)))), ?_⟩
    have hl1 := hA.len
    have hl2 := len_moms hok
    refine ⟨_, rfl, p, rfl, ⟨_, sq_tup hp⟩, fun A nA => lc_fm L2.walk_tup (fun i => (ts[i]?).map fun t => .int ((t.moms.length : Nat) : Int)) (fun H' => Ex H H') (fun H' z e => ex_mut e nA) (.refl _) (by rw [List.length_map]; omega) (fun H' e => sq_tup (e _ _ hp)) (fun i x H2 H3 acc N hi e hD la y k => ?_) fun H3 X3 d3 => ?_⟩
    · obtain ⟨rfl, y⟩ := y
      rw [List.getElem?_map] at y
      obtain ⟨a, ha, rfl⟩ := Option.map_eq_some_iff.mp y
      obtain ⟨t, ht, hS⟩ := hA.get ha
      have htm := List.mem_of_getElem? ht
      have hS2 := hS.mono e
      have k2 := fun H4 (X4 : Ex H3 H4) => k H4 (e.trans X4) (X4 _ _ hD)
      rw [ht] at k2
      have ok := okL_mem hok htm
      cases t with
      | «at» n =>
        unfold ShAt at hS2
        obtain ⟨dx, h2⟩ := id hS2
        exact ⟨rfl, .inl ⟨_, rfl, a, dx, _, rfl, h2, rfl, a, n, rfl, hS2, acc, hD, la, k2 H3 (.refl _)⟩⟩
      | ov ps m s =>
        obtain ⟨dx, kp, as', h2, _⟩ := (by unfold ShAt at hS2; exact hS2 : ∃ dx kp as, H3 a = some (.ins (OverC K) dx (overF kp m s)) ∧ H3 kp = some (.tup (as.map V.ref)) ∧ ShsAt K H3 ps as)
        obtain ⟨_, _, _, _, o5', _, o7⟩ := ov_facts ok
        have o5 : ps.length ≤ 20000 := by omega
        refine ⟨rfl, .inr ⟨_, rfl, a, dx, _, rfl, h2, rfl, a, ps, m, s, rfl, hS2, Nat.le_trans (nestL_mem htm) hn, o7, o5, fun H4 X4 => ⟨acc, X4 _ _ hD, la, ?_⟩⟩⟩
        have k3 : N (upd H4 A (.lst (acc ++ [.int (((Tr.ov ps m s).moms.length : Nat) : Int)]))) := k2 H4 X4
        rw [show (Tr.ov ps m s).moms.length = m * (momsL ps).length from by unfold Tr.moms; exact overN_len _ _ _] at k3
        exact k3
    · rw [List.length_map, hl1, range_opt ts (fun t => V.int ((t.moms.length : Nat) : Int))] at d3
      have e1 : ts.map (fun t => V.int ((t.moms.length : Nat) : Int)) = (ts.map fun t => ((t.moms.length : Nat) : Int)).map V.int := by
        rw [List.map_map]
        rfl
      rw [e1] at d3
      refine ⟨A, _, rfl, sq_lst d3, ?_⟩
      rw [sum_many]
      exact q _ X3
theorem ok_row_many {P : Program} {w : World} {K : PySem.W.Frag} {mg : Str → Option Value} {base : Heap} (T : Env K mg) {d L : Nat} (hL : 40 ≤ L) (r_Over_means_many : Fc P w K mg base L (He.ma K (He.ga K "Over") "means_many") [] (sp_Over_means_many K d)) : Fc P w K mg base (L + 1) (He.ga K "row_many") [] (sp_row_many K (d)) := by
  obtain ⟨fd, D, F⟩ := fb_row_many T hL r_Over_means_many
  exact F.all (D.bindsN fun _ _ _ _ _ _ us hl => match us, hl with | [_], _ => rfl)
end
section
def sp_At_pieces (K : PySem.W.Frag) : Sp := fun vs H Q _ => ∃ a n, vs = [.ref a] ∧ AtAt K H a n ∧ Q (.int 1) H
theorem fb_At_pieces {P : Program} {w : World} {K : PySem.W.Frag} {mg : Str → Option Value} {base : Heap} (T : Env K mg) : ∃ fd, FunD K "pieces" "At.pieces" (defArgs s_At_pieces) (defBody s_At_pieces) (defScope s_At_pieces) [] [] (He.ma K (He.ga K "At") "pieces") fd ∧ Fb P w K mg base 1 (He.ma K (He.ga K "At") "pieces") fd ["self"] (sp_At_pieces K) := by
  obtain ⟨fd, F⟩ := T.f_At_pieces
  refine ⟨fd, F, fb_of F sc_At_pieces (fun vs H Q E h => ?_) (fun cdv A outer s H vs Q E hr h => ?_)⟩
  · obtain ⟨a, n, rfl, _⟩ := h
    rfl
  · obtain ⟨a, n, rfl, ⟨dx, ha⟩, q⟩ := h
    refine ⟨_, (pss_one (ps_ret pe_int)), ?_⟩
    exact q
theorem ok_At_pieces {P : Program} {w : World} {K : PySem.W.Frag} {mg : Str → Option Value} {base : Heap} (T : Env K mg) : Fc P w K mg base 1 (He.ma K (He.ga K "At") "pieces") [] (sp_At_pieces K ) := by
  obtain ⟨fd, D, F⟩ := fb_At_pieces T
  exact F.all (D.bindsN fun _ _ _ _ _ _ us hl => match us, hl with | [_], _ => rfl)
end
section
def sp_row_pieces (K : PySem.W.Frag) (d : Nat) : Sp := fun vs H Q _ => ∃ (p : Addr) (as : List Addr) (ts : List Tr), vs = [.ref p] ∧ H p = some (.tup (as.map V.ref)) ∧ ShsAt K H ts as ∧ nestL ts ≤ d ∧ okL_ ts ∧ ts.length ≤ 20000 ∧ ∀ H', Ex H H' → Q (.int ((pcsL ts : Nat) : Int)) H'
theorem fb_row_pieces {P : Program} {w : World} {K : PySem.W.Frag} {mg : Str → Option Value} {base : Heap} (T : Env K mg) {d L : Nat} (hL : 40 ≤ L) (r_Over_pieces : Fc P w K mg base L (He.ma K (He.ga K "Over") "pieces") [] (sp_Over_pieces K d)) : ∃ fd, FunD K "row_pieces" "row_pieces" (defArgs s_row_pieces) (defBody s_row_pieces) (defScope s_row_pieces) [] [] (He.ga K "row_pieces") fd ∧ Fb P w K mg base (L + 1) (He.ga K "row_pieces") fd ["parts"] (sp_row_pieces K (d)) := by
  obtain ⟨fd, F⟩ := T.f_row_pieces
  refine ⟨fd, F, fb_of F sc_row_pieces (fun vs H Q E h => ?_) (fun cdv A outer s H vs Q E hr h => ?_)⟩
  · obtain ⟨p, as, ts, rfl, _⟩ := h
    rfl
  · obtain ⟨p, as, ts, rfl, hp, hA, hn, hok, hl, q⟩ := h
    refine ⟨_, (pss_one (ps_ret (pe_callB (cr_sum rfl) (by rfl) T.n_sum (by decide +kernel) (pa_cons (pe_lc (own := [("one", 1)]) (by rfl) sc_row_pieces.nd (pi_tup (pv 0)) (blkOk_by (own := [("one", 1)]) (N := ["parts", "one"]) (sc := defScope s_row_pieces) (by decide +kernel)) (fun _ _ _ _ _ => (pg_name (i := 1) sc_row_pieces.nd rfl (Or.inl rfl))) (fun _ _ _ _ _ => pts_nil) (fun _ _ _ _ _ => (pe_orE (c_meth0 (pv 1) T.c_At T.m_At_pieces (ok_At_pieces T) (hr.mono (by omega)) takes0) (c_meth0 (pv 1) T.c_Over T.m_Over_pieces r_Over_pieces (hr.mono (by omega)) takes0)))) pa_nil)))), ?_⟩
    have hl1 := hA.len
    have hl2 := len_moms hok
    refine ⟨_, rfl, p, rfl, ⟨_, sq_tup hp⟩, fun A nA => lc_fm L2.walk_tup (fun i => (ts[i]?).map fun t => .int ((t.pcs : Nat) : Int)) (fun H' => Ex H H') (fun H' z e => ex_mut e nA) (.refl _) (by rw [List.length_map]; omega) (fun H' e => sq_tup (e _ _ hp)) (fun i x H2 H3 acc N hi e hD la y k => ?_) fun H3 X3 d3 => ?_⟩
    · obtain ⟨rfl, y⟩ := y
      rw [List.getElem?_map] at y
      obtain ⟨a, ha, rfl⟩ := Option.map_eq_some_iff.mp y
      obtain ⟨t, ht, hS⟩ := hA.get ha
      have htm := List.mem_of_getElem? ht
      have hS2 := hS.mono e
      have k2 := fun H4 (X4 : Ex H3 H4) => k H4 (e.trans X4) (X4 _ _ hD)
      rw [ht] at k2
      have ok := okL_mem hok htm
      cases t with
      | «at» n =>
        unfold ShAt at hS2
        obtain ⟨dx, h2⟩ := id hS2
        exact ⟨rfl, .inl ⟨_, rfl, a, dx, _, rfl, h2, rfl, a, n, rfl, hS2, acc, hD, la, k2 H3 (.refl _)⟩⟩
      | ov ps m s =>
        obtain ⟨dx, kp, as', h2, _⟩ := (by unfold ShAt at hS2; exact hS2 : ∃ dx kp as, H3 a = some (.ins (OverC K) dx (overF kp m s)) ∧ H3 kp = some (.tup (as.map V.ref)) ∧ ShsAt K H3 ps as)
        obtain ⟨_, _, _, _, o5', _, o7⟩ := ov_facts ok
        have o5 : ps.length ≤ 20000 := by omega
        refine ⟨rfl, .inr ⟨_, rfl, a, dx, _, rfl, h2, rfl, a, ps, m, s, rfl, hS2, Nat.le_trans (nestL_mem htm) hn, o7, o5, fun H4 X4 => ⟨acc, X4 _ _ hD, la, ?_⟩⟩⟩
        have k3 := k2 H4 X4
        exact k3
    · rw [List.length_map, hl1, range_opt ts (fun t => V.int ((t.pcs : Nat) : Int))] at d3
      have e1 : ts.map (fun t => V.int ((t.pcs : Nat) : Int)) = (ts.map fun t => ((t.pcs : Nat) : Int)).map V.int := by
        rw [List.map_map]
        rfl
      rw [e1] at d3
      refine ⟨A, _, rfl, sq_lst d3, ?_⟩
      rw [sum_pcs]
      exact q _ X3
theorem ok_row_pieces {P : Program} {w : World} {K : PySem.W.Frag} {mg : Str → Option Value} {base : Heap} (T : Env K mg) {d L : Nat} (hL : 40 ≤ L) (r_Over_pieces : Fc P w K mg base L (He.ma K (He.ga K "Over") "pieces") [] (sp_Over_pieces K d)) : Fc P w K mg base (L + 1) (He.ga K "row_pieces") [] (sp_row_pieces K (d)) := by
  obtain ⟨fd, D, F⟩ := fb_row_pieces T hL r_Over_pieces
  exact F.all (D.bindsN fun _ _ _ _ _ _ us hl => match us, hl with | [_], _ => rfl)
end
section
def rowT (ws : List (List Nat)) : List Nat := if ws = [] then [45] else TL.joinL [44, 32] ws
mutual
/-- a short as it is written -/
def Tr.txt : Tr → List Nat
  | .at n => Mo.shw n
  | .ov ps m s => [40] ++ rowT (txtL ps) ++ [41, 32, 120] ++ TL.numL m ++ [32, 43] ++ TL.numL s
def txtL : List Tr → List (List Nat)
  | [] => []
  | t :: ts => t.txt :: txtL ts
end
mutual
def Tr.fit : Tr → Prop
  | .at n => n < 10 ^ 255
  | .ov ps m s => m < 10 ^ 255 ∧ s < 10 ^ 255 ∧ fitL ps
def fitL : List Tr → Prop
  | [] => True
  | t :: ts => t.fit ∧ fitL ts
end
theorem txtL_map (ts : List Tr) : txtL ts = ts.map Tr.txt := by
  induction ts with
  | nil => simp [txtL]
  | cons t r ih => simp [txtL, ih]
theorem fitL_mem {t : Tr} : ∀ {ts : List Tr}, fitL ts → t ∈ ts → t.fit
  | x :: r, h, hm => by
    unfold fitL at h
    rcases List.mem_cons.mp hm with rfl | hm
    · exact h.1
    · exact fitL_mem h.2 hm
theorem pcsL_mem {t : Tr} : ∀ {ts : List Tr}, t ∈ ts → t.pcs ≤ pcsL ts
  | x :: r, hm => by
    unfold pcsL
    rcases List.mem_cons.mp hm with rfl | hm
    · omega
    · have := pcsL_mem hm
      omega
theorem pcs_pos (t : Tr) : 1 ≤ t.pcs := by
  cases t <;> unfold Tr.pcs <;> omega
theorem len_pcsL (ts : List Tr) : ts.length ≤ pcsL ts := by
  induction ts with
  | nil => exact Nat.zero_le _
  | cons t r ih =>
    have := pcs_pos t
    unfold pcsL
    rw [List.length_cons]
    omega
mutual
theorem txt_len : ∀ {t : Tr}, t.fit → t.txt.length + 2 ≤ 600 * t.pcs
  | .at n, h => by
    unfold Tr.fit at h
    have := Mo.shw_len (by decide) h
    unfold Tr.txt Tr.pcs
    omega
  | .ov ps m s, h => by
    unfold Tr.fit at h
    obtain ⟨h1, h2, h3⟩ := h
    have l1 := TL.numL_len (by decide) h1
    have l2 := TL.numL_len (by decide) h2
    have l3 := row_len h3
    have l4 : (rowT (txtL ps)).length ≤ 600 * pcsL ps + 1 := by
      unfold rowT
      split
      · show 1 ≤ _
        omega
      · omega
    unfold Tr.txt Tr.pcs
    simp only [List.length_append, List.length_cons, List.length_nil]
    omega
theorem row_len : ∀ {ts : List Tr}, fitL ts → (TL.joinL [44, 32] (txtL ts)).length ≤ 600 * pcsL ts
  | [], _ => by
    unfold txtL
    exact Nat.zero_le _
  | [t], h => by
    unfold fitL at h
    have := txt_len h.1
    have e : txtL [t] = [t.txt] := by simp [txtL]
    rw [e]
    show t.txt.length ≤ _
    have e2 : pcsL [t] = t.pcs := by simp [pcsL]
    omega
  | t :: x :: r, h => by
    unfold fitL at h
    have h1 := txt_len h.1
    have h2 := row_len h.2
    have e : txtL (t :: x :: r) = t.txt :: x.txt :: txtL r := by simp [txtL]
    have e3 : txtL (x :: r) = x.txt :: txtL r := by simp [txtL]
    rw [e3] at h2
    rw [e]
    show (t.txt ++ ([44, 32] ++ TL.joinL [44, 32] (x.txt :: txtL r))).length ≤ _
    have e2 : pcsL (t :: x :: r) = t.pcs + pcsL (x :: r) := by rw [pcsL]
    simp only [List.length_append, List.length_cons, List.length_nil]
    omega
end
theorem rowT_len {ts : List Tr} (h : fitL ts) : (rowT (txtL ts)).length ≤ 600 * pcsL ts + 1 := by
  have := row_len h
  unfold rowT
  split
  · show 1 ≤ _
    omega
  · omega
theorem sum_txt : ∀ {ts : List Tr}, fitL ts → ((txtL ts).map (·.length)).sum + 2 * ts.length ≤ 600 * pcsL ts
  | [], _ => by simp [txtL, pcsL]
  | t :: r, h => by
    unfold fitL at h
    have h1 := txt_len h.1
    have h2 := sum_txt h.2
    unfold txtL pcsL
    simp only [List.map_cons, List.sum_cons, List.length_cons]
    omega
mutual
theorem fit_of : ∀ {t : Tr}, t.ok → (∀ n ∈ t.moms, n < 10 ^ 80) → t.fit
  | .at n, _, h => by
    unfold Tr.fit
    unfold Tr.moms at h
    exact Nat.lt_trans (h n List.mem_cons_self) (by decide +kernel)
  | .ov ps m s, ho, h => by
    have hf := ov_facts ho
    unfold Tr.ok at ho
    obtain ⟨h1, h2, h3, h4, h5, h6, h7⟩ := ho
    unfold Tr.moms at h
    obtain ⟨n, hn⟩ : ∃ n, n ∈ momsL ps := ⟨_, headD_mem (momsL_ne h7 h1)⟩
    have hs := h (n + 1 * s) (mem_overN.mpr ⟨1, n, by omega, hn, rfl⟩)
    unfold Tr.fit
    refine ⟨Nat.lt_of_le_of_lt hf.2.2.1 (by decide +kernel), Nat.lt_trans (show s < 10 ^ 80 by omega) (by decide +kernel), fitL_of h7 fun k hk => ?_⟩
    have := h (k + 0 * s) (mem_overN.mpr ⟨0, k, by omega, hk, rfl⟩)
    omega
theorem fitL_of : ∀ {ts : List Tr}, okL_ ts → (∀ n ∈ momsL ts, n < 10 ^ 80) → fitL ts
  | [], _, _ => by
    unfold fitL
    trivial
  | t :: r, ho, h => by
    unfold okL_ at ho
    unfold momsL at h
    unfold fitL
    exact ⟨fit_of ho.1 fun n hn => h n (List.mem_append_left _ hn), fitL_of ho.2 fun n hn => h n (List.mem_append_right _ hn)⟩
end
def sp_Over_str (K : PySem.W.Frag) (d : Nat) : Sp := fun vs H Q _ => ∃ a ps m s, vs = [.ref a] ∧ ShAt K H (.ov ps m s) a ∧ (Tr.ov ps m s).nest ≤ d ∧ (Tr.ov ps m s).fit ∧ (Tr.ov ps m s).pcs ≤ 10000 ∧ ∀ H', Ex H H' → Q (.str (SX.S (Tr.ov ps m s).txt)) H'
end
section
def sp_At_str (K : PySem.W.Frag) : Sp := fun vs H Q _ => ∃ a n, vs = [.ref a] ∧ AtAt K H a n ∧ n < 10 ^ 255 ∧ ∀ H', Ex H H' → Q (.str (SX.S (Mo.shw n))) H'
theorem fb_At_str {P : Program} {w : World} {K : PySem.W.Frag} {mg : Str → Option Value} {base : Heap} (T : Env K mg) : ∃ fd, FunD K "__str__" "At.__str__" (defArgs s_At_str) (defBody s_At_str) (defScope s_At_str) [] [] (He.ma K (He.ga K "At") "__str__") fd ∧ Fb P w K mg base 6 (He.ma K (He.ga K "At") "__str__") fd ["self"] (sp_At_str K) := by
  obtain ⟨fd, F⟩ := T.f_At_str
  refine ⟨fd, F, fb_of F sc_At_str (fun vs H Q E h => ?_) (fun cdv A outer s H vs Q E hr h => ?_)⟩
  · obtain ⟨a, n, rfl, _⟩ := h
    rfl
  · obtain ⟨a, n, rfl, ⟨dx, ha⟩, hn, q⟩ := h
    refine ⟨_, (pss_one (ps_ret (pe_joined1 (pe_fmt (c_call (ok_show_moment T) (hr.mono (by decide)) T.g_show_moment T.k_show_moment takes0 (pa_cons (pe_fld (pv 0) (by rfl)) pa_nil)))))), ?_⟩
    have hl := Mo.shw_len (by decide) hn

    refine ⟨_, rfl, _, _, _, _, _, rfl, ha, T.c_At, T.a_At_moment, rfl, ?_⟩
    dsimp only [tNil]
    refine sm_good hn fun H1 X1 => ?_
    refine .inl ⟨_, rfl, sz_le (by rw [SX.S_len]; omega), q H1 X1⟩
theorem ok_At_str {P : Program} {w : World} {K : PySem.W.Frag} {mg : Str → Option Value} {base : Heap} (T : Env K mg) : Fc P w K mg base 6 (He.ma K (He.ga K "At") "__str__") [] (sp_At_str K ) := by
  obtain ⟨fd, D, F⟩ := fb_At_str T
  exact F.all (D.bindsN fun _ _ _ _ _ _ us hl => match us, hl with | [_], _ => rfl)
end
section
def sp_row_text (K : PySem.W.Frag) (d : Nat) : Sp := fun vs H Q _ => ∃ (p : Addr) (as : List Addr) (ts : List Tr), vs = [.ref p] ∧ H p = some (.tup (as.map V.ref)) ∧ ShsAt K H ts as ∧ nestL ts ≤ d ∧ fitL ts ∧ pcsL ts ≤ 10000 ∧ ∀ H', Ex H H' → Q (.str (SX.S (rowT (txtL ts)))) H'
theorem fb_row_text {P : Program} {w : World} {K : PySem.W.Frag} {mg : Str → Option Value} {base : Heap} (T : Env K mg) {d L : Nat} (hL : 40 ≤ L) (r_Over_str : Fc P w K mg base L (He.ma K (He.ga K "Over") "__str__") [] (sp_Over_str K d)) : ∃ fd, FunD K "row_text" "row_text" (defArgs s_row_text) (defBody s_row_text) (defScope s_row_text) [] [] (He.ga K "row_text") fd ∧ Fb P w K mg base (L + 3) (He.ga K "row_text") fd ["parts"] (sp_row_text K (d)) := by
  obtain ⟨fd, F⟩ := T.f_row_text
  refine ⟨fd, F, fb_of F sc_row_text (fun vs H Q E h => ?_) (fun cdv A outer s H vs Q E hr h => ?_)⟩
  · obtain ⟨p, as, ts, rfl, _⟩ := h
    rfl
  · obtain ⟨p, as, ts, rfl, hp, hA, hn, hf, hc, q⟩ := h
    refine ⟨_, (pss_cons (ps_if (pt_cmpR op_eq (pe_callB call_len (by rfl) T.n_len (by decide +kernel) (pa_cons (pv 0) pa_nil)) pe_int (nomark _))
      (pss_one (ps_ret (pe_k T.v_NO_PARTS)))
      pss_nil)
      (pss_one (ps_ret (pe_join pe_str (pe_lc (own := [("one", 1)]) (by rfl) sc_row_text.nd (pi_tup (pv 0)) (blkOk_by (own := [("one", 1)]) (N := ["parts", "one"]) (sc := defScope s_row_text) (by decide +kernel)) (fun _ _ _ _ _ => (pg_name (i := 1) sc_row_text.nd rfl (Or.inl rfl))) (fun _ _ _ _ _ => pts_nil) (fun _ _ _ _ _ => (pe_orE (pe_callTy (call_strO T.m_At_str (ok_At_str T) (hr.mono (by omega))) (by rfl) T.n_str (by decide +kernel) (pa_cons (pv 1) pa_nil)) (pe_callTy (call_strO T.m_Over_str r_Over_str (hr.mono (by omega))) (by rfl) T.n_str (by decide +kernel) (pa_cons (pv 1) pa_nil))))))))), ?_⟩
    have hl1 := hA.len
    have hl2 := len_pcsL ts
    refine ⟨_, rfl, _, _, rfl, (.inr ⟨_, ⟨(sq_tup hp), rfl⟩⟩), rfl, _, rfl, ?_⟩
    by_cases h0 : ts = []
    · refine ifP (by rw [List.length_map, hl1, h0]; rfl) ?_
      rw [h0] at q
      exact q H (.refl _)
    · refine ifN (by rw [List.length_map, hl1]; exact vint_ne (by have := List.length_pos_iff.mpr h0; omega)) ?_
      refine ⟨⟨_, rfl⟩, _, rfl, _, rfl, ⟨_, (sq_tup hp)⟩, fun A nA => lc_fm L2.walk_tup (fun i => (ts[i]?).map fun t => .str (SX.S t.txt)) (fun H' => Ex H H') (fun H' z e => ex_mut e nA) (.refl _) (by rw [List.length_map]; omega) (fun H' e => sq_tup (e _ _ hp)) (fun i x H2 H3 acc N hi e hD la y k => ?_) fun H3 X3 d3 => ?_⟩
      · obtain ⟨rfl, y⟩ := y
        rw [List.getElem?_map] at y
        obtain ⟨b, hb, rfl⟩ := Option.map_eq_some_iff.mp y
        obtain ⟨t, ht, hS⟩ := hA.get hb
        have htm := List.mem_of_getElem? ht
        have hS2 := hS.mono e
        have k2 := fun H4 (X4 : Ex H3 H4) => k H4 (e.trans X4) (X4 _ _ hD)
        rw [ht] at k2
        have ft := fitL_mem hf htm
        have pt := pcsL_mem htm
        have nt := nestL_mem htm
        cases t with
        | «at» n =>
          unfold ShAt at hS2
          obtain ⟨dy, h2⟩ := id hS2
          unfold Tr.fit at ft
          refine ⟨rfl, .inl ⟨_, rfl, _, dy, _, rfl, h2, b, n, rfl, hS2, ft, fun H4 X4 => ⟨trivial, acc, X4 _ _ hD, la, ?_⟩⟩⟩
          unfold Tr.txt at k2
          exact k2 H4 X4
        | ov ps' m' s' =>
          obtain ⟨dy, kp', as', h2, _⟩ := (by unfold ShAt at hS2; exact hS2 : ∃ dx kp as, H3 b = some (.ins (OverC K) dx (overF kp m' s')) ∧ H3 kp = some (.tup (as.map V.ref)) ∧ ShsAt K H3 ps' as)
          exact ⟨rfl, .inr ⟨_, rfl, b, dy, _, rfl, h2, b, ps', m', s', rfl, hS2, by omega, ft, by omega, fun H4 X4 => ⟨trivial, acc, X4 _ _ hD, la, k2 H4 X4⟩⟩⟩
      · rw [List.length_map, hl1, range_opt ts (fun t => V.str (SX.S t.txt))] at d3
        have e1 : ts.map (fun t => V.str (SX.S t.txt)) = ((txtL ts).map SX.S).map V.str := by
          rw [txtL_map, List.map_map, List.map_map]
          rfl
        rw [e1] at d3
        have sl := sum_txt hf
        refine ⟨_, A, _, rfl, rfl, .inl (sq_lst d3), ?_, ?_⟩
        · rw [SX.lens, List.length_map, txtL_map, List.length_map]
          rw [txtL_map] at sl
          have z : (Str.ofString ", ").length = 2 := rfl
          rw [z]
          omega
        · rw [show Str.ofString ", " = SX.S [44, 32] from rfl, SX.join_S]
          have e2 : rowT (txtL ts) = TL.joinL [44, 32] (txtL ts) := if_neg (by rw [txtL_map]; intro z; exact h0 (List.map_eq_nil_iff.mp z))
          rw [e2] at q
          exact q H3 X3
theorem ok_row_text {P : Program} {w : World} {K : PySem.W.Frag} {mg : Str → Option Value} {base : Heap} (T : Env K mg) {d L : Nat} (hL : 40 ≤ L) (r_Over_str : Fc P w K mg base L (He.ma K (He.ga K "Over") "__str__") [] (sp_Over_str K d)) : Fc P w K mg base (L + 3) (He.ga K "row_text") [] (sp_row_text K (d)) := by
  obtain ⟨fd, D, F⟩ := fb_row_text T hL r_Over_str
  exact F.all (D.bindsN fun _ _ _ _ _ _ us hl => match us, hl with | [_], _ => rfl)
end
section
def sp_At_nested (K : PySem.W.Frag) : Sp := fun vs H Q _ => ∃ a n, vs = [.ref a] ∧ AtAt K H a n ∧ Q (.int 0) H
theorem fb_At_nested {P : Program} {w : World} {K : PySem.W.Frag} {mg : Str → Option Value} {base : Heap} (T : Env K mg) : ∃ fd, FunD K "nested" "At.nested" (defArgs s_At_nested) (defBody s_At_nested) (defScope s_At_nested) [] [] (He.ma K (He.ga K "At") "nested") fd ∧ Fb P w K mg base 1 (He.ma K (He.ga K "At") "nested") fd ["self"] (sp_At_nested K) := by
  obtain ⟨fd, F⟩ := T.f_At_nested
  refine ⟨fd, F, fb_of F sc_At_nested (fun vs H Q E h => ?_) (fun cdv A outer s H vs Q E hr h => ?_)⟩
  · obtain ⟨a, n, rfl, _⟩ := h
    rfl
  · obtain ⟨a, n, rfl, ⟨dx, ha⟩, q⟩ := h
    refine ⟨_, (pss_one (ps_ret pe_int)), ?_⟩
    exact q
theorem ok_At_nested {P : Program} {w : World} {K : PySem.W.Frag} {mg : Str → Option Value} {base : Heap} (T : Env K mg) : Fc P w K mg base 1 (He.ma K (He.ga K "At") "nested") [] (sp_At_nested K ) := by
  obtain ⟨fd, D, F⟩ := fb_At_nested T
  exact F.all (D.bindsN fun _ _ _ _ _ _ us hl => match us, hl with | [_], _ => rfl)
end
section
theorem fb_Over_means_many {P : Program} {w : World} {K : PySem.W.Frag} {mg : Str → Option Value} {base : Heap} (T : Env K mg) {d L : Nat} (hL : 40 ≤ L) (r_Over_means_many : Fc P w K mg base L (He.ma K (He.ga K "Over") "means_many") [] (sp_Over_means_many K d)) : ∃ fd, FunD K "means_many" "Over.means_many" (defArgs s_Over_means_many) (defBody s_Over_means_many) (defScope s_Over_means_many) [] [] (He.ma K (He.ga K "Over") "means_many") fd ∧ Fb P w K mg base (L + 2) (He.ma K (He.ga K "Over") "means_many") fd ["self"] (sp_Over_means_many K (d + 1)) := by
  obtain ⟨fd, F⟩ := T.f_Over_means_many
  refine ⟨fd, F, fb_of F sc_Over_means_many (fun vs H Q E h => ?_) (fun cdv A outer s H vs Q E hr h => ?_)⟩
  · obtain ⟨a, ps, m, s, rfl, _⟩ := h
    rfl
  · obtain ⟨a, ps, m, s_, rfl, hO, hn, hok, hl, q⟩ := h
    refine ⟨_, (pss_one (ps_ret (pe_op op_mul (pe_fld (pv 0) (by rfl)) (c_call (ok_row_many T hL r_Over_means_many) (hr.mono (by omega)) T.g_row_many T.k_row_many takes0 (pa_cons (pe_fld (pv 0) (by rfl)) pa_nil))))), ?_⟩
    have hfew := momsL_few hok
    have hnL := ov_nest hn
    obtain ⟨dx, kp, as, ha, hk, hA⟩ := (by unfold ShAt at hO; exact hO : ∃ dx kp as, H a = some (.ins (OverC K) dx (overF kp m s_)) ∧ H kp = some (.tup (as.map V.ref)) ∧ ShsAt K H ps as)
    refine ⟨_, rfl, a, _, dx, _, _, rfl, ha, T.c_Over, T.a_Over_many, rfl, _, rfl, a, _, dx, _, _, rfl, ha, T.c_Over, T.a_Over_kept, rfl, kp, as, ps, rfl, hk, hA, hnL, hok, hl, fun H1 X1 => ⟨_, _, rfl, rfl, .inr ⟨by omega, by omega⟩, ?_⟩⟩
    have e : ((m : Nat) : Int) * (((momsL ps).length : Nat) : Int) = ((m * (momsL ps).length : Nat) : Int) := by simp
    show Q (.int (((m : Nat) : Int) * (((momsL ps).length : Nat) : Int))) H1
    rw [e]
    exact q H1 X1
theorem ok_Over_means_many {P : Program} {w : World} {K : PySem.W.Frag} {mg : Str → Option Value} {base : Heap} (T : Env K mg) {d L : Nat} (hL : 40 ≤ L) (r_Over_means_many : Fc P w K mg base L (He.ma K (He.ga K "Over") "means_many") [] (sp_Over_means_many K d)) : Fc P w K mg base (L + 2) (He.ma K (He.ga K "Over") "means_many") [] (sp_Over_means_many K (d + 1)) := by
  obtain ⟨fd, D, F⟩ := fb_Over_means_many T hL r_Over_means_many
  exact F.all (D.bindsN fun _ _ _ _ _ _ us hl => match us, hl with | [_], _ => rfl)
theorem all_Over_means_many {P : Program} {w : World} {K : PySem.W.Frag} {mg : Str → Option Value} {base : Heap} (T : Env K mg) : ∀ d, Fc P w K mg base (40 + 2 * d) (He.ma K (He.ga K "Over") "means_many") [] (sp_Over_means_many K d)
  | 0 => fc_no fun vs H Q E h => by
    obtain ⟨a, ps, m, s, _, _, h, _⟩ := h
    unfold Tr.nest at h
    omega
  | d + 1 => ok_Over_means_many T (Nat.le_add_right 40 _) (all_Over_means_many T d)
end
section
theorem fb_Over_nested {P : Program} {w : World} {K : PySem.W.Frag} {mg : Str → Option Value} {base : Heap} (T : Env K mg) {d L : Nat} (hL : 40 ≤ L) (r_Over_nested : Fc P w K mg base L (He.ma K (He.ga K "Over") "nested") [] (sp_Over_nested K d)) : ∃ fd, FunD K "nested" "Over.nested" (defArgs s_Over_nested) (defBody s_Over_nested) (defScope s_Over_nested) [] [] (He.ma K (He.ga K "Over") "nested") fd ∧ Fb P w K mg base (L + 1) (He.ma K (He.ga K "Over") "nested") fd ["self"] (sp_Over_nested K (d + 1)) := by
  obtain ⟨fd, F⟩ := T.f_Over_nested
  refine ⟨fd, F, fb_of F sc_Over_nested (fun vs H Q E h => ?_) (fun cdv A outer s H vs Q E hr h => ?_)⟩
  · obtain ⟨a, ps, m, s, rfl, _⟩ := h
    rfl
  · obtain ⟨a, ps, m, s_, rfl, hO, hn, h0, hok, hl, q⟩ := h
    refine ⟨_, (pss_one (ps_ret (pe_op op_add pe_int (pe_callB (cr_max rfl) (by rfl) T.n_max (by decide +kernel) (pa_cons (pe_lc (own := [("one", 1)]) (by rfl) sc_Over_nested.nd (pi_tup (pe_fld (pv 0) (by rfl))) (blkOk_by (own := [("one", 1)]) (N := ["self", "one"]) (sc := defScope s_Over_nested) (by decide +kernel)) (fun _ _ _ _ _ => (pg_name (i := 1) sc_Over_nested.nd rfl (Or.inl rfl))) (fun _ _ _ _ _ => pts_nil) (fun _ _ _ _ _ => (pe_orE (c_meth0 (pv 1) T.c_At T.m_At_nested (ok_At_nested T) (hr.mono (by omega)) takes0) (c_meth0 (pv 1) T.c_Over T.m_Over_nested r_Over_nested (hr.mono (by omega)) takes0)))) pa_nil))))), ?_⟩
    have hnL := ov_nest hn
    obtain ⟨dx, kp, as, ha, hk, hA⟩ := (by unfold ShAt at hO; exact hO : ∃ dx kp as, H a = some (.ins (OverC K) dx (overF kp m s_)) ∧ H kp = some (.tup (as.map V.ref)) ∧ ShsAt K H ps as)
    have hl1 := hA.len
    have hl2 := len_moms hok
    refine ⟨_, rfl, a, _, dx, _, _, rfl, ha, T.c_Over, T.a_Over_kept, rfl, kp, rfl, ⟨_, sq_tup hk⟩, fun A nA => lc_fm L2.walk_tup (fun i => (ps[i]?).map fun t => .int ((t.nest : Nat) : Int)) (fun H' => Ex H H') (fun H' z e => ex_mut e nA) (.refl _) (by rw [List.length_map]; omega) (fun H' e => sq_tup (e _ _ hk)) (fun i x H2 H3 acc N hi e hD la y k => ?_) fun H3 X3 d3 => ?_⟩
    · obtain ⟨rfl, y⟩ := y
      rw [List.getElem?_map] at y
      obtain ⟨b, hb, rfl⟩ := Option.map_eq_some_iff.mp y
      obtain ⟨t, ht, hS⟩ := hA.get hb
      have htm := List.mem_of_getElem? ht
      have hS2 := hS.mono e
      have k2 := fun H4 (X4 : Ex H3 H4) => k H4 (e.trans X4) (X4 _ _ hD)
      rw [ht] at k2
      have ok := okL_mem hok htm
      cases t with
      | «at» n =>
        unfold ShAt at hS2
        obtain ⟨dy, h2⟩ := id hS2
        exact ⟨rfl, .inl ⟨_, rfl, b, dy, _, rfl, h2, rfl, b, n, rfl, hS2, acc, hD, la, k2 H3 (.refl _)⟩⟩
      | ov ps' m' s' =>
        obtain ⟨dy, kp', as', h2, _⟩ := (by unfold ShAt at hS2; exact hS2 : ∃ dx kp as, H3 b = some (.ins (OverC K) dx (overF kp m' s')) ∧ H3 kp = some (.tup (as.map V.ref)) ∧ ShsAt K H3 ps' as)
        obtain ⟨o1, _, _, _, o5', _, o7⟩ := ov_facts ok
        have o5 : ps'.length ≤ 20000 := by omega
        exact ⟨rfl, .inr ⟨_, rfl, b, dy, _, rfl, h2, rfl, b, ps', m', s', rfl, hS2, Nat.le_trans (nestL_mem htm) hnL, o1, o7, o5, fun H4 X4 => ⟨acc, X4 _ _ hD, la, k2 H4 X4⟩⟩⟩
    · rw [List.length_map, hl1, range_opt ps (fun t => V.int ((t.nest : Nat) : Int))] at d3
      have e1 : ps.map (fun t => V.int ((t.nest : Nat) : Int)) = (ps.map fun t => ((t.nest : Nat) : Int)).map V.int := by
        rw [List.map_map]
        rfl
      rw [e1] at d3
      refine ⟨A, _, rfl, sq_lst d3, by rw [List.length_map]; exact List.length_pos_iff.mpr h0, fun mx hm hall => ⟨_, _, rfl, rfl, ?_⟩⟩
      have em : mx = ((nestL ps : Nat) : Int) := by
        obtain ⟨t, ht, e⟩ := List.mem_map.mp hm
        have h1 := nestL_mem ht
        obtain ⟨t2, ht2, e2⟩ := nestL_max h0
        have h2 := hall _ (List.mem_map.mpr ⟨t2, ht2, rfl⟩)
        omega
      have e : (1 : Int) + mx = (((Tr.ov ps m s_).nest : Nat) : Int) := by
        unfold Tr.nest
        omega
      show Q (.int (1 + mx)) H3
      rw [e]
      exact q H3 X3
theorem ok_Over_nested {P : Program} {w : World} {K : PySem.W.Frag} {mg : Str → Option Value} {base : Heap} (T : Env K mg) {d L : Nat} (hL : 40 ≤ L) (r_Over_nested : Fc P w K mg base L (He.ma K (He.ga K "Over") "nested") [] (sp_Over_nested K d)) : Fc P w K mg base (L + 1) (He.ma K (He.ga K "Over") "nested") [] (sp_Over_nested K (d + 1)) := by
  obtain ⟨fd, D, F⟩ := fb_Over_nested T hL r_Over_nested
  exact F.all (D.bindsN fun _ _ _ _ _ _ us hl => match us, hl with | [_], _ => rfl)
theorem all_Over_nested {P : Program} {w : World} {K : PySem.W.Frag} {mg : Str → Option Value} {base : Heap} (T : Env K mg) : ∀ d, Fc P w K mg base (40 + 1 * d) (He.ma K (He.ga K "Over") "nested") [] (sp_Over_nested K d)
  | 0 => fc_no fun vs H Q E h => by
    obtain ⟨a, ps, m, s, _, _, h, _⟩ := h
    unfold Tr.nest at h
    omega
  | d + 1 => ok_Over_nested T (Nat.le_add_right 40 _) (all_Over_nested T d)
end
section
theorem isN_nat_of {n : Int} {x : V} (h0 : 0 ≤ n) (h : isN n x = true) : ∃ m : Nat, x = .int (m : Nat) ∧ n ≤ (m : Int) := by
  unfold isN at h
  obtain ⟨_, h2⟩ := Bool.and_eq_true_iff.mp h
  cases x with
  | int i =>
    have h3 : n ≤ i := of_decide_eq_true h2
    obtain ⟨m, rfl⟩ := Int.eq_ofNat_of_zero_le (Int.le_trans h0 h3)
    exact ⟨m, rfl, h3⟩
  | _ => cases h2
/-- whether an Over may be made -/
def ovB (ts : List Tr) (xm xs : V) : Bool := risB ts && (decide (ts ≠ []) && (isN 2 xm && (isN 1 xs && (match xm, xs with
  | .int m, .int s => decide (((momsL ts).getLastD 0 : Int) < s + ((momsL ts).headD 0 : Int)) && (decide (m * ((momsL ts).length : Int) ≤ 1440) && decide (nestL ts ≤ 7))
  | _, _ => false))))
def sp_Over_init (K : PySem.W.Frag) : Sp := fun vs H Q E => ∃ (a dx p : Addr) (as : List Addr) (ts : List Tr) (xm xs : V) (H0 : Hp), vs = [.ref a, .ref p, xm, xs] ∧ H a = some (.ins (OverC K) dx []) ∧ H0 a = none ∧ Ex H0 H ∧ SqA H0 p (as.map V.ref) ∧ ShsAt K H0 ts as ∧ nestL ts ≤ 8 ∧ okL_ ts ∧ ts.length ≤ 20000 ∧ ts.length ≤ 20000 ∧ Cl K H0 xm ∧ Cl K H0 xs ∧ (∀ m s : Nat, ovB ts xm xs = true → xm = .int (m : Nat) → xs = .int (s : Nat) → ∀ H', Oth a H H' → ShAt K H' (.ov ts m s) a → Q .non H') ∧ (ovB ts xm xs = false → ∀ H', Oth a H H' → E (.ref (He.ga K "NoPiece")) none H')
theorem fb_Over_init {P : Program} {w : World} {K : PySem.W.Frag} {mg : Str → Option Value} {base : Heap} (T : Env K mg) : ∃ fd, FunD K "__init__" "Over.__init__" (defArgs s_Over_init) (defBody s_Over_init) (defScope s_Over_init) [.int (2), .int (60)] [] (He.ma K (He.ga K "Over") "__init__") fd ∧ Fb P w K mg base 64 (He.ma K (He.ga K "Over") "__init__") fd ["self", "parts", "many", "step"] (sp_Over_init K) := by
  obtain ⟨fd, F⟩ := T.f_Over_init
  refine ⟨fd, F, fb_of F sc_Over_init (fun vs H Q E h => ?_) (fun cdv A outer s H vs Q E hr h => ?_)⟩
  · obtain ⟨a, dx, p, as, ts, xm, xs, H0, rfl, _⟩ := h
    rfl
  · obtain ⟨a, dx, p, as, ts, xm, xs, H0, rfl, ha, na0, X0, hp, hA, hn, hok, hlm, hlt, cm, cs, q, qe⟩ := h
    refine ⟨_, (pss_cons (ps_fld (pv 0) (c_call (ok_shorts_in T) (hr.mono (by decide)) T.g_shorts_in T.k_shorts_in (takes_of rfl rfl rfl rfl) (pa_cons (pv 1) pa_nil)) rfl)
      (pss_cons (ps_if (PW.pt (pw_or (pt_cmpR op_eq (pe_callB call_len (by rfl) T.n_len (by decide +kernel) (pa_cons (pe_fld (pv 0) (by rfl)) pa_nil)) pe_int (nomark _)) (pw_or (pt_not (pt_val (c_call (ok_is_number T) (hr.mono (by decide)) T.g_is_number T.k_is_number (takes_of rfl rfl rfl rfl) (pa_cons (pv 2) (pa_cons pe_int pa_nil))))) (pw_or1 (pt_not (pt_val (c_call (ok_is_number T) (hr.mono (by decide)) T.g_is_number T.k_is_number (takes_of rfl rfl rfl rfl) (pa_cons (pv 3) (pa_cons pe_int pa_nil)))))))))
      (pss_one (ps_raise rfl (takes_of rfl rfl rfl rfl) (pmk_own PySem.F.excBase_ValueError T.x_NoPiece.x T.g_NoPiece T.x_NoPiece.kp (raises_own T.x_NoPiece.sub T.x_NoPiece.ty) rfl)))
      pss_nil)
      (pss_cons (ps_if (pt_cmpR op_le (pv 3) (pe_op op_sub (pe_orE (c_meth0 (pe_ix ix_tup (pe_fld (pv 0) (by rfl)) (pe_un un_neg pe_int) (fun _ _ => rfl)) T.c_At T.m_At_ends (ok_At_ends T) (hr.mono (by decide)) (takes_of rfl rfl rfl rfl)) (c_meth0 (pe_ix ix_tup (pe_fld (pv 0) (by rfl)) (pe_un un_neg pe_int) (fun _ _ => rfl)) T.c_Over T.m_Over_ends (all_Over_ends T 9) (hr.mono (by decide)) (takes_of rfl rfl rfl rfl))) (pe_orE (c_meth0 (pe_ix ix_tup (pe_fld (pv 0) (by rfl)) pe_int (fun _ _ => rfl)) T.c_At T.m_At_begins (ok_At_begins T) (hr.mono (by decide)) (takes_of rfl rfl rfl rfl)) (c_meth0 (pe_ix ix_tup (pe_fld (pv 0) (by rfl)) pe_int (fun _ _ => rfl)) T.c_Over T.m_Over_begins (all_Over_begins T 9) (hr.mono (by decide)) (takes_of rfl rfl rfl rfl)))) (nomark _))
      (pss_one (ps_raise rfl (takes_of rfl rfl rfl rfl) (pmk_own PySem.F.excBase_ValueError T.x_NoPiece.x T.g_NoPiece T.x_NoPiece.kp (raises_own T.x_NoPiece.sub T.x_NoPiece.ty) rfl)))
      pss_nil)
      (pss_cons (ps_fld (pv 0) (pv 2) rfl)
      (pss_cons (ps_fld (pv 0) (pv 3) rfl)
      (pss_one (ps_if (PW.pt (pw_or (pt_cmpR op_gt (c_meth0 (pv 0) T.c_Over T.m_Over_means_many (all_Over_means_many T 9) (hr.mono (by decide)) (takes_of rfl rfl rfl rfl)) (pe_k T.v_MOST_MOMENTS) (nomark _)) (pw_or1 (pt_cmpR op_gt (c_meth0 (pv 0) T.c_Over T.m_Over_nested (all_Over_nested T 9) (hr.mono (by decide)) (takes_of rfl rfl rfl rfl)) (pe_k T.v_MOST_NESTED) (nomark _)))))
      (pss_one (ps_raise rfl (takes_of rfl rfl rfl rfl) (pmk_own PySem.F.excBase_ValueError T.x_NoPiece.x T.g_NoPiece T.x_NoPiece.kp (raises_own T.x_NoPiece.sub T.x_NoPiece.ty) rfl)))
      pss_nil))))))), ?_⟩
    have hl1 := hA.len
    have hpH : SqA H p (as.map V.ref) := hp.imp (fun h => X0 _ _ h) (fun h => X0 _ _ h)
    refine ⟨_, rfl, p, as, ts, rfl, hpH, hA.mono X0, by omega, hok, hlt, fun hr2 t H1 X1 ht => ?_, fun hr2 H1 X1 => qe (by unfold ovB; rw [hr2]; rfl) H1 (ex_oth X1)⟩
    refine ⟨_, rfl, a, _, dx, [], rfl, X1 _ _ ha, T.c_Over, T.a_Over_kept, by decide, ?_⟩
    have ta : t ≠ a := fun z => by rw [z, X1 _ _ ha] at ht; cases ht
    have O1 : Oth a H (upd H1 a (.ins (OverC K) dx (putF "kept" (.ref t) []))) := (ex_oth X1).upd
    have h2 : upd H1 a (.ins (OverC K) dx (putF "kept" (.ref t) [])) a = some (.ins (OverC K) dx [("kept", .ref t)]) := upd_same
    have ht2 : upd H1 a (.ins (OverC K) dx (putF "kept" (.ref t) [])) t = some (.tup (as.map V.ref)) := by rw [upd_ne ta]; exact ht
    generalize upd H1 a (.ins (OverC K) dx (putF "kept" (.ref t) [])) = H2 at O1 h2 ht2 ⊢
    have X02 : Ex H0 H2 := Oth.ex X0 na0 O1
    have hA2 : ShsAt K H2 ts as := hA.mono X02
    refine ⟨_, rfl, a, _, dx, _, _, rfl, h2, T.c_Over, T.a_Over_kept, rfl, _, as.length, rfl, .inr ⟨_, sq_tup ht2, (List.length_map _).symm⟩, rfl, _, rfl, ?_⟩
    by_cases h0 : ts = []
    · rw [decide_eq_true (show V.int ((as.length : Nat) : Int) = V.int 0 by rw [hl1, h0]; rfl)]
      refine iteT ?_
      refine qe ?_ H2 O1
      unfold ovB
      rw [hr2, decide_eq_false (fun z => z h0)]
      rfl
    have pos : 0 < ts.length := List.length_pos_iff.mpr h0
    rw [decide_eq_false (show ¬ V.int ((as.length : Nat) : Int) = V.int 0 from fun z => by injection z with z; omega)]
    refine iteF ?_
    refine ⟨_, rfl, xm, 2, rfl, cm.mono X02, _, rfl, ?_⟩
    cases hm2 : isN 2 xm with
    | false =>
      refine iteT ?_
      refine qe ?_ H2 O1
      unfold ovB
      rw [hr2, decide_eq_true h0, hm2]
      rfl
    | true =>
    refine iteF ?_
    refine ⟨_, rfl, xs, 1, rfl, cs.mono X02, _, rfl, ?_⟩
    cases hs2 : isN 1 xs with
    | false =>
      refine iteT ?_
      refine qe ?_ H2 O1
      unfold ovB
      rw [hr2, decide_eq_true h0, hm2, hs2]
      rfl
    | true =>
    refine iteF ?_
    obtain ⟨m, rfl, hm⟩ := isN_nat_of (by decide) hm2
    obtain ⟨s_, rfl, hs1⟩ := isN_nat_of (by decide) hs2
    have eB : ovB ts (.int (m : Nat)) (.int (s_ : Nat)) = (decide (((momsL ts).getLastD 0 : Int) < ((s_ : Nat) : Int) + ((momsL ts).headD 0 : Int)) && (decide (((m : Nat) : Int) * ((momsL ts).length : Int) ≤ 1440) && decide (nestL ts ≤ 7))) := by
      unfold ovB
      rw [hr2, decide_eq_true h0, hm2, hs2]
      rfl
    have nn := momsL_ne hok h0
    obtain ⟨zf, rf, tf, rt, eas, ets, hSf⟩ : ∃ z r t u, as = z :: r ∧ ts = t :: u ∧ ShAt K H2 t z := by
      cases ts with
      | nil => exact absurd rfl h0
      | cons t u =>
        unfold ShsAt at hA2
        obtain ⟨z, r, e, h1, _⟩ := hA2
        exact ⟨z, r, t, u, e, rfl, h1⟩
    have as0 : as ≠ [] := fun z => by rw [z] at eas; cases eas
    obtain ⟨zl, gl, aL⟩ := last_ref as0
    obtain ⟨tl, htl, hSl⟩ := hA2.get gl
    have ep : ts = ts.dropLast ++ [tl] := by
      have e := (List.dropLast_concat_getLast h0).symm
      have e2 : ts.getLast h0 = tl := by
        rw [List.getLast_eq_getElem]
        rw [hl1] at htl
        obtain ⟨_, e⟩ := List.getElem?_eq_some_iff.mp htl
        exact e
      rw [e2] at e
      exact e
    have eL : (momsL ts).getLastD 0 = tl.moms.getLastD 0 := by
      have o7 := hok
      rw [ep] at o7 ⊢
      exact momsL_last o7
    have eF : (momsL ts).headD 0 = tf.moms.headD 0 := by
      have o7 := hok
      rw [ets] at o7 ⊢
      exact momsL_head o7
    have mf : tf ∈ ts := by rw [ets]; exact List.mem_cons_self
    have ml := List.mem_of_getElem? htl
    have aF : atI (as.map V.ref) 0 = some (.ref zf) := by rw [eas]; exact atI_nat (j := 0) rfl
    refine ⟨_, rfl, ?_⟩
    refine sh_ends hSl (okL_mem hok ml) (Nat.le_trans (nestL_mem ml) (by omega)) (fun R r => ⟨_, rfl, a, _, dx, _, _, rfl, h2, T.c_Over, T.a_Over_kept, rfl, _, rfl, t, _, _, _, rfl, rfl, sq_tup ht2, aL, r⟩) ?_
    refine sh_begins hSf (okL_mem hok mf) (Nat.le_trans (nestL_mem mf) (by omega)) (fun R r => ⟨_, rfl, a, _, dx, _, _, rfl, h2, T.c_Over, T.a_Over_kept, rfl, t, _, _, _, rfl, rfl, sq_tup ht2, aF, r⟩) ?_
    refine ⟨_, _, rfl, rfl, _, _, rfl, rfl, _, rfl, ?_⟩
    rw [← eL, ← eF]
    by_cases c1 : ((momsL ts).getLastD 0 : Int) < ((s_ : Nat) : Int) + ((momsL ts).headD 0 : Int)
    · rw [decide_eq_false (show ¬ ((s_ : Nat) : Int) ≤ (((momsL ts).getLastD 0 : Nat) : Int) - (((momsL ts).headD 0 : Nat) : Int) by omega)]
      refine iteF ?_
      refine ⟨_, rfl, _, rfl, a, _, dx, _, rfl, h2, T.c_Over, T.a_Over_many, Nat.le_of_ble_eq_true rfl, ?_⟩
      refine ⟨_, rfl, _, rfl, a, _, dx, _, rfl, upd_same, T.c_Over, T.a_Over_step, Nat.le_of_ble_eq_true rfl, ?_⟩
      rw [upd_upd]
      rw [show putF "step" (V.int (s_ : Nat)) (putF "many" (V.int (m : Nat)) [("kept", V.ref t)]) = overF t m s_ from rfl]
      have O3 : Oth a H (upd H2 a (.ins (OverC K) dx (overF t m s_))) := O1.upd
      have X03 : Ex H0 (upd H2 a (.ins (OverC K) dx (overF t m s_))) := Oth.ex X0 na0 O3
      have h3 : upd H2 a (.ins (OverC K) dx (overF t m s_)) a = some (.ins (OverC K) dx (overF t m s_)) := upd_same
      have hO : ShAt K (upd H2 a (.ins (OverC K) dx (overF t m s_))) (.ov ts m s_) a := by
        unfold ShAt
        exact ⟨dx, t, as, h3, by rw [upd_ne ta]; exact ht2, hA.mono X03⟩
      generalize upd H2 a (.ins (OverC K) dx (overF t m s_)) = H3 at O3 X03 hO h3 ⊢
      have hn9 : (Tr.ov ts m s_).nest ≤ 9 := by
        unfold Tr.nest
        omega
      refine ⟨_, rfl, a, dx, _, rfl, h3, rfl, a, ts, m, s_, rfl, hO, hn9, hok, hlm, fun H4 X4 => ⟨_, _, rfl, rfl, _, rfl, ?_⟩⟩
      have em : ((m * (momsL ts).length : Nat) : Int) = ((m : Nat) : Int) * ((momsL ts).length : Int) := by simp
      by_cases c2 : ((m : Nat) : Int) * ((momsL ts).length : Int) ≤ 1440
      · rw [decide_eq_false (show ¬ (1440 : Int) < ((m * (momsL ts).length : Nat) : Int) by omega)]
        refine iteF ?_
        refine ⟨_, rfl, a, dx, _, rfl, X4 _ _ h3, rfl, a, ts, m, s_, rfl, hO.mono X4, hn9, h0, hok, hlm, fun H5 X5 => ⟨_, _, rfl, rfl, _, rfl, ?_⟩⟩
        have O5 := O3.trans (ex_oth (X4.trans X5))
        by_cases c3 : nestL ts ≤ 7
        · rw [decide_eq_false (show ¬ (8 : Int) < (((Tr.ov ts m s_).nest : Nat) : Int) by unfold Tr.nest; omega)]
          refine iteF ?_
          exact q m s_ (by rw [eB, decide_eq_true c1, decide_eq_true c2, decide_eq_true c3]; rfl) rfl rfl H5 O5 (hO.mono (X4.trans X5))
        · rw [decide_eq_true (show (8 : Int) < (((Tr.ov ts m s_).nest : Nat) : Int) by unfold Tr.nest; omega)]
          refine iteT ?_
          exact qe (by rw [eB, decide_eq_false c3, Bool.and_false, Bool.and_false]) H5 O5
      · rw [decide_eq_true (show (1440 : Int) < ((m * (momsL ts).length : Nat) : Int) by omega)]
        exact iteT (qe (by rw [eB, decide_eq_false c2, Bool.false_and, Bool.and_false]) H4 (O3.trans (ex_oth X4)))
    · rw [decide_eq_true (show ((s_ : Nat) : Int) ≤ (((momsL ts).getLastD 0 : Nat) : Int) - (((momsL ts).headD 0 : Nat) : Int) by omega)]
      refine iteT ?_
      exact qe (by rw [eB, decide_eq_false c1]; rfl) H2 O1
theorem ovB_of {ts : List Tr} {m s : Nat} (h : (Tr.ov ts m s).ok) (hn : (Tr.ov ts m s).nest ≤ 8) : ovB ts (.int (m : Nat)) (.int (s : Nat)) = true := by
  unfold Tr.ok at h
  obtain ⟨h1, h2, h3, h4, h5, h6, h7⟩ := h
  unfold Tr.nest at hn
  have e4 : ((m : Nat) : Int) * ((momsL ts).length : Int) ≤ 1440 := by
    have : ((m * (momsL ts).length : Nat) : Int) ≤ 1440 := by omega
    rw [Int.natCast_mul] at this
    exact this
  unfold ovB
  rw [ris_of h7 h6, decide_eq_true h1, show isN 2 (.int (m : Nat)) = true from isN_nat (m := 2) h2, show isN 1 (.int (s : Nat)) = true from isN_nat (m := 1) h3]
  show (decide _ && (decide _ && decide _)) = true
  rw [decide_eq_true (by omega), decide_eq_true e4, decide_eq_true (by omega)]
  rfl
theorem over_newT {K : PySem.W.Frag} {H : Hp} {x dx p : Addr} {as : List Addr} {ts : List Tr} {m s : Nat} {Q : VK} {E : XK} (nx : H x = none) (nd : H dx = none) (ne : dx ≠ x) (hp : SqA H p (as.map V.ref)) (hA : ShsAt K H ts as) (hok : (Tr.ov ts m s).ok) (hn : (Tr.ov ts m s).nest ≤ 8) (q : ∀ H', Ex H H' → ShAt K H' (.ov ts m s) x → Q .non H') :
    sp_Over_init K [.ref x, .ref p, .int (m : Nat), .int (s : Nat)] (upd (upd H dx (.own x)) x (.ins (OverC K) dx [])) Q E := by
  have X1 := ex_made (o1 := .own x) (o2 := .ins (OverC K) dx []) nx nd ne
  have hb := ovB_of hok hn
  obtain ⟨o1, m2, hm, hml, hl2, hpl, hokL⟩ := ov_facts hok
  unfold Tr.nest at hn
  refine ⟨x, dx, p, as, ts, _, _, H, rfl, upd_same, nx, X1, hp, hA, by omega, hokL, by omega, by omega, cl_int _, cl_int _, fun m' s' _ em es H' k d => ?_, fun z => by rw [hb] at z; cases z⟩
  have e1 : m = m' := by injection em with em; omega
  have e2 : s = s' := by injection es with es; omega
  subst e1 e2
  exact q H' (fun b o e => k b o (ne_of_none e nx) (X1 _ _ e)) d
theorem ok_Over_init {P : Program} {w : World} {K : PySem.W.Frag} {mg : Str → Option Value} {base : Heap} (T : Env K mg) : Fc P w K mg base 64 (He.ma K (He.ga K "Over") "__init__") [] (fun vs H Q E => vs.length = 4 + ([] : List Str).length ∧ sp_Over_init K  (pick [.inl 0, .inl 1, .inl 2, .inl 3] vs [.int (2), .int (60)]) H Q E) := by
  obtain ⟨fd, D, F⟩ := fb_Over_init T
  exact Fb.shape D F 4 [] (fun us its => pick [.inl 0, .inl 1, .inl 2, .inl 3] us its) (by decide) (fun r1 r2 => pick_vals _ r1 r2) (fun T kV doc pm an cdv ct us ws its h1 h2 h3 => match us, ws, its, h1, h2, h3 with | [_, _, _, _], [], [_, _], _, _, _ => ⟨_, rfl, rfl⟩)
end
section
def sp_Over_parts (K : PySem.W.Frag) : Sp := fun vs H Q _ => ∃ a ps m s, vs = [.ref a] ∧ ShAt K H (.ov ps m s) a ∧ ∀ as p, ShsAt K H ps as → H p = none → Q (.ref p) (upd H p (.lst (as.map V.ref)))
theorem fb_Over_parts {P : Program} {w : World} {K : PySem.W.Frag} {mg : Str → Option Value} {base : Heap} (T : Env K mg) : ∃ fd, FunD K "parts" "Over.parts" (defArgs s_Over_parts) (defBody s_Over_parts) (defScope s_Over_parts) [] [] (He.ma K (He.ga K "Over") "parts") fd ∧ Fb P w K mg base 1 (He.ma K (He.ga K "Over") "parts") fd ["self"] (sp_Over_parts K) := by
  obtain ⟨fd, F⟩ := T.f_Over_parts
  refine ⟨fd, F, fb_of F sc_Over_parts (fun vs H Q E h => ?_) (fun cdv A outer s H vs Q E hr h => ?_)⟩
  · obtain ⟨a, ps, m, s, rfl, _⟩ := h
    rfl
  · obtain ⟨a, ps, m, s_, rfl, hO, q⟩ := h
    refine ⟨_, (pss_one (ps_ret (pe_callTy call_list_of (by rfl) T.n_list (by decide +kernel) (pa_cons (pe_fld (pv 0) (by rfl)) pa_nil)))), ?_⟩
    unfold ShAt at hO
    obtain ⟨dx, kp, as, ha, hk, hA⟩ := hO
    exact ⟨_, rfl, a, _, dx, _, _, rfl, ha, T.c_Over, T.a_Over_kept, rfl, kp, _, rfl, .inr (sq_tup hk), fun p np => q as p hA np⟩
theorem ok_Over_parts {P : Program} {w : World} {K : PySem.W.Frag} {mg : Str → Option Value} {base : Heap} (T : Env K mg) : Fc P w K mg base 1 (He.ma K (He.ga K "Over") "parts") [] (sp_Over_parts K ) := by
  obtain ⟨fd, D, F⟩ := fb_Over_parts T
  exact F.all (D.bindsN fun _ _ _ _ _ _ us hl => match us, hl with | [_], _ => rfl)
end
section
theorem fb_Over_moments {P : Program} {w : World} {K : PySem.W.Frag} {mg : Str → Option Value} {base : Heap} (T : Env K mg) {d L : Nat} (hL : 40 ≤ L) (r_Over_moments : Fc P w K mg base L (He.ma K (He.ga K "Over") "moments") [] (sp_Over_moments K d)) : ∃ fd, FunD K "moments" "Over.moments" (defArgs s_Over_moments) (defBody s_Over_moments) (defScope s_Over_moments) [] [] (He.ma K (He.ga K "Over") "moments") fd ∧ Fb P w K mg base (L + 2) (He.ma K (He.ga K "Over") "moments") fd ["self"] (sp_Over_moments K (d + 1)) := by
  obtain ⟨fd, F⟩ := T.f_Over_moments
  refine ⟨fd, F, fb_of F sc_Over_moments (fun vs H Q E h => ?_) (fun cdv A outer s H vs Q E hr h => ?_)⟩
  · obtain ⟨a, ps, m, s, rfl, _⟩ := h
    rfl
  · obtain ⟨a, ps, m, s_, rfl, hO, hn, hok, q⟩ := h
    refine ⟨_, (pss_cons (ps_set (i := 1) sc_Over_moments.nd rfl (Or.inl rfl) (c_call (ok_row_moments T hL r_Over_moments) (hr.mono (by omega)) T.g_row_moments T.k_row_moments takes0 (pa_cons (pe_fld (pv 0) (by rfl)) pa_nil)))
      (pss_cons (ps_set (i := 2) sc_Over_moments.nd rfl (Or.inl rfl) (pe_lst pa_nil))
      (pss_cons (ps_for (passes_of rfl) rfl (pi_range1 (by rfl) T.n_range (pa_cons (pe_fld (pv 0) (by rfl)) pa_nil)) (pg_name (i := 3) sc_Over_moments.nd rfl (Or.inr rfl))
      (pss_one (ps_expr (pe_bm PySem.F.plainAttrs_list PySem.F.slot_list_extend PySem.F.type_list_extend mt_extend (pv 2) (pa_cons (pe_lc (own := [("moment", 4)]) (by rfl) sc_Over_moments.nd (pi_list (pv 1)) (blkOk_by (own := [("moment", 4)]) (N := ["self", "own", "found", "time", "moment"]) (sc := defScope s_Over_moments) (by decide +kernel)) (fun _ _ _ _ _ => (pg_name (i := 4) sc_Over_moments.nd rfl (Or.inl rfl))) (fun _ _ _ _ _ => pts_nil) (fun _ _ _ _ _ => (pe_op op_add (pv 4) (pe_op op_mul (pv 3) (pe_fldK K (pv 0) (by rfl)))))) pa_nil)))))
      (pss_one (ps_ret (pv 2)))))), ?_⟩
    obtain ⟨_, m2, hm, hml, hl, hpl, hokL⟩ := ov_facts hok
    have hnL := ov_nest hn
    unfold Tr.moms at q
    unfold ShAt at hO
    obtain ⟨dx, kp, as, ha, hk, hA⟩ := hO
    generalize hns : momsL ps = ns at *
    refine ⟨_, rfl, a, _, dx, _, _, rfl, ha, T.c_Over, T.a_Over_kept, rfl, kp, as, ps, rfl, hk, hA, hnL, hokL, by rw [hns]; exact hl, fun w H1 X1 nw hw => ?_⟩
    rw [hns] at hw
    refine ⟨by show 0 ≤ sizeLine; decide, fun f nf => ?_⟩
    have nf0 := ex_fresh X1 nf
    have X2 := X1.trans (ex_new (o := .lst []) nf)
    have wf : w ≠ f := ne_of_none hw nf
    have af : a ≠ f := ne_of_none ha nf0
    have ha2 := X2 _ _ ha
    have hw2 := ex_new (o := .lst []) nf _ _ hw
    have hf2 : upd H1 f (.lst []) f = some (.lst []) := upd_same
    generalize upd H1 f (.lst []) = H2 at X2 ha2 hw2 hf2 ⊢
    refine ⟨_, rfl, a, _, dx, _, _, rfl, ha2, T.c_Over, T.a_Over_many, rfl, _, rfl, by omega, by omega, for_range (fun i σ H' => Oth f H2 H' ∧ ∃ v3 v4, σ = [some (.ref a), some (.ref w), some (.ref f), v3, v4] ∧ H' f = some (.lst (natV (overN ns i s_)))) ⟨Oth.refl _ _, _, _, rfl, hf2⟩ ?_ ?_⟩
    · rintro i σ H3 hi ⟨O3, v3, v4, rfl, hf3⟩
      have hi2 : i < m := by omega
      have hw3 := O3 _ _ wf hw2
      have ha3 := O3 _ _ af ha2
      have ll : (overN ns i s_).length = i * ns.length := overN_len ns i s_
      have l2 : i * ns.length ≤ m * ns.length := Nat.mul_le_mul_right _ (by omega)
      refine ⟨_, rfl, .inl ⟨rfl, _, sq_lst hf3⟩, _, rfl, w, rfl, ⟨_, sq_lst hw3⟩, fun A nA => lc_on ns (fun n : Nat => V.int n) L2.walk_list (fun n => some (.int ((n + i * s_ : Nat) : Int))) (fun H' => Ex H3 H') (fun H' z e => ex_mut e nA) (.refl _) (by omega) (fun H' e => sq_lst (e _ _ hw3)) (fun j n H4 acc N hn X4 hD la k => ?_) fun H4 X4 d4 => ?_⟩
      · refine ⟨rfl, _, rfl, _, rfl, _, rfl, a, _, dx, _, _, rfl, X4 _ _ ha3, T.c_Over, T.a_Over_step, rfl, _, _, rfl, rfl, .inl ⟨by omega, by omega⟩, _, _, rfl, rfl, acc, hD, la, ?_⟩
        have e : ((n : Nat) : Int) + (0 + ((i : Nat) : Int)) * ((s_ : Nat) : Int) = ((n + i * s_ : Nat) : Int) := by simp
        show N (upd H4 A (.lst (acc ++ [.int (((n : Nat) : Int) + (0 + ((i : Nat) : Int)) * ((s_ : Nat) : Int))])))
        rw [e]
        exact k H4 X4 hD
      · have ed : ns.filterMap (fun n => some (V.int ((n + i * s_ : Nat) : Int))) = natV (ns.map fun n => n + i * s_) := by
          unfold natV
          rw [List.filterMap_eq_map', List.map_map]
          rfl
        rw [ed] at d4
        refine ⟨f, A, _, _, rfl, rfl, X4 _ _ hf3, d4, sz_le (by rw [natV_len, natV_len, List.length_map, ll]; omega), (O3.trans (ex_oth X4)).upd, _, _, rfl, ?_⟩
        rw [upd_same, overN_succ]
        unfold natV
        rw [List.map_append]
    · rintro σ H3 ⟨O3, v3, v4, rfl, hf3⟩
      rw [show ((m : Nat) : Int).toNat = m by omega] at hf3
      exact ⟨_, rfl, q f H3 (Oth.ex X2 nf0 O3) nf0 hf3⟩
theorem ok_Over_moments {P : Program} {w : World} {K : PySem.W.Frag} {mg : Str → Option Value} {base : Heap} (T : Env K mg) {d L : Nat} (hL : 40 ≤ L) (r_Over_moments : Fc P w K mg base L (He.ma K (He.ga K "Over") "moments") [] (sp_Over_moments K d)) : Fc P w K mg base (L + 2) (He.ma K (He.ga K "Over") "moments") [] (sp_Over_moments K (d + 1)) := by
  obtain ⟨fd, D, F⟩ := fb_Over_moments T hL r_Over_moments
  exact F.all (D.bindsN fun _ _ _ _ _ _ us hl => match us, hl with | [_], _ => rfl)
theorem all_Over_moments {P : Program} {w : World} {K : PySem.W.Frag} {mg : Str → Option Value} {base : Heap} (T : Env K mg) : ∀ d, Fc P w K mg base (40 + 2 * d) (He.ma K (He.ga K "Over") "moments") [] (sp_Over_moments K d)
  | 0 => fc_no fun vs H Q E h => by
    obtain ⟨a, ps, m, s, _, _, h, _⟩ := h
    unfold Tr.nest at h
    omega
  | d + 1 => ok_Over_moments T (Nat.le_add_right 40 _) (all_Over_moments T d)
end
section
theorem fb_Over_pieces {P : Program} {w : World} {K : PySem.W.Frag} {mg : Str → Option Value} {base : Heap} (T : Env K mg) {d L : Nat} (hL : 40 ≤ L) (r_Over_pieces : Fc P w K mg base L (He.ma K (He.ga K "Over") "pieces") [] (sp_Over_pieces K d)) : ∃ fd, FunD K "pieces" "Over.pieces" (defArgs s_Over_pieces) (defBody s_Over_pieces) (defScope s_Over_pieces) [] [] (He.ma K (He.ga K "Over") "pieces") fd ∧ Fb P w K mg base (L + 2) (He.ma K (He.ga K "Over") "pieces") fd ["self"] (sp_Over_pieces K (d + 1)) := by
  obtain ⟨fd, F⟩ := T.f_Over_pieces
  refine ⟨fd, F, fb_of F sc_Over_pieces (fun vs H Q E h => ?_) (fun cdv A outer s H vs Q E hr h => ?_)⟩
  · obtain ⟨a, ps, m, s, rfl, _⟩ := h
    rfl
  · obtain ⟨a, ps, m, s_, rfl, hO, hn, hok, hl, q⟩ := h
    refine ⟨_, (pss_one (ps_ret (pe_op op_add pe_int (c_call (ok_row_pieces T hL r_Over_pieces) (hr.mono (by omega)) T.g_row_pieces T.k_row_pieces takes0 (pa_cons (pe_fld (pv 0) (by rfl)) pa_nil))))), ?_⟩
    have hnL := ov_nest hn
    obtain ⟨dx, kp, as, ha, hk, hA⟩ := (by unfold ShAt at hO; exact hO : ∃ dx kp as, H a = some (.ins (OverC K) dx (overF kp m s_)) ∧ H kp = some (.tup (as.map V.ref)) ∧ ShsAt K H ps as)
    refine ⟨_, rfl, a, _, dx, _, _, rfl, ha, T.c_Over, T.a_Over_kept, rfl, kp, as, ps, rfl, hk, hA, hnL, hok, hl, fun H1 X1 => ⟨_, _, rfl, rfl, ?_⟩⟩
    have e : (1 : Int) + ((pcsL ps : Nat) : Int) = (((Tr.ov ps m s_).pcs : Nat) : Int) := by
      unfold Tr.pcs
      omega
    show Q (.int ((1 : Int) + ((pcsL ps : Nat) : Int))) H1
    rw [e]
    exact q H1 X1
theorem ok_Over_pieces {P : Program} {w : World} {K : PySem.W.Frag} {mg : Str → Option Value} {base : Heap} (T : Env K mg) {d L : Nat} (hL : 40 ≤ L) (r_Over_pieces : Fc P w K mg base L (He.ma K (He.ga K "Over") "pieces") [] (sp_Over_pieces K d)) : Fc P w K mg base (L + 2) (He.ma K (He.ga K "Over") "pieces") [] (sp_Over_pieces K (d + 1)) := by
  obtain ⟨fd, D, F⟩ := fb_Over_pieces T hL r_Over_pieces
  exact F.all (D.bindsN fun _ _ _ _ _ _ us hl => match us, hl with | [_], _ => rfl)
theorem all_Over_pieces {P : Program} {w : World} {K : PySem.W.Frag} {mg : Str → Option Value} {base : Heap} (T : Env K mg) : ∀ d, Fc P w K mg base (40 + 2 * d) (He.ma K (He.ga K "Over") "pieces") [] (sp_Over_pieces K d)
  | 0 => fc_no fun vs H Q E h => by
    obtain ⟨a, ps, m, s, _, _, h, _⟩ := h
    unfold Tr.nest at h
    omega
  | d + 1 => ok_Over_pieces T (Nat.le_add_right 40 _) (all_Over_pieces T d)
end
section
theorem fb_Over_str {P : Program} {w : World} {K : PySem.W.Frag} {mg : Str → Option Value} {base : Heap} (T : Env K mg) {d L : Nat} (hL : 40 ≤ L) (r_Over_str : Fc P w K mg base L (He.ma K (He.ga K "Over") "__str__") [] (sp_Over_str K d)) : ∃ fd, FunD K "__str__" "Over.__str__" (defArgs s_Over_str) (defBody s_Over_str) (defScope s_Over_str) [] [] (He.ma K (He.ga K "Over") "__str__") fd ∧ Fb P w K mg base (L + 4) (He.ma K (He.ga K "Over") "__str__") fd ["self"] (sp_Over_str K (d + 1)) := by
  obtain ⟨fd, F⟩ := T.f_Over_str
  refine ⟨fd, F, fb_of F sc_Over_str (fun vs H Q E h => ?_) (fun cdv A outer s H vs Q E hr h => ?_)⟩
  · obtain ⟨a, ps, m, s, rfl, _⟩ := h
    rfl
  · obtain ⟨a, ps, m, s_, rfl, hO, hn, hf, hc, q⟩ := h
    refine ⟨_, (pss_one (ps_ret (pe_joined (PJ.cons pe_str (PJ.cons (pe_fmt (c_call (ok_row_text T hL r_Over_str) (hr.mono (by omega)) T.g_row_text T.k_row_text takes0 (pa_cons (pe_fld (pv 0) (by rfl)) pa_nil))) (PJ.cons pe_str (PJ.cons (pe_fmt (pe_fld (pv 0) (by rfl))) (PJ.cons pe_str (PJ.cons (pe_fmt (pe_fld (pv 0) (by rfl))) PJ.nil))))))))), ?_⟩
    have hnL := ov_nest hn
    have htl := txt_len hf
    unfold Tr.pcs at hc htl
    unfold Tr.fit at hf
    unfold Tr.txt at q htl
    obtain ⟨f1, f2, f3⟩ := hf
    have rl := rowT_len f3
    unfold ShAt at hO
    obtain ⟨dx, kp, as, ha, hk, hA⟩ := hO
    have b1 := log_small f1
    have b2 := log_small f2
    have hpl : pcsL ps ≤ 10000 := by omega
    refine ⟨_, rfl, (by decide), _, rfl, _, _, _, _, _, rfl, ha, T.c_Over, T.a_Over_kept, rfl, _, _, _, rfl, hk, hA, hnL, f3, hpl, ?_⟩
    intro H1 X1
    have ha1 := X1 _ _ ha
    rw [show Str.empty ++ Str.ofString "(" = SX.S [40] from rfl]
    refine .inl ⟨_, rfl, sz_big (by rw [SX.S_len]; omega), _, rfl, ?_⟩
    rw [SX.S_cat]
    refine ⟨sz_big (by rw [SX.S_len, List.length_append]; show 1 + _ ≤ _; omega), _, rfl, ?_⟩
    rw [show Str.ofString ") x" = SX.S [41, 32, 120] from rfl, SX.S_cat]
    refine ⟨sz_big (by rw [SX.S_len]; simp only [List.length_append, List.length_cons, List.length_nil]; omega), ?_⟩
    refine ⟨_, rfl, _, _, _, _, _, rfl, ha1, T.c_Over, T.a_Over_many, rfl, .inr ⟨_, rfl, b1, _, rfl, ?_⟩⟩
    rw [SX.num_S, SX.S_cat]
    have l1 := TL.numL_len (by decide) f1
    have l2 := TL.numL_len (by decide) f2
    refine ⟨sz_big (by rw [SX.S_len]; simp only [List.length_append, List.length_cons, List.length_nil]; omega), _, rfl, ?_⟩
    rw [show Str.ofString " +" = SX.S [32, 43] from rfl, SX.S_cat]
    refine ⟨sz_big (by rw [SX.S_len]; simp only [List.length_append, List.length_cons, List.length_nil]; omega), ?_⟩
    refine ⟨_, rfl, _, _, _, _, _, rfl, ha1, T.c_Over, T.a_Over_step, rfl, .inr ⟨_, rfl, b2, _, rfl, ?_⟩⟩
    rw [SX.num_S, SX.S_cat]
    refine ⟨sz_big (by rw [SX.S_len]; simp only [List.length_append, List.length_cons, List.length_nil]; omega), ?_⟩
    exact q H1 X1
theorem ok_Over_str {P : Program} {w : World} {K : PySem.W.Frag} {mg : Str → Option Value} {base : Heap} (T : Env K mg) {d L : Nat} (hL : 40 ≤ L) (r_Over_str : Fc P w K mg base L (He.ma K (He.ga K "Over") "__str__") [] (sp_Over_str K d)) : Fc P w K mg base (L + 4) (He.ma K (He.ga K "Over") "__str__") [] (sp_Over_str K (d + 1)) := by
  obtain ⟨fd, D, F⟩ := fb_Over_str T hL r_Over_str
  exact F.all (D.bindsN fun _ _ _ _ _ _ us hl => match us, hl with | [_], _ => rfl)
theorem all_Over_str {P : Program} {w : World} {K : PySem.W.Frag} {mg : Str → Option Value} {base : Heap} (T : Env K mg) : ∀ d, Fc P w K mg base (40 + 4 * d) (He.ma K (He.ga K "Over") "__str__") [] (sp_Over_str K d)
  | 0 => fc_no fun vs H Q E h => by
    obtain ⟨a, ps, m, s, _, _, h, _⟩ := h
    unfold Tr.nest at h
    omega
  | d + 1 => ok_Over_str T (Nat.le_add_right 40 _) (all_Over_str T d)
end
section
abbrev SpreadC (K : PySem.W.Frag) : Addr := He.ga K "Spread"
def sprF (kp hd : Addr) : List (Str × V) := [("kept", .ref kp), ("held", .ref hd)]
/-- at a a spread of these shorts -/
def SprAt (K : PySem.W.Frag) (H : Hp) (a : Addr) (ts : List Tr) : Prop := ∃ dx kp hd as, H a = some (.ins (SpreadC K) dx (sprF kp hd)) ∧ H kp = some (.tup (as.map V.ref)) ∧ H hd = some (.lst (natV (momsL ts))) ∧ ShsAt K H ts as
theorem SprAt.mono {K : PySem.W.Frag} {H H' : Hp} {a : Addr} {ts : List Tr} (h : SprAt K H a ts) (e : Ex H H') : SprAt K H' a ts := let ⟨dx, kp, hd, as, h1, h2, h3, h4⟩ := h; ⟨dx, kp, hd, as, e _ _ h1, e _ _ h2, e _ _ h3, h4.mono e⟩
theorem sprF_inj {a b c d : Addr} (h : sprF a b = sprF c d) : a = c ∧ b = d := by
  unfold sprF at h
  simpa using h
theorem ins_inj {C dx dy : Addr} {fs gs : List (Str × V)} (h : some (HO.ins C dx fs) = some (HO.ins C dy gs)) : dx = dy ∧ fs = gs := by
  cases h
  exact ⟨rfl, rfl⟩
/-- the list that a spread holds stands at a place that N tells -/
def HeldN (K : PySem.W.Frag) (N : Addr → Prop) (H : Hp) (a : Addr) : Prop := ∀ dx kp hd, H a = some (.ins (SpreadC K) dx (sprF kp hd)) → N hd
theorem HeldN.ex {K : PySem.W.Frag} {N : Addr → Prop} {H H' : Hp} {a : Addr} {ts : List Tr} (h : HeldN K N H a) (s : SprAt K H a ts) (e : ∀ o, H a = some o → H' a = some o) : HeldN K N H' a := fun dx kp hd z => by
  obtain ⟨dx2, kp2, hd2, as2, h2, _⟩ := s
  obtain ⟨_, e5⟩ := ins_inj ((e _ h2).symm.trans z)
  obtain ⟨e6, e7⟩ := sprF_inj e5
  rw [← e7]
  exact h _ _ _ h2
theorem SprAt.put {K : PySem.W.Frag} {N : Addr → Prop} {H : Hp} {a f : Addr} {ts : List Tr} {xs ys : List V} (s : SprAt K H a ts) (h : HeldN K N H a) (n : ∀ b, N b → b ≠ f) (hf : H f = some (.lst xs)) : SprAt K (upd H f (.lst ys)) a ts ∧ HeldN K N (upd H f (.lst ys)) a := by
  have keep : ∀ b o, H b = some o → (∀ zs, o ≠ .lst zs) → upd H f (.lst ys) b = some o := fun b o hb ho => by
    rw [upd_ne (fun z => by rw [z, hf] at hb; cases hb; exact ho _ rfl)]
    exact hb
  obtain ⟨dx, kp, hd, as, h1, h2, h3, h4⟩ := id s
  refine ⟨⟨dx, kp, hd, as, keep _ _ h1 (fun _ z => nomatch z), keep _ _ h2 (fun _ z => nomatch z), ?_, h4.oth ((Oth.refl f H).upd) fun ob ho => ?_⟩, h.ex s fun o ho => ?_⟩
  · rw [upd_ne (n _ (h _ _ _ h1))]
    exact h3
  · rw [hf] at ho
    cases ho
    exact ⟨_, rfl⟩
  · rw [h1] at ho
    cases ho
    exact keep _ _ h1 (fun _ z => nomatch z)
def sprB (ts : List Tr) : Bool := risB ts && decide ((momsL ts).length ≤ 1440)
def sp_Spread_init (K : PySem.W.Frag) : Sp := fun vs H Q E => ∃ (a dx p : Addr) (as : List Addr) (ts : List Tr) (H0 : Hp), vs = [.ref a, .ref p] ∧ H a = some (.ins (SpreadC K) dx []) ∧ H0 a = none ∧ Ex H0 H ∧ SqA H0 p (as.map V.ref) ∧ ShsAt K H0 ts as ∧ nestL ts ≤ 8 ∧ okL_ ts ∧ ts.length ≤ 20000 ∧ ts.length ≤ 20000 ∧ (sprB ts = true → ∀ H', Oth a H H' → SprAt K H' a ts → HeldN K (fun b => H0 b = none) H' a → Q .non H') ∧ (sprB ts = false → ∀ H', Oth a H H' → E (.ref (He.ga K "NoPiece")) none H')
theorem fb_Spread_init {P : Program} {w : World} {K : PySem.W.Frag} {mg : Str → Option Value} {base : Heap} (T : Env K mg) : ∃ fd, FunD K "__init__" "Spread.__init__" (defArgs s_Spread_init) (defBody s_Spread_init) (defScope s_Spread_init) [] [] (He.ma K (He.ga K "Spread") "__init__") fd ∧ Fb P w K mg base 64 (He.ma K (He.ga K "Spread") "__init__") fd ["self", "parts"] (sp_Spread_init K) := by
  obtain ⟨fd, F⟩ := T.f_Spread_init
  refine ⟨fd, F, fb_of F sc_Spread_init (fun vs H Q E h => ?_) (fun cdv A outer s H vs Q E hr h => ?_)⟩
  · obtain ⟨a, dx, p, as, ts, H0, rfl, _⟩ := h
    rfl
  · obtain ⟨a, dx, p, as, ts, H0, rfl, ha, na0, X0, hp, hA, hn, hok, hlm, hlt, q, qe⟩ := h
    refine ⟨_, (pss_cons (ps_fld (pv 0) (c_call (ok_shorts_in T) (hr.mono (by decide)) T.g_shorts_in T.k_shorts_in (takes_of rfl rfl rfl rfl) (pa_cons (pv 1) pa_nil)) rfl)
      (pss_cons (ps_if (pt_cmpR op_gt (c_call (ok_row_many T (Nat.le_add_right 40 _) (all_Over_means_many T 9)) (hr.mono (by decide)) T.g_row_many T.k_row_many (takes_of rfl rfl rfl rfl) (pa_cons (pe_fld (pv 0) (by rfl)) pa_nil)) (pe_k T.v_MOST_MOMENTS) (nomark _))
      (pss_one (ps_raise rfl (takes_of rfl rfl rfl rfl) (pmk_own PySem.F.excBase_ValueError T.x_NoPiece.x T.g_NoPiece T.x_NoPiece.kp (raises_own T.x_NoPiece.sub T.x_NoPiece.ty) rfl)))
      pss_nil)
      (pss_one (ps_fld (pv 0) (c_call (ok_row_moments T (Nat.le_add_right 40 _) (all_Over_moments T 9)) (hr.mono (by decide)) T.g_row_moments T.k_row_moments (takes_of rfl rfl rfl rfl) (pa_cons (pe_fld (pv 0) (by rfl)) pa_nil)) rfl)))), ?_⟩
    have hpH : SqA H p (as.map V.ref) := hp.imp (fun h => X0 _ _ h) (fun h => X0 _ _ h)
    refine ⟨_, rfl, p, as, ts, rfl, hpH, hA.mono X0, by omega, hok, hlt, fun hr2 t H1 X1 ht => ?_, fun hr2 H1 X1 => qe (by unfold sprB; rw [hr2]; rfl) H1 (ex_oth X1)⟩
    refine ⟨_, rfl, a, _, dx, [], rfl, X1 _ _ ha, T.c_Spread, T.a_Spread_kept, by decide, ?_⟩
    have ta : t ≠ a := fun z => by rw [z, X1 _ _ ha] at ht; cases ht
    have O1 : Oth a H (upd H1 a (.ins (SpreadC K) dx (putF "kept" (.ref t) []))) := (ex_oth X1).upd
    have h2 : upd H1 a (.ins (SpreadC K) dx (putF "kept" (.ref t) [])) a = some (.ins (SpreadC K) dx [("kept", .ref t)]) := upd_same
    have ht2 : upd H1 a (.ins (SpreadC K) dx (putF "kept" (.ref t) [])) t = some (.tup (as.map V.ref)) := by rw [upd_ne ta]; exact ht
    generalize upd H1 a (.ins (SpreadC K) dx (putF "kept" (.ref t) [])) = H2 at O1 h2 ht2 ⊢
    have X02 : Ex H0 H2 := Oth.ex X0 na0 O1
    have hA2 : ShsAt K H2 ts as := hA.mono X02
    refine ⟨_, rfl, a, _, dx, _, _, rfl, h2, T.c_Spread, T.a_Spread_kept, rfl, t, as, ts, rfl, ht2, hA2, by omega, hok, hlm, fun H3 X3 => ⟨_, _, rfl, rfl, _, rfl, ?_⟩⟩
    by_cases c : (momsL ts).length ≤ 1440
    · rw [decide_eq_false (show ¬ (1440 : Int) < (((momsL ts).length : Nat) : Int) by omega)]
      refine iteF ?_
      refine ⟨_, rfl, a, _, dx, _, _, rfl, X3 _ _ h2, T.c_Spread, T.a_Spread_kept, rfl, t, as, ts, rfl, X3 _ _ ht2, hA2.mono X3, by omega, hok, c, fun hd H4 X4 nhd hhd => ?_⟩
      have X34 := X3.trans X4
      have hda : hd ≠ a := fun z => by rw [z, X34 _ _ h2] at hhd; cases hhd
      refine ⟨_, rfl, a, _, dx, _, rfl, X34 _ _ h2, T.c_Spread, T.a_Spread_held, Nat.le_of_ble_eq_true rfl, ?_⟩
      have O4 : Oth a H (upd H4 a (.ins (SpreadC K) dx (sprF t hd))) := (O1.trans (ex_oth X34)).upd
      refine q (by unfold sprB; rw [hr2, decide_eq_true c]; rfl) _ O4 ⟨dx, t, hd, as, upd_same, by rw [upd_ne ta]; exact X34 _ _ ht2, by rw [upd_ne hda]; exact hhd, hA.mono (Oth.ex X0 na0 O4)⟩ fun dx' kp' hd' e => ?_
      rw [upd_same] at e
      rw [← (sprF_inj (ins_inj e).2).2]
      exact ex_fresh (X02.trans X3) nhd
    · rw [decide_eq_true (show (1440 : Int) < (((momsL ts).length : Nat) : Int) by omega)]
      exact iteT (qe (by unfold sprB; rw [decide_eq_false c, Bool.and_false]) H3 (O1.trans (ex_oth X3)))
theorem spread_new {K : PySem.W.Frag} {H : Hp} {x dx p : Addr} {as : List Addr} {ts : List Tr} {Q : VK} {E : XK} (nx : H x = none) (nd : H dx = none) (ne : dx ≠ x) (hp : SqA H p (as.map V.ref)) (hA : ShsAt K H ts as) (hn : nestL ts ≤ 8) (hok : okL_ ts) (hb : sprB ts = true) (q : ∀ H', Ex H H' → SprAt K H' x ts → Q .non H') :
    sp_Spread_init K [.ref x, .ref p] (upd (upd H dx (.own x)) x (.ins (SpreadC K) dx [])) Q E := by
  have X1 := ex_made (o1 := .own x) (o2 := .ins (SpreadC K) dx []) nx nd ne
  have hl : (momsL ts).length ≤ 1440 := of_decide_eq_true (Bool.and_eq_true_iff.mp hb).2
  have h2 := len_moms hok
  refine ⟨x, dx, p, as, ts, H, rfl, upd_same, nx, X1, hp, hA, hn, hok, by omega, by omega, fun _ H' k d _ => ?_, fun z => by rw [hb] at z; cases z⟩
  exact q H' (fun b o e => k b o (ne_of_none e nx) (X1 _ _ e)) d
theorem spread_newH {K : PySem.W.Frag} {H : Hp} {x dx p : Addr} {as : List Addr} {ts : List Tr} {Q : VK} {E : XK} (nx : H x = none) (nd : H dx = none) (ne : dx ≠ x) (hp : SqA H p (as.map V.ref)) (hA : ShsAt K H ts as) (hn : nestL ts ≤ 8) (hok : okL_ ts) (hb : sprB ts = true) (q : ∀ H', Ex H H' → SprAt K H' x ts → HeldN K (fun b => H b = none) H' x → Q .non H') :
    sp_Spread_init K [.ref x, .ref p] (upd (upd H dx (.own x)) x (.ins (SpreadC K) dx [])) Q E := by
  have X1 := ex_made (o1 := .own x) (o2 := .ins (SpreadC K) dx []) nx nd ne
  have hl : (momsL ts).length ≤ 1440 := of_decide_eq_true (Bool.and_eq_true_iff.mp hb).2
  have h2 := len_moms hok
  refine ⟨x, dx, p, as, ts, H, rfl, upd_same, nx, X1, hp, hA, hn, hok, by omega, by omega, fun _ H' k d e => ?_, fun z => by rw [hb] at z; cases z⟩
  exact q H' (fun b o e => k b o (ne_of_none e nx) (X1 _ _ e)) d e
theorem ok_Spread_init {P : Program} {w : World} {K : PySem.W.Frag} {mg : Str → Option Value} {base : Heap} (T : Env K mg) : Fc P w K mg base 64 (He.ma K (He.ga K "Spread") "__init__") [] (sp_Spread_init K ) := by
  obtain ⟨fd, D, F⟩ := fb_Spread_init T
  exact F.all (D.bindsN fun _ _ _ _ _ _ us hl => match us, hl with | [_, _], _ => rfl)
end
section
def sp_Spread_parts (K : PySem.W.Frag) : Sp := fun vs H Q _ => ∃ a ts, vs = [.ref a] ∧ SprAt K H a ts ∧ ∀ as p, ShsAt K H ts as → H p = none → Q (.ref p) (upd H p (.lst (as.map V.ref)))
theorem fb_Spread_parts {P : Program} {w : World} {K : PySem.W.Frag} {mg : Str → Option Value} {base : Heap} (T : Env K mg) : ∃ fd, FunD K "parts" "Spread.parts" (defArgs s_Spread_parts) (defBody s_Spread_parts) (defScope s_Spread_parts) [] [] (He.ma K (He.ga K "Spread") "parts") fd ∧ Fb P w K mg base 1 (He.ma K (He.ga K "Spread") "parts") fd ["self"] (sp_Spread_parts K) := by
  obtain ⟨fd, F⟩ := T.f_Spread_parts
  refine ⟨fd, F, fb_of F sc_Spread_parts (fun vs H Q E h => ?_) (fun cdv A outer s H vs Q E hr h => ?_)⟩
  · obtain ⟨a, ts, rfl, _⟩ := h
    rfl
  · obtain ⟨a, ts, rfl, hO, q⟩ := h
    refine ⟨_, (pss_one (ps_ret (pe_callTy call_list_of (by rfl) T.n_list (by decide +kernel) (pa_cons (pe_fld (pv 0) (by rfl)) pa_nil)))), ?_⟩
    obtain ⟨dx, kp, hd, as, ha, hk, hh, hA⟩ := id hO
    exact ⟨_, rfl, a, _, dx, _, _, rfl, ha, T.c_Spread, T.a_Spread_kept, rfl, kp, _, rfl, .inr (sq_tup hk), fun p np => q as p hA np⟩
theorem ok_Spread_parts {P : Program} {w : World} {K : PySem.W.Frag} {mg : Str → Option Value} {base : Heap} (T : Env K mg) : Fc P w K mg base 1 (He.ma K (He.ga K "Spread") "parts") [] (sp_Spread_parts K ) := by
  obtain ⟨fd, D, F⟩ := fb_Spread_parts T
  exact F.all (D.bindsN fun _ _ _ _ _ _ us hl => match us, hl with | [_], _ => rfl)
end
section
def sp_Spread_moments (K : PySem.W.Frag) : Sp := fun vs H Q _ => ∃ a ts, vs = [.ref a] ∧ SprAt K H a ts ∧ ∀ p, H p = none → Q (.ref p) (upd H p (.lst (natV (momsL ts))))
theorem fb_Spread_moments {P : Program} {w : World} {K : PySem.W.Frag} {mg : Str → Option Value} {base : Heap} (T : Env K mg) : ∃ fd, FunD K "moments" "Spread.moments" (defArgs s_Spread_moments) (defBody s_Spread_moments) (defScope s_Spread_moments) [] [] (He.ma K (He.ga K "Spread") "moments") fd ∧ Fb P w K mg base 1 (He.ma K (He.ga K "Spread") "moments") fd ["self"] (sp_Spread_moments K) := by
  obtain ⟨fd, F⟩ := T.f_Spread_moments
  refine ⟨fd, F, fb_of F sc_Spread_moments (fun vs H Q E h => ?_) (fun cdv A outer s H vs Q E hr h => ?_)⟩
  · obtain ⟨a, ts, rfl, _⟩ := h
    rfl
  · obtain ⟨a, ts, rfl, hO, q⟩ := h
    refine ⟨_, (pss_one (ps_ret (pe_callTy call_list_of (by rfl) T.n_list (by decide +kernel) (pa_cons (pe_fld (pv 0) (by rfl)) pa_nil)))), ?_⟩
    obtain ⟨dx, kp, hd, as, ha, hk, hh, hA⟩ := id hO
    exact ⟨_, rfl, a, _, dx, _, _, rfl, ha, T.c_Spread, T.a_Spread_held, rfl, hd, _, rfl, .inl (sq_lst hh), q⟩
theorem ok_Spread_moments {P : Program} {w : World} {K : PySem.W.Frag} {mg : Str → Option Value} {base : Heap} (T : Env K mg) : Fc P w K mg base 1 (He.ma K (He.ga K "Spread") "moments") [] (sp_Spread_moments K ) := by
  obtain ⟨fd, D, F⟩ := fb_Spread_moments T
  exact F.all (D.bindsN fun _ _ _ _ _ _ us hl => match us, hl with | [_], _ => rfl)
end
section
def sp_Spread_pieces (K : PySem.W.Frag) : Sp := fun vs H Q _ => ∃ a ts, vs = [.ref a] ∧ SprAt K H a ts ∧ nestL ts ≤ 8 ∧ okL_ ts ∧ (momsL ts).length ≤ 1440 ∧ ∀ H', Ex H H' → Q (.int ((pcsL ts : Nat) : Int)) H'
theorem fb_Spread_pieces {P : Program} {w : World} {K : PySem.W.Frag} {mg : Str → Option Value} {base : Heap} (T : Env K mg) : ∃ fd, FunD K "pieces" "Spread.pieces" (defArgs s_Spread_pieces) (defBody s_Spread_pieces) (defScope s_Spread_pieces) [] [] (He.ma K (He.ga K "Spread") "pieces") fd ∧ Fb P w K mg base 64 (He.ma K (He.ga K "Spread") "pieces") fd ["self"] (sp_Spread_pieces K) := by
  obtain ⟨fd, F⟩ := T.f_Spread_pieces
  refine ⟨fd, F, fb_of F sc_Spread_pieces (fun vs H Q E h => ?_) (fun cdv A outer s H vs Q E hr h => ?_)⟩
  · obtain ⟨a, ts, rfl, _⟩ := h
    rfl
  · obtain ⟨a, ts, rfl, hO, q⟩ := h
    refine ⟨_, (pss_one (ps_ret (c_call (ok_row_pieces T (Nat.le_add_right 40 _) (all_Over_pieces T 9)) (hr.mono (by decide)) T.g_row_pieces T.k_row_pieces takes0 (pa_cons (pe_fld (pv 0) (by rfl)) pa_nil)))), ?_⟩
    obtain ⟨dx, kp, hd, as, ha, hk, hh, hA⟩ := id hO
    obtain ⟨hn, hok, hl, q⟩ := q
    have hl2 := len_moms hok
    exact ⟨_, rfl, a, _, dx, _, _, rfl, ha, T.c_Spread, T.a_Spread_kept, rfl, kp, as, ts, rfl, hk, hA, by omega, hok, by omega, fun H1 X1 => q H1 X1⟩
theorem ok_Spread_pieces {P : Program} {w : World} {K : PySem.W.Frag} {mg : Str → Option Value} {base : Heap} (T : Env K mg) : Fc P w K mg base 64 (He.ma K (He.ga K "Spread") "pieces") [] (sp_Spread_pieces K ) := by
  obtain ⟨fd, D, F⟩ := fb_Spread_pieces T
  exact F.all (D.bindsN fun _ _ _ _ _ _ us hl => match us, hl with | [_], _ => rfl)
end
section
def natD (ns : List Nat) : List PyData := ns.map fun n : Nat => PyData.int (n : Int)
theorem dp_nat (K : PySem.W.Frag) (H : Hp) : ∀ ns : List Nat, DpAll K H (natV ns) (natD ns)
  | [] => .nil
  | n :: ns => .cons (.int _) (dp_nat K H ns)
theorem natD_lay : ∀ ns : List Nat, PyData.canLayAll0 (natD ns) = true
  | [] => rfl
  | n :: ns => by
    show (true && PyData.canLayAll0 (natD ns)) = true
    rw [natD_lay ns]
    rfl
theorem natD_dep : ∀ ns : List Nat, PyData.depthAll (natD ns) = 0
  | [] => rfl
  | n :: ns => by
    show max 0 (PyData.depthAll (natD ns)) = 0
    rw [natD_dep ns]
    rfl
theorem shaped_nat (ns : List Nat) : SeqAt.shaped (.list (natD ns)) = true := by
  show (PyData.canLayAll0 (natD ns) && decide (PyData.depthAll (natD ns) + 1 ≤ 64)) = true
  rw [natD_lay, natD_dep]
  rfl
theorem okI_nat {n k : Nat} (h : n < 10 ^ k) (hk : k ≤ 150) : okI ((n : Nat) : Int) = true := decide_eq_true (by
  have h1 : n < 10 ^ 150 := Nat.lt_of_lt_of_le h (Nat.pow_le_pow_right (by decide) hk)
  have e : (10 : Nat) ^ 150 < 10 ^ 200 := by decide +kernel
  show ((n : Nat) : Int).natAbs < 10 ^ 200
  rw [Int.natAbs_natCast]
  omega)
theorem natD_ok {k : Nat} (hk : k ≤ 150) : ∀ ns : List Nat, (∀ n ∈ ns, n < 10 ^ k) → okL (natD ns) = true
  | [], _ => rfl
  | n :: ns, h => by
    show (okI ((n : Nat) : Int) && okL (natD ns)) = true
    rw [okI_nat (h n List.mem_cons_self) hk, natD_ok hk ns fun m hm => h m (List.mem_cons_of_mem _ hm)]
    rfl
theorem natD_sz : ∀ ns : List Nat, szL (natD ns) = 1923 * ns.length
  | [] => rfl
  | n :: ns => by
    show 1921 + 2 + szL (natD ns) = 1923 * (ns.length + 1)
    rw [natD_sz ns]
    omega
end
section
theorem eqv_natD : ∀ a b : List Nat, PyData.eqvAll (natD a) (natD b) = decide (a = b)
  | [], [] => rfl
  | [], _ :: _ => rfl
  | _ :: _, [] => rfl
  | x :: a, y :: b => by
    show (decide (((x : Nat) : Int) = ((y : Nat) : Int)) && PyData.eqvAll (natD a) (natD b)) = _
    rw [eqv_natD a b]
    by_cases h : x = y
    · subst h
      simp
    · have : ¬ ((x : Nat) : Int) = ((y : Nat) : Int) := fun z => h (by omega)
      simp [this, h]
end
section
def sp_Spread_eq (K : PySem.W.Frag) : Sp := fun vs H Q _ => ∃ a x, vs = [.ref a, x] ∧ ((∃ ts b us, SprAt K H a ts ∧ x = .ref b ∧ SprAt K H b us ∧ Q (.bl (decide (momsL ts = momsL us))) H) ∨ (∃ t, TyX K H x t ∧ PySem.W.kitOne K t (.ref (SpreadC K)) = some false ∧ Q (.bl false) H))
theorem fb_Spread_eq {P : Program} {w : World} {K : PySem.W.Frag} {mg : Str → Option Value} {base : Heap} (T : Env K mg) : ∃ fd, FunD K "__eq__" "Spread.__eq__" (defArgs s_Spread_eq) (defBody s_Spread_eq) (defScope s_Spread_eq) [] [] (He.ma K (He.ga K "Spread") "__eq__") fd ∧ Fb P w K mg base 1 (He.ma K (He.ga K "Spread") "__eq__") fd ["self", "other"] (sp_Spread_eq K) := by
  obtain ⟨fd, F⟩ := T.f_Spread_eq
  refine ⟨fd, F, fb_of F sc_Spread_eq (fun vs H Q E h => ?_) (fun cdv A outer s H vs Q E hr h => ?_)⟩
  · obtain ⟨a, x, rfl, _⟩ := h
    rfl
  · obtain ⟨a, x, rfl, q⟩ := h
    refine ⟨_, (pss_one (ps_ret (pe_and (pe_callB call_isi (by rfl) T.n_isinstance (by decide +kernel) (pa_cons (pv 1) (pa_cons (pe_glob (v := .ref _) (by rfl) T.g_Spread rfl) pa_nil))) (pe_one (pe_cmpR (op_eqD hr.rm.units) (pe_fld (pv 0) (by rfl)) (pe_fld (pv 1) (by rfl)) (nomark _)))))), ?_⟩
    rcases q with ⟨ts, b, us, hO, rfl, hb, q⟩ | ⟨t, ty, kt, q⟩
    · obtain ⟨dx, kp, hd, as, ha, hk, hh, hA⟩ := id hO
      obtain ⟨dy, kq, he, bs, hb1, hb2, hb3, hb4⟩ := id hb
      refine ⟨_, rfl, _, _, _, _, _, rfl, .own _, ty_ins T.i_Spread T.c_Spread hb1, T.kit_Spread_Spread, _, rfl, _, rfl, _, _, _, _, _, rfl, ha, T.c_Spread, T.a_Spread_held, rfl, _, rfl, _, _, _, _, _, rfl, hb1, T.c_Spread, T.a_Spread_held, rfl, ?_⟩
      refine ⟨_, _, .lst (sq_lst hh) (dp_nat K _ _), .lst (sq_lst hb3) (dp_nat K _ _), shaped_nat _, shaped_nat _, ?_⟩
      have e1 : PyData.eqv (.list (natD (momsL ts))) (.list (natD (momsL us))) = decide (momsL ts = momsL us) := by
        show PyData.eqvAll (natD (momsL ts)) (natD (momsL us)) = _
        rw [eqv_natD]
      rw [e1]
      exact q
    · exact ⟨_, rfl, _, _, _, _, false, rfl, .own _, ty, kt, _, rfl, iteF q⟩
theorem ok_Spread_eq {P : Program} {w : World} {K : PySem.W.Frag} {mg : Str → Option Value} {base : Heap} (T : Env K mg) : Fc P w K mg base 1 (He.ma K (He.ga K "Spread") "__eq__") [] (sp_Spread_eq K ) := by
  obtain ⟨fd, D, F⟩ := fb_Spread_eq T
  exact F.all (D.bindsN fun _ _ _ _ _ _ us hl => match us, hl with | [_, _], _ => rfl)
end
section
def sp_Spread_len (K : PySem.W.Frag) : Sp := fun vs H Q _ => ∃ a ts, vs = [.ref a] ∧ SprAt K H a ts ∧ Q (.int (((momsL ts).length : Nat) : Int)) H
theorem fb_Spread_len {P : Program} {w : World} {K : PySem.W.Frag} {mg : Str → Option Value} {base : Heap} (T : Env K mg) : ∃ fd, FunD K "__len__" "Spread.__len__" (defArgs s_Spread_len) (defBody s_Spread_len) (defScope s_Spread_len) [] [] (He.ma K (He.ga K "Spread") "__len__") fd ∧ Fb P w K mg base 1 (He.ma K (He.ga K "Spread") "__len__") fd ["self"] (sp_Spread_len K) := by
  obtain ⟨fd, F⟩ := T.f_Spread_len
  refine ⟨fd, F, fb_of F sc_Spread_len (fun vs H Q E h => ?_) (fun cdv A outer s H vs Q E hr h => ?_)⟩
  · obtain ⟨a, ts, rfl, _⟩ := h
    rfl
  · obtain ⟨a, ts, rfl, hO, q⟩ := h
    refine ⟨_, (pss_one (ps_ret (pe_callB call_len (by rfl) T.n_len (by decide +kernel) (pa_cons (pe_fld (pv 0) (by rfl)) pa_nil)))), ?_⟩
    obtain ⟨dx, kp, hd, as, ha, hk, hh, hA⟩ := id hO
    exact ⟨_, rfl, a, _, dx, _, _, rfl, ha, T.c_Spread, T.a_Spread_held, rfl, _, (momsL ts).length, rfl, .inl ⟨_, sq_lst hh, (natV_len _).symm⟩, q⟩
theorem ok_Spread_len {P : Program} {w : World} {K : PySem.W.Frag} {mg : Str → Option Value} {base : Heap} (T : Env K mg) : Fc P w K mg base 1 (He.ma K (He.ga K "Spread") "__len__") [] (sp_Spread_len K ) := by
  obtain ⟨fd, D, F⟩ := fb_Spread_len T
  exact F.all (D.bindsN fun _ _ _ _ _ _ us hl => match us, hl with | [_], _ => rfl)
end
section
def sp_Spread_str (K : PySem.W.Frag) : Sp := fun vs H Q _ => ∃ a ts, vs = [.ref a] ∧ SprAt K H a ts ∧ nestL ts ≤ 9 ∧ fitL ts ∧ pcsL ts ≤ 10000 ∧ ∀ H', Ex H H' → Q (.str (SX.S (rowT (txtL ts)))) H'
theorem fb_Spread_str {P : Program} {w : World} {K : PySem.W.Frag} {mg : Str → Option Value} {base : Heap} (T : Env K mg) : ∃ fd, FunD K "__str__" "Spread.__str__" (defArgs s_Spread_str) (defBody s_Spread_str) (defScope s_Spread_str) [] [] (He.ma K (He.ga K "Spread") "__str__") fd ∧ Fb P w K mg base 80 (He.ma K (He.ga K "Spread") "__str__") fd ["self"] (sp_Spread_str K) := by
  obtain ⟨fd, F⟩ := T.f_Spread_str
  refine ⟨fd, F, fb_of F sc_Spread_str (fun vs H Q E h => ?_) (fun cdv A outer s H vs Q E hr h => ?_)⟩
  · obtain ⟨a, ts, rfl, _⟩ := h
    rfl
  · obtain ⟨a, ts, rfl, hO, hn, hf, hc, q⟩ := h
    refine ⟨_, (pss_one (ps_ret (pe_joined1 (pe_fmt (c_call (ok_row_text T (Nat.le_add_right 40 _) (all_Over_str T 9)) (hr.mono (by decide)) T.g_row_text T.k_row_text takes0 (pa_cons (pe_fld (pv 0) (by rfl)) pa_nil)))))), ?_⟩
    have rl := rowT_len hf
    obtain ⟨dx, kp, hd, as, ha, hk, hA, hh⟩ := hO
    refine ⟨_, rfl, _, _, _, _, _, rfl, ha, T.c_Spread, T.a_Spread_kept, rfl, _, _, _, rfl, hk, hh, hn, hf, hc, ?_⟩
    intro H1 X1
    exact .inl ⟨_, rfl, sz_big (by rw [SX.S_len]; omega), q H1 X1⟩
theorem ok_Spread_str {P : Program} {w : World} {K : PySem.W.Frag} {mg : Str → Option Value} {base : Heap} (T : Env K mg) : Fc P w K mg base 80 (He.ma K (He.ga K "Spread") "__str__") [] (sp_Spread_str K ) := by
  obtain ⟨fd, D, F⟩ := fb_Spread_str T
  exact F.all (D.bindsN fun _ _ _ _ _ _ us hl => match us, hl with | [_], _ => rfl)
end
section
theorem fig_ok {c : Nat} (h : 48 ≤ c ∧ c ≤ 57) : okC c = true := by
  unfold okC
  rw [decide_eq_true (by omega), decide_eq_true (by omega), decide_eq_true (by omega), decide_eq_true (by omega)]
  rfl
theorem numL_ok (n : Nat) : (TL.numL n).all okC = true := List.all_eq_true.mpr fun c hc => fig_ok (TL.numL_digits n c hc)
theorem two_ok {m : Nat} (h : m < 60) : (Mo.two m).all okC = true := by
  unfold Mo.two
  simp only [List.all_cons, List.all_nil, Bool.and_true]
  rw [fig_ok (by omega), fig_ok (by omega)]
  rfl
theorem clk_ok (m : Nat) : (Mo.clk m).all okC = true := by
  unfold Mo.clk
  rw [List.all_append, numL_ok, List.all_cons, two_ok (by omega)]
  rfl
theorem shw_ok (m : Nat) : (Mo.shw m).all okC = true := by
  unfold Mo.shw
  split
  · exact clk_ok m
  · rw [List.all_append, numL_ok, List.all_cons, clk_ok]
    rfl
theorem join_ok : ∀ {ws : List (List Nat)}, (∀ w ∈ ws, w.all okC = true) → (TL.joinL [44, 32] ws).all okC = true
  | [], _ => rfl
  | [w], h => h w List.mem_cons_self
  | w :: x :: r, h => by
    have ih := join_ok (ws := x :: r) fun y hy => h y (List.mem_cons_of_mem _ hy)
    show (w ++ ([44, 32] ++ TL.joinL [44, 32] (x :: r))).all okC = true
    rw [List.all_append, List.all_append, ih, h w List.mem_cons_self]
    rfl
mutual
theorem txt_ok : ∀ t : Tr, t.txt.all okC = true
  | .at n => by
    unfold Tr.txt
    exact shw_ok n
  | .ov ps m s => by
    have h := rowT_ok ps
    unfold Tr.txt
    simp only [List.all_append, numL_ok, h]
    rfl
theorem rowT_ok : ∀ ts : List Tr, (rowT (txtL ts)).all okC = true
  | ts => by
    have h := txtL_ok ts
    unfold rowT
    split
    · rfl
    · exact join_ok h
theorem txtL_ok : ∀ ts : List Tr, ∀ w ∈ txtL ts, w.all okC = true
  | [], w, hw => by
    unfold txtL at hw
    cases hw
  | t :: r, w, hw => by
    unfold txtL at hw
    rcases List.mem_cons.mp hw with rfl | hw
    · exact txt_ok t
    · exact txtL_ok r w hw
end
end
section
def sprR (l : List Nat) : List Nat := [83, 112, 114, 101, 97, 100, 40, 39] ++ l ++ [39, 41]
def sp_Spread_repr (K : PySem.W.Frag) : Sp := fun vs H Q _ => ∃ a ts, vs = [.ref a] ∧ SprAt K H a ts ∧ nestL ts ≤ 9 ∧ fitL ts ∧ pcsL ts ≤ 10000 ∧ ∀ H', Ex H H' → Q (.str (SX.S (sprR (rowT (txtL ts))))) H'
theorem fb_Spread_repr {P : Program} {w : World} {K : PySem.W.Frag} {mg : Str → Option Value} {base : Heap} (T : Env K mg) : ∃ fd, FunD K "__repr__" "Spread.__repr__" (defArgs s_Spread_repr) (defBody s_Spread_repr) (defScope s_Spread_repr) [] [] (He.ma K (He.ga K "Spread") "__repr__") fd ∧ Fb P w K mg base 80 (He.ma K (He.ga K "Spread") "__repr__") fd ["self"] (sp_Spread_repr K) := by
  obtain ⟨fd, F⟩ := T.f_Spread_repr
  refine ⟨fd, F, fb_of F sc_Spread_repr (fun vs H Q E h => ?_) (fun cdv A outer s H vs Q E hr h => ?_)⟩
  · obtain ⟨a, ts, rfl, _⟩ := h
    rfl
  · obtain ⟨a, ts, rfl, hO, hn, hf, hc, q⟩ := h
    refine ⟨_, (pss_one (ps_ret (pe_joined (PJ.cons pe_str (PJ.cons (pe_fmtR (c_call (ok_row_text T (Nat.le_add_right 40 _) (all_Over_str T 9)) (hr.mono (by decide)) T.g_row_text T.k_row_text takes0 (pa_cons (pe_fld (pv 0) (by rfl)) pa_nil))) (PJ.cons pe_str PJ.nil)))))), ?_⟩
    have rl := rowT_len hf
    have ok : (rowT (txtL ts)).all okC = true := rowT_ok ts
    obtain ⟨dx, kp, hd, as, ha, hk, hA, hh⟩ := hO
    refine ⟨_, rfl, (by decide), _, rfl, _, _, _, _, _, rfl, ha, T.c_Spread, T.a_Spread_kept, rfl, _, _, _, rfl, hk, hh, hn, hf, hc, ?_⟩
    intro H1 X1
    have hl := repr_plain_len ok
    refine .inl ⟨_, rfl, sz_big (by omega), ?_⟩
    rw [repr_plain ok, show Str.empty ++ Str.ofString "Spread(" = SX.S [83, 112, 114, 101, 97, 100, 40] from rfl]
    refine ⟨_, rfl, ?_⟩
    rw [SX.S_cat]
    refine ⟨sz_big (by rw [SX.S_len]; simp only [List.length_append, List.length_cons, List.length_nil]; omega), _, rfl, ?_⟩
    rw [show Str.ofString ")" = SX.S [41] from rfl, SX.S_cat]
    refine ⟨sz_big (by rw [SX.S_len]; simp only [List.length_append, List.length_cons, List.length_nil]; omega), ?_⟩
    have e : [83, 112, 114, 101, 97, 100, 40] ++ (39 :: rowT (txtL ts) ++ [39]) ++ [41] = sprR (rowT (txtL ts)) := by
      unfold sprR
      simp
    rw [e]
    exact q H1 X1
theorem ok_Spread_repr {P : Program} {w : World} {K : PySem.W.Frag} {mg : Str → Option Value} {base : Heap} (T : Env K mg) : Fc P w K mg base 80 (He.ma K (He.ga K "Spread") "__repr__") [] (sp_Spread_repr K ) := by
  obtain ⟨fd, D, F⟩ := fb_Spread_repr T
  exact F.all (D.bindsN fun _ _ _ _ _ _ us hl => match us, hl with | [_], _ => rfl)
end
section
def sp_first_size (K : PySem.W.Frag) : Sp := fun vs H Q _ => ∃ (p : Addr) (ns : List Nat) (pap : List (List Int)) (b s : Nat), vs = [.ref p, .int (b : Nat), .int (s : Nat)] ∧ PapAt K H p pap ∧ Good ns pap ∧ 1 ≤ s ∧ b + s ≤ ns.length ∧ ns.length ≤ 1000 ∧ ∀ f : Nat, 1 ≤ f → f ≤ s → NoCut pap b f → (f < s → pg pap b (f - 1) + pg pap (b + f) (s - f - 1) = pg pap b (s - 1)) → Q (.int (f : Nat)) H
theorem fb_first_size {P : Program} {w : World} {K : PySem.W.Frag} {mg : Str → Option Value} {base : Heap} (T : Env K mg) : ∃ fd, FunD K "first_size" "first_size" (defArgs s_first_size) (defBody s_first_size) (defScope s_first_size) [] [] (He.ga K "first_size") fd ∧ Fb P w K mg base 1 (He.ga K "first_size") fd ["paper", "begin", "size"] (sp_first_size K) := by
  obtain ⟨fd, F⟩ := T.f_first_size
  refine ⟨fd, F, fb_of F sc_first_size (fun vs H Q E h => ?_) (fun cdv A outer s H vs Q E hr h => ?_)⟩
  · obtain ⟨p, ns, pap, b, s, rfl, _⟩ := h
    rfl
  · obtain ⟨p, ns, pap, b, s, rfl, hP, hG, s1, hbs, hl, q⟩ := h
    refine ⟨_, (pss_cons (ps_for (passes_of rfl) rfl (pi_range2 (by rfl) T.n_range (pa_cons pe_int (pa_cons (pv 2) pa_nil))) (pg_name (i := 3) sc_first_size.nd rfl (Or.inl rfl))
      (pss_one (ps_if (pt_cmpR op_eq (pe_op op_add (pe_ix (ix_seqA K) (pe_ix (ix_seqA K) (pv 0) (pv 1) (fun _ _ => rfl)) (pe_op op_sub (pv 3) pe_int) (fun _ _ => rfl)) (pe_ix (ix_seqA K) (pe_ix (ix_seqA K) (pv 0) (pe_op op_add (pv 1) (pv 3)) (fun _ _ => rfl)) (pe_op op_sub (pe_op op_sub (pv 2) (pv 3)) pe_int) (fun _ _ => rfl))) (pe_ix (ix_seqA K) (pe_ix (ix_seqA K) (pv 0) (pv 1) (fun _ _ => rfl)) (pe_op op_sub (pv 2) pe_int) (fun _ _ => rfl)) (nomark _))
      (pss_one (ps_ret (pv 3)))
      pss_nil)))
      (pss_one (ps_ret (pv 2)))), ?_⟩
    have pl : pap.length = ns.length := hG.1.1
    refine ⟨_, rfl, _, _, rfl, ⟨(by decide), ⟨(by decide), ⟨(by omega), (by omega)⟩⟩⟩, ?_⟩
    have en : ((s : Int) - 1).toNat = s - 1 := by omega
    rw [en]
    refine for_range (fun i σ H' => H' = H ∧ (∀ c, 1 ≤ c → c ≤ i → pg pap b (c - 1) + pg pap (b + c) (s - c - 1) ≠ pg pap b (s - 1)) ∧ ∃ v, σ = [some (.ref p), some (.int (b : Nat)), some (.int (s : Nat)), v]) ⟨rfl, fun c h1 h2 => by omega, _, rfl⟩ ?_ ?_
    · rintro i σ H1 hi ⟨rfl, hn, v, rfl⟩
      have ei : (1 : Int) + (i : Int) = ((i + 1 : Nat) : Int) := by omega
      rw [ei]
      have l1 : i < (pap.getD b []).length := good_len hG (by omega)
      have l2 : s - (i + 1) - 1 < (pap.getD (b + (i + 1)) []).length := good_len hG (by omega)
      have l3 : s - 1 < (pap.getD b []).length := good_len hG (by omega)
      refine ⟨_, rfl, _, rfl, pap_ix hP rfl (by omega) fun b1 h1 => ⟨_, rfl, _, _, rfl, rfl, row_ix h1 (j := i) (by omega) l1 ⟨_, rfl, _, rfl, _, rfl, _, _, rfl, rfl, pap_ix hP (i := b + (i + 1)) (by omega) (by omega) fun b2 h2 => ?_⟩⟩⟩
      refine ⟨_, rfl, _, rfl, _, _, rfl, rfl, _, _, rfl, rfl, row_ix h2 (j := s - (i + 1) - 1) (by omega) l2 ⟨_, _, rfl, rfl, _, rfl, _, rfl, pap_ix hP rfl (by omega) fun b3 h3 => ⟨_, rfl, _, _, rfl, rfl, row_ix h3 (j := s - 1) (by omega) l3 ?_⟩⟩⟩
      refine ⟨rfl, _, rfl, ?_⟩
      rw [vint_dec]
      refine ite2 (fun c => ?_) (fun c => ?_)
      · have c1 := of_decide_eq_true c
        have e : pg pap b (i + 1 - 1) + pg pap (b + (i + 1)) (s - (i + 1) - 1) = pg pap b (s - 1) := c1
        exact ⟨_, rfl, q (i + 1) (by omega) (by omega) (first_nocut hG hbs (by omega) (by omega) e (fun c h1 h2 => hn c h1 (by omega))) (fun _ => e)⟩
      · refine ⟨rfl, fun c' h1 h2 => ?_, _, rfl⟩
        by_cases d : c' = i + 1
        · rw [d]
          exact fun z => c (decide_eq_true z)
        · exact hn c' h1 (by omega)
    · rintro σ H1 ⟨rfl, hn, v, rfl⟩
      exact ⟨_, rfl, q s s1 (Nat.le_refl _) (fun c h1 h2 => hn c h1 (by omega)) (fun z => absurd z (Nat.lt_irrefl _))⟩
theorem ok_first_size {P : Program} {w : World} {K : PySem.W.Frag} {mg : Str → Option Value} {base : Heap} (T : Env K mg) : Fc P w K mg base 1 (He.ga K "first_size") [] (sp_first_size K ) := by
  obtain ⟨fd, D, F⟩ := fb_first_size T
  exact F.all (D.bindsN fun _ _ _ _ _ _ us hl => match us, hl with | [_, _, _], _ => rfl)
end
section
def sp_over_part (K : PySem.W.Frag) : Sp := fun vs H Q _ => ∃ (r p : Addr) (ns : List Nat) (pap : List (List Int)) (b s : Nat), vs = [.ref r, .ref p, .int (b : Nat), .int (s : Nat)] ∧ SqL K H r (natV ns) ∧ PapAt K H p pap ∧ Good ns pap ∧ 2 ≤ s ∧ b + s ≤ ns.length ∧ ns.length ≤ 1000 ∧ NoCut pap b s ∧ ∀ (f : Nat) H', f ∈ firstP ns b s → pg pap b (f - 1) = pg pap b (s - 1) - 1 → Ex H H' → Q (.int (f : Nat)) H'
theorem fb_over_part {P : Program} {w : World} {K : PySem.W.Frag} {mg : Str → Option Value} {base : Heap} (T : Env K mg) : ∃ fd, FunD K "over_part" "over_part" (defArgs s_over_part) (defBody s_over_part) (defScope s_over_part) [] [] (He.ga K "over_part") fd ∧ Fb P w K mg base 3 (He.ga K "over_part") fd ["row", "paper", "begin", "size"] (sp_over_part K) := by
  obtain ⟨fd, F⟩ := T.f_over_part
  refine ⟨fd, F, fb_of F sc_over_part (fun vs H Q E h => ?_) (fun cdv A outer s H vs Q E hr h => ?_)⟩
  · obtain ⟨r, p, ns, pap, b, s, rfl, _⟩ := h
    rfl
  · obtain ⟨r, p, ns, pap, b, s, rfl, hw, hP, hG, s1, hbs, hl, hN, q⟩ := h
    refine ⟨_, (pss_cons (ps_set (i := 4) sc_over_part.nd rfl (Or.inr rfl) (pe_op op_sub (pe_ix (ix_seqA K) (pe_ix (ix_seqA K) (pv 1) (pv 2) (fun _ _ => rfl)) (pe_op op_sub (pv 3) pe_int) (fun _ _ => rfl)) pe_int))
      (pss_one (ps_ret (pe_ix ix_list (pe_lc (own := [("part", 5)]) (by rfl) sc_over_part.nd (pi_list (c_call (ok_first_parts T) (hr.mono (by decide)) T.g_first_parts T.k_first_parts takes0 (pa_cons (pv 0) (pa_cons (pv 2) (pa_cons (pv 3) pa_nil))))) (blkOk_by (own := [("part", 5)]) (N := ["row", "paper", "begin", "size", "wanted", "part"]) (sc := defScope s_over_part) (by decide +kernel)) (fun _ _ _ _ _ => (pg_name (i := 5) sc_over_part.nd rfl (Or.inl rfl))) (fun _ _ _ _ _ => (pts_one (pt_cmpR op_eq (pe_ix (ix_seqA K) (pe_ix (ix_seqA K) (pv 1) (pv 2) (fun _ _ => rfl)) (pe_op op_sub (pv 5) pe_int) (fun _ _ => rfl)) (pv 4) (nomark _)))) (fun _ _ _ _ _ => (pv 5))) pe_int (fun _ _ => rfl))))), ?_⟩
    have pl : pap.length = ns.length := hG.1.1
    have l3 : s - 1 < (pap.getD b []).length := good_len hG (by omega)
    refine ⟨_, rfl, _, rfl, pap_ix hP rfl (by omega) fun b1 h1 => ⟨_, rfl, _, _, rfl, rfl, row_ix h1 (j := s - 1) (by omega) l3 ?_⟩⟩
    refine ⟨_, _, rfl, rfl, _, rfl, _, rfl, _, rfl, _, _, _, _, rfl, hw, hbs, hl, ?_⟩
    intro f H2 X2 nf hf
    have l1 : (firstP ns b s).length ≤ 1000 := by
      unfold firstP
      have := List.length_filterMap_le (fun i => if firstB ns b s i = true then some (i + 1) else none) (List.range (s - 1))
      rw [List.length_range] at this
      omega
    have hP2 := hP.mono X2
    refine ⟨_, rfl, ⟨_, (sq_lst hf)⟩, ?_⟩
    intro B nB
    refine lc_on (firstP ns b s) (fun n : Nat => V.int n) L2.walk_list (fun n => if pg pap b (n - 1) = pg pap b (s - 1) - 1 then some (.int (n : Nat)) else none) (fun H' => Ex H2 H') (fun H' l e => ex_mut e nB) (.refl _) (by omega) (fun H' e => sq_lst (e _ _ hf)) (fun i n H' acc N hn e hD la k => ?_) (fun H3 X3 hD3 => ?_)
    · have hP' := hP2.mono e
      have m1 := firstP_lt (List.mem_of_getElem? hn)
      have f2 : n - 1 < (pap.getD b []).length := good_len hG (by omega)
      refine ⟨rfl, _, rfl, _, rfl, pap_ix hP' rfl (by omega) fun b1 h1 => ⟨_, rfl, _, _, rfl, rfl, row_ix h1 (j := n - 1) (by omega) f2 ⟨_, rfl, rfl, _, rfl, ?_⟩⟩⟩
      have z := k H' e hD
      rw [vint_dec]
      refine ite2 (fun c => ?_) (fun c => ?_)
      · have c1 : pg pap b (n - 1) = pg pap b (s - 1) - 1 := of_decide_eq_true c
        rw [if_pos c1] at z
        exact ⟨_, rfl, acc, hD, la, z⟩
      · rw [if_neg (show ¬ pg pap b (n - 1) = pg pap b (s - 1) - 1 from fun z => c (decide_eq_true z))] at z
        exact z
    · obtain ⟨m, hm, em⟩ := nocut_ov hG s1 hbs hN
      cases hl3 : (firstP ns b s).filterMap (fun n => if pg pap b (n - 1) = pg pap b (s - 1) - 1 then some (V.int (n : Nat)) else none) with
      | nil =>
        have : V.int (m : Nat) ∈ (firstP ns b s).filterMap (fun n => if pg pap b (n - 1) = pg pap b (s - 1) - 1 then some (V.int (n : Nat)) else none) := List.mem_filterMap.mpr ⟨m, hm, if_pos em⟩
        rw [hl3] at this
        cases this
      | cons v rest =>
        have hv : v ∈ (firstP ns b s).filterMap (fun n => if pg pap b (n - 1) = pg pap b (s - 1) - 1 then some (V.int (n : Nat)) else none) := by rw [hl3]; exact List.mem_cons_self
        obtain ⟨n, hn, en⟩ := List.mem_filterMap.mp hv
        split at en
        · rename_i c
          injection en with en
          subst en
          rw [hl3] at hD3
          exact ⟨B, _, _, _, rfl, rfl, sq_lst hD3, (atI_nat (j := 0) rfl : atI (V.int (n : Nat) :: rest) ((0 : Nat) : Int) = _), q n H3 hn c (X2.trans X3)⟩
        · cases en
theorem ok_over_part {P : Program} {w : World} {K : PySem.W.Frag} {mg : Str → Option Value} {base : Heap} (T : Env K mg) : Fc P w K mg base 3 (He.ga K "over_part") [] (sp_over_part K ) := by
  obtain ⟨fd, D, F⟩ := fb_over_part T
  exact F.all (D.bindsN fun _ _ _ _ _ _ us hl => match us, hl with | [_, _, _, _], _ => rfl)
end
section
abbrev GAP : Nat := 10 ^ 51
theorem okL_snoc {t : Tr} : ∀ {ts : List Tr}, okL_ ts → t.ok → okL_ (ts ++ [t])
  | [], _, h => by
    show okL_ [t]
    unfold okL_
    exact ⟨h, by unfold okL_; trivial⟩
  | x :: r, h, ht => by
    unfold okL_ at h
    show okL_ (x :: (r ++ [t]))
    unfold okL_
    exact ⟨h.1, okL_snoc h.2 ht⟩
theorem risB_snoc {t : Tr} : ∀ {ts : List Tr}, okL_ ts → risB ts = true → (ts ≠ [] → (momsL ts).getLastD 0 < t.moms.headD 0) → risB (ts ++ [t]) = true
  | [], _, _, _ => rfl
  | [x], h, _, hb => by
    have hb := hb (by simp)
    have e : momsL [x] = x.moms := by simp [momsL]
    rw [e] at hb
    show (decide (x.moms.getLastD 0 < t.moms.headD 0) && true) = true
    rw [decide_eq_true hb]
    rfl
  | x :: y :: r, h, hr, hb => by
    obtain ⟨h1, h2⟩ := risB_cons hr
    have hok : okL_ (y :: r) := by
      unfold okL_ at h
      exact h.2
    have e : momsL (x :: y :: r) = x.moms ++ momsL (y :: r) := by rw [momsL]
    have ih := risB_snoc hok h2 fun _ => by
      have hb := hb (by simp)
      rw [e, lastD_app (momsL_ne hok (by simp))] at hb
      exact hb
    show (decide (x.moms.getLastD 0 < y.moms.headD 0) && risB (y :: r ++ [t])) = true
    rw [decide_eq_true h1, ih]
    rfl
theorem momsL_snoc (ts : List Tr) (t : Tr) : momsL (ts ++ [t]) = momsL ts ++ t.moms := by
  have e : momsL [t] = t.moms := by simp [momsL]
  rw [momsL_app, e]
theorem at_lastN {ns : List Nat} (h : ns ≠ []) : atI (natV ns) (-1) = some (.int ((ns.getLastD 0 : Nat) : Int)) := by
  have e := List.dropLast_concat_getLast h
  have e2 : ns.getLastD 0 = ns.getLast h := by
    rw [List.getLastD_eq_getLast?, List.getLast?_eq_some_getLast h]
    rfl
  rw [e2]
  have e3 : natV ns = natV ns.dropLast ++ [.int ((ns.getLast h : Nat) : Int)] := by
    unfold natV
    rw [← List.map_singleton (f := fun n : Nat => V.int (n : Int)), ← List.map_append, e]
  rw [e3]
  exact atI_last _ _
theorem at_headN {ns : List Nat} (h : ns ≠ []) : atI (natV ns) 0 = some (.int ((ns.headD 0 : Nat) : Int)) := by
  cases ns with
  | nil => exact absurd rfl h
  | cons x r => exact atI_nat (j := 0) rfl
theorem over_bound {at_ la st m' len V G : Nat} (h1 : la + 1 ≤ at_ + len * V) (h2 : st ≤ len * V + G) (hl : 1 ≤ len) : la + m' * st + 1 ≤ at_ + (m' + 1) * len * (V + G) := by
  have e1 : m' * st ≤ m' * (len * V) + m' * G := by
    rw [← Nat.mul_add]
    exact Nat.mul_le_mul_left _ h2
  have e2 : (m' + 1) * len * (V + G) = m' * (len * V) + len * V + (m' + 1) * len * G := by
    rw [Nat.mul_add, Nat.mul_assoc (m' + 1) len V, Nat.add_mul m' 1 (len * V), Nat.one_mul]
  have e3 : m' * G ≤ (m' + 1) * len * G := Nat.mul_le_mul_right _ (Nat.le_trans (Nat.le_succ _) (Nat.le_mul_of_pos_right _ hl))
  omega
theorem momsL_le {t : Tr} : ∀ {ts : List Tr}, t ∈ ts → t.moms.length ≤ (momsL ts).length
  | x :: r, h => by
    rw [momsL, List.length_append]
    rcases List.mem_cons.mp h with rfl | h
    · omega
    · have := momsL_le h
      omega
mutual
theorem pcs_le : ∀ {t : Tr}, t.ok → t.pcs + 1 ≤ 2 * t.moms.length
  | .at n, _ => by
    unfold Tr.pcs Tr.moms
    exact Nat.le_refl _
  | .ov ps m s, h => by
    have f := ov_facts h
    have h1 := pcsL_le f.2.2.2.2.2.2
    have h2 := len_moms f.2.2.2.2.2.2
    have h3 : 1 ≤ ps.length := List.length_pos_iff.mpr f.1
    unfold Tr.pcs Tr.moms
    rw [overN_len]
    have h4 : 2 * (momsL ps).length ≤ m * (momsL ps).length := Nat.mul_le_mul_right _ f.2.1
    omega
theorem pcsL_le : ∀ {ts : List Tr}, okL_ ts → pcsL ts ≤ 2 * (momsL ts).length
  | [], _ => Nat.zero_le _
  | t :: ts, h => by
    unfold okL_ at h
    have h1 := pcs_le h.1
    have h2 := pcsL_le h.2
    rw [pcsL, momsL, List.length_append]
    omega
end
end
section
theorem okL_app : ∀ {a b : List Tr}, okL_ a → okL_ b → okL_ (a ++ b)
  | [], b, _, h => h
  | t :: a, b, h1, h2 => by
    unfold okL_ at h1
    show okL_ (t :: (a ++ b))
    unfold okL_
    exact ⟨h1.1, okL_app h1.2 h2⟩
theorem nestL_app (a b : List Tr) : nestL (a ++ b) = max (nestL a) (nestL b) := by
  induction a with
  | nil => simp [nestL]
  | cons t a ih => simp [nestL, ih, Nat.max_assoc]
theorem okL_one {t : Tr} (h : t.ok) : okL_ [t] := by
  unfold okL_
  exact ⟨h, by unfold okL_; trivial⟩
theorem nestL_one (t : Tr) : nestL [t] = t.nest := by simp [nestL]
theorem pcsL_one (t : Tr) : pcsL [t] = t.pcs := by simp [pcsL]
theorem at_ok (n : Nat) : (Tr.at n).ok := by
  unfold Tr.ok
  trivial
theorem at_moms (n : Nat) : (Tr.at n).moms = [n] := by rw [Tr.moms]
theorem at_nest (n : Nat) : (Tr.at n).nest = 0 := by rw [Tr.nest]
theorem momsL_one (t : Tr) : momsL [t] = t.moms := by simp [momsL]
end
section
def Cuts (ns : List Nat) (pap : List (List Int)) (b s : Nat) (ts : List Tr) : Prop := okL_ ts ∧ momsL ts = seg ns b s ∧ (s = 0 → ts = []) ∧ (1 ≤ s → (pcsL ts : Int) = pg pap b (s - 1)) ∧ (1 ≤ s → 2 ^ nestL ts ≤ s)
theorem seg_sorted {ns : List Nat} (h : ns.Pairwise (· < ·)) (b s : Nat) : (seg ns b s).Pairwise (· < ·) := by
  unfold seg
  exact (h.sublist (List.drop_sublist _ _)).sublist (List.take_sublist _ _)
theorem gN_lt {ns : List Nat} (h : ns.Pairwise (· < ·)) {i j : Nat} (hij : i < j) (hj : j < ns.length) : gN ns i < gN ns j := by
  unfold gN
  rw [List.getD_eq_getElem?_getD, List.getD_eq_getElem?_getD, List.getElem?_eq_getElem (by omega), List.getElem?_eq_getElem hj]
  exact List.pairwise_iff_getElem.mp h i j (by omega) hj hij
theorem seg_head {ns : List Nat} {b s : Nat} (h : b + s ≤ ns.length) (hs : 1 ≤ s) : (seg ns b s).headD 0 = gN ns b := by
  have e := seg_get h (show 0 < s by omega)
  rw [List.headD_eq_head?_getD, List.head?_eq_getElem?, e]
  rfl
theorem seg_last {ns : List Nat} {b s : Nat} (h : b + s ≤ ns.length) (hs : 1 ≤ s) : (seg ns b s).getLastD 0 = gN ns (b + (s - 1)) := by
  have e := seg_get h (show s - 1 < s by omega)
  rw [List.getLastD_eq_getLast?, List.getLast?_eq_getElem?, seg_len h, e]
  rfl
/-- one short for a stretch that is cut nowhere -/
def CutO (ns : List Nat) (pap : List (List Int)) (b s : Nat) (t : Tr) : Prop := t.ok ∧ t.moms = seg ns b s ∧ (t.pcs : Int) = pg pap b (s - 1) ∧ 2 ^ t.nest ≤ s
theorem cut_at {ns : List Nat} {pap : List (List Int)} (h : Good ns pap) {b : Nat} (hb : b < ns.length) : CutO ns pap b 1 (.at (gN ns b)) := by
  refine ⟨at_ok _, by rw [at_moms, seg_one hb], ?_, by rw [at_nest]; decide⟩
  rw [good_one h hb]
  simp [Tr.pcs]
theorem cut_ov {ns : List Nat} {pap : List (List Int)} (h : Good ns pap) (hw : ns.Pairwise (· < ·)) {b s p : Nat} (hb : b + s ≤ ns.length) (hl : ns.length ≤ 1440) (hp : p ∈ firstP ns b s) (e : pg pap b (p - 1) = pg pap b (s - 1) - 1) {ts : List Tr} (ht : Cuts ns pap b p ts) : CutO ns pap b s (.ov ts (s / p) (gN ns (b + p) - gN ns b)) := by
  obtain ⟨p1, p2, p3, p4⟩ := firstP_lt hp
  obtain ⟨t1, t2, _, t4, t5⟩ := ht
  have gl := gN_lt hw (show b < b + p by omega) (by omega)
  have gl2 : gN ns (b + (p - 1)) < gN ns (b + p) := gN_lt hw (by omega) (by omega)
  have sm : s / p * p = s := Nat.div_mul_cancel (Nat.dvd_of_mod_eq_zero p3)
  have m2 : 2 ≤ s / p := by
    by_cases c : 2 ≤ s / p
    · exact c
    · have : s / p * p ≤ 1 * p := Nat.mul_le_mul_right _ (by omega)
      omega
  have sl := seg_len (show b + p ≤ ns.length by omega)
  have tne : ts ≠ [] := fun z => by
    rw [z] at t2
    have : (seg ns b p).length = 0 := by rw [← t2]; simp [momsL]
    omega
  refine ⟨?_, ?_, ?_, ?_⟩
  · unfold Tr.ok
    refine ⟨tne, m2, by omega, by rw [t2, sl, sm]; omega, ?_, by rw [t2]; exact seg_sorted hw _ _, t1⟩
    rw [t2, seg_last (by omega) p1, seg_head (by omega) p1]
    omega
  · have := over_seg p4 (show gN ns (b + p) = gN ns b + (gN ns (b + p) - gN ns b) by omega) p1 hb (s / p) (by omega)
    rw [sm] at this
    rw [Tr.moms, t2, this]
  · have := t4 p1
    have e2 : (Tr.ov ts (s / p) (gN ns (b + p) - gN ns b)).pcs = 1 + pcsL ts := by rw [Tr.pcs]
    rw [e2]
    omega
  · have := t5 p1
    have e2 : (Tr.ov ts (s / p) (gN ns (b + p) - gN ns b)).nest = 1 + nestL ts := by rw [Tr.nest]
    rw [e2, Nat.pow_add]
    have : 2 * p ≤ s / p * p := Nat.mul_le_mul_right _ m2
    omega
/-- what is found so far, of a stretch from b on; what is left -/
def Left (ns : List Nat) (pap : List (List Int)) (b s b' s' : Nat) (ts : List Tr) : Prop := b' + s' = b + s ∧ b ≤ b' ∧ okL_ ts ∧ momsL ts = seg ns b (b' - b) ∧ (s' = s → ts = []) ∧ (1 ≤ s → (pcsL ts : Int) + (if s' = 0 then 0 else pg pap b' (s' - 1)) = pg pap b (s - 1)) ∧ (1 ≤ s → 2 ^ nestL ts ≤ s)
theorem left_zero (ns : List Nat) (pap : List (List Int)) (b s : Nat) : Left ns pap b s b s [] := by
  refine ⟨rfl, Nat.le_refl _, ?_, ?_, fun _ => rfl, fun h => ?_, fun h => ?_⟩
  · unfold okL_
    trivial
  · unfold seg
    simp [momsL]
  · rw [if_neg (by omega)]
    simp [pcsL]
  · simp [nestL]
    omega
theorem left_end {ns : List Nat} {pap : List (List Int)} {b s b' : Nat} {ts : List Tr} (h : Left ns pap b s b' 0 ts) : Cuts ns pap b s ts := by
  obtain ⟨h1, h2, h3, h4, h5, h6, h7⟩ := h
  refine ⟨h3, by rw [h4, show b' - b = s by omega], fun z => h5 z.symm, fun hs => ?_, h7⟩
  have := h6 hs
  rw [if_pos rfl] at this
  omega
theorem left_step {ns : List Nat} {pap : List (List Int)} {b s b' s' f : Nat} {ts : List Tr} {t : Tr} (h : Left ns pap b s b' s' ts) (hs : 1 ≤ s') (f1 : 1 ≤ f) (f2 : f ≤ s') (fe : f < s' → pg pap b' (f - 1) + pg pap (b' + f) (s' - f - 1) = pg pap b' (s' - 1)) (ht : CutO ns pap b' f t) : Left ns pap b s (b' + f) (s' - f) (ts ++ [t]) := by
  obtain ⟨h1, h2, h3, h4, h5, h6, h7⟩ := h
  obtain ⟨k1, k2, k3, k4⟩ := ht
  refine ⟨by omega, by omega, okL_app h3 (okL_one k1), ?_, fun z => by omega, fun hs1 => ?_, fun hs1 => ?_⟩
  · rw [momsL_app, momsL_one, h4, k2, ← sg_app (ns := ns) (b := b) (c := b' - b) (s := b' + f - b) (by omega)]
    rw [show b + (b' - b) = b' by omega, show b' + f - b - (b' - b) = f by omega]
  · have := h6 hs1
    rw [if_neg (by omega)] at this
    rw [pcsL_app, pcsL_one]
    by_cases c : f < s'
    · have := fe c
      rw [if_neg (by omega)]
      omega
    · have e : f = s' := by omega
      rw [if_pos (by omega)]
      subst e
      omega
  · have := h7 hs1
    rw [nestL_app, nestL_one]
    rcases Nat.le_total (nestL ts) t.nest with c | c
    · rw [Nat.max_eq_right c]
      omega
    · rw [Nat.max_eq_left c]
      exact this
theorem nest5 {n s : Nat} (h : 2 ^ n ≤ s) (hs : s ≤ 255) : n ≤ 7 := by
  by_cases c : n ≤ 7
  · exact c
  · have : 2 ^ 8 ≤ 2 ^ n := Nat.pow_le_pow_right (by decide) (by omega)
    omega
def sp_short_of (K : PySem.W.Frag) (d : Nat) : Sp := fun vs H Q _ => ∃ (r p : Addr) (ns : List Nat) (pap : List (List Int)) (b s : Nat), vs = [.ref r, .ref p, .int (b : Nat), .int (s : Nat)] ∧ SqL K H r (natV ns) ∧ PapAt K H p pap ∧ Good ns pap ∧ ns.Pairwise (· < ·) ∧ 1 ≤ s ∧ s < 2 ^ d ∧ b + s ≤ ns.length ∧ ns.length ≤ 40 ∧ NoCut pap b s ∧ ∀ (a : Addr) (t : Tr) H', Ex H H' → H a = none → ShAt K H' t a → CutO ns pap b s t → Q (.ref a) H'
def sp_shorts_of (K : PySem.W.Frag) (d : Nat) : Sp := fun vs H Q _ => ∃ (r p : Addr) (ns : List Nat) (pap : List (List Int)) (b s : Nat), vs = [.ref r, .ref p, .int (b : Nat), .int (s : Nat)] ∧ SqL K H r (natV ns) ∧ PapAt K H p pap ∧ Good ns pap ∧ ns.Pairwise (· < ·) ∧ s < 2 ^ d ∧ b + s ≤ ns.length ∧ ns.length ≤ 40 ∧ ∀ (f : Addr) (as : List Addr) (ts : List Tr) H', Ex H H' → H f = none → H' f = some (.lst (as.map V.ref)) → ShsAt K H' ts as → Cuts ns pap b s ts → Q (.ref f) H'
end
section
theorem fb_shorts_of {P : Program} {w : World} {K : PySem.W.Frag} {mg : Str → Option Value} {base : Heap} (T : Env K mg) {d L : Nat} (hL : 70 ≤ L) (r_short_of : Fc P w K mg base L (He.ga K "short_of") [] (sp_short_of K d)) : ∃ fd, FunD K "shorts_of" "shorts_of" (defArgs s_shorts_of) (defBody s_shorts_of) (defScope s_shorts_of) [] [] (He.ga K "shorts_of") fd ∧ Fb P w K mg base (L + 1) (He.ga K "shorts_of") fd ["row", "paper", "begin", "size"] (sp_shorts_of K (d)) := by
  obtain ⟨fd, F⟩ := T.f_shorts_of
  refine ⟨fd, F, fb_of F sc_shorts_of (fun vs H Q E h => ?_) (fun cdv A outer s H vs Q E hr h => ?_)⟩
  · obtain ⟨r, p, ns, pap, b, s, rfl, _⟩ := h
    rfl
  · obtain ⟨r, p, ns, pap, b, s, rfl, hw, hP, hG, pw, s2, hbs, hl, q⟩ := h
    refine ⟨_, (pss_cons (ps_set (i := 4) sc_shorts_of.nd rfl (Or.inl rfl) (pe_lst pa_nil))
      (pss_cons (ps_while (passes_of rfl) (pt_cmpR op_gt (pv 3) pe_int (nomark _))
      (pss_cons (ps_set (i := 5) sc_shorts_of.nd rfl (Or.inl rfl) (c_call (ok_first_size T) (hr.mono (by omega)) T.g_first_size T.k_first_size takes0 (pa_cons (pv 1) (pa_cons (pv 2) (pa_cons (pv 3) pa_nil)))))
      (pss_cons (ps_expr (pe_bm PySem.F.plainAttrs_list PySem.F.slot_list_append PySem.F.type_list_append mt_append (pv 4) (pa_cons (c_call r_short_of (hr.mono (by omega)) T.g_short_of T.k_short_of takes0 (pa_cons (pv 0) (pa_cons (pv 1) (pa_cons (pv 2) (pa_cons (pv 5) pa_nil))))) pa_nil)))
      (pss_cons (ps_aug (i := 2) sc_shorts_of.nd rfl (Or.inl rfl) (pv 5) ip_add)
      (pss_one (ps_aug (i := 3) sc_shorts_of.nd rfl (Or.inl rfl) (pv 5) ip_sub))))))
      (pss_one (ps_ret (pv 4))))), ?_⟩
    refine ⟨by show 0 ≤ sizeLine; decide, fun f nf => ?_⟩
    have X1 := ex_new (o := .lst []) nf
    have hf1 : upd H f (.lst []) f = some (.lst (([] : List Addr).map V.ref)) := upd_same
    generalize upd H f (.lst []) = H1 at X1 hf1 ⊢
    have hsh : ShsAt K H1 [] [] := by
      unfold ShsAt
      rfl
    refine ⟨fun m σ G => ∃ (b' : Nat) (as : List Addr) (ts : List Tr) (v : Option V), Ex H G ∧ G f = some (.lst (as.map V.ref)) ∧ ShsAt K G ts as ∧ Left ns pap b s b' m ts ∧ σ = [some (.ref r), some (.ref p), some (.int (b' : Nat)), some (.int (m : Nat)), some (.ref f), v], ⟨s, b, [], [], _, X1, hf1, hsh, left_zero _ _ _ _, rfl⟩, ?_⟩
    rintro m σ G ⟨b', as, ts, v, X2, hf2, hA, hL, rfl⟩
    refine ⟨_, rfl, _, _, rfl, rfl, _, rfl, ?_⟩
    by_cases c : 0 < m
    · refine ifP (by omega) ?_
      have hL1 := hL.1
      have hL2 := hL.2.1
      have lts := len_moms hL.2.2.1
      rw [hL.2.2.2.1, seg_len (by omega)] at lts
      have la := hA.len
      refine ⟨fun σ G => ∃ (m' b' : Nat) (as : List Addr) (ts : List Tr) (v : Option V), m' < m ∧ Ex H G ∧ G f = some (.lst (as.map V.ref)) ∧ ShsAt K G ts as ∧ Left ns pap b s b' m' ts ∧ σ = [some (.ref r), some (.ref p), some (.int (b' : Nat)), some (.int (m' : Nat)), some (.ref f), v], ?_, ?_⟩
      · rintro σ' H' ⟨m', b2, as2, ts2, v2, mm, k1, k2, k3, k4, k5⟩
        exact ⟨m', mm, b2, as2, ts2, v2, k1, k2, k3, k4, k5⟩
      refine ⟨_, rfl, _, rfl, _, rfl, p, ns, pap, b', m, rfl, hP.mono X2, hG, c, by omega, by omega, fun fs f1 f2 fN fe => ?_⟩
      refine ⟨_, rfl, .inl ⟨rfl, _, sq_lst hf2⟩, _, rfl, _, rfl, _, rfl, _, rfl, r, p, ns, pap, b', fs, rfl, ex_sql X2 hw, hP.mono X2, hG, pw, f1, by omega, by omega, hl, fN, fun a t H3 X3 na hS hC => ?_⟩
      have hf3 := X3 _ _ hf2
      have hz : (as.map V.ref).length < sizeLine := sz_lt (by rw [List.length_map]; omega)
      refine ⟨_, _, _, rfl, rfl, hf3, hz, ?_⟩
      have hA3 := (hA.mono X3).oth (d := f) (H' := upd H3 f (.lst (as.map V.ref ++ [.ref a]))) (fun b o nb e => by rw [upd_ne nb]; exact e) (fun ob ho => by rw [hf3] at ho; cases ho; exact ⟨_, rfl⟩)
      have af : a ≠ f := fun z => by rw [z, hf2] at na; cases na
      have hS3 := hS.oth (d := f) (H' := upd H3 f (.lst (as.map V.ref ++ [.ref a]))) (fun b o nb e => by rw [upd_ne nb]; exact e) (fun ob ho => by rw [hf3] at ho; cases ho; exact ⟨_, rfl⟩)
      have hst := left_step hL c f1 f2 fe hC
      refine ⟨_, rfl, _, rfl, _, _, rfl, rfl, _, rfl, _, rfl, _, _, rfl, rfl, ?_⟩
      have e1 : ((b' : Nat) : Int) + ((fs : Nat) : Int) = ((b' + fs : Nat) : Int) := by omega
      have e2 : ((m : Nat) : Int) - ((fs : Nat) : Int) = ((m - fs : Nat) : Int) := by omega
      refine ⟨m - fs, b' + fs, as ++ [a], ts ++ [t], some (.int (fs : Nat)), by omega, ex_mut (X2.trans X3) nf, by rw [upd_same, List.map_append]; rfl, hA3.snoc hS3, hst, ?_⟩
      rw [← e1, ← e2]
      rfl
    · refine ifN (by omega) ?_
      have m0 : m = 0 := by omega
      subst m0
      exact ⟨_, rfl, q f as ts G X2 nf hf2 hA (left_end hL)⟩
theorem ok_shorts_of {P : Program} {w : World} {K : PySem.W.Frag} {mg : Str → Option Value} {base : Heap} (T : Env K mg) {d L : Nat} (hL : 70 ≤ L) (r_short_of : Fc P w K mg base L (He.ga K "short_of") [] (sp_short_of K d)) : Fc P w K mg base (L + 1) (He.ga K "shorts_of") [] (sp_shorts_of K (d)) := by
  obtain ⟨fd, D, F⟩ := fb_shorts_of T hL r_short_of
  exact F.all (D.bindsN fun _ _ _ _ _ _ us hl => match us, hl with | [_, _, _, _], _ => rfl)
end
section
theorem fb_short_of {P : Program} {w : World} {K : PySem.W.Frag} {mg : Str → Option Value} {base : Heap} (T : Env K mg) {d L : Nat} (hL : 70 ≤ L) (r_short_of : Fc P w K mg base L (He.ga K "short_of") [] (sp_short_of K d)) : ∃ fd, FunD K "short_of" "short_of" (defArgs s_short_of) (defBody s_short_of) (defScope s_short_of) [] [] (He.ga K "short_of") fd ∧ Fb P w K mg base (L + 2) (He.ga K "short_of") fd ["row", "paper", "begin", "size"] (sp_short_of K (d + 1)) := by
  obtain ⟨fd, F⟩ := T.f_short_of
  refine ⟨fd, F, fb_of F sc_short_of (fun vs H Q E h => ?_) (fun cdv A outer s H vs Q E hr h => ?_)⟩
  · obtain ⟨r, p, ns, pap, b, s, rfl, _⟩ := h
    rfl
  · obtain ⟨r, p, ns, pap, b, s, rfl, hw, hP, hG, pw, s1, s2, hbs, hl, hN, q⟩ := h
    refine ⟨_, (pss_cons (ps_if (pt_cmpR op_eq (pv 3) pe_int (nomark _))
      (pss_one (ps_ret (c_make T.mk_At (ok_At_init T) (hr.mono (by omega)) T.g_At takes0 (pa_cons (pe_ix ix_list (pv 0) (pv 2) (fun _ _ => rfl)) pa_nil))))
      pss_nil)
      (pss_cons (ps_set (i := 4) sc_short_of.nd rfl (Or.inl rfl) (c_call (ok_over_part T) (hr.mono (by omega)) T.g_over_part T.k_over_part takes0 (pa_cons (pv 0) (pa_cons (pv 1) (pa_cons (pv 2) (pa_cons (pv 3) pa_nil))))))
      (pss_one (ps_ret (c_make T.mk_Over (ok_Over_init T) (hr.mono (by omega)) T.g_Over takes0 (pa_cons (c_call (ok_shorts_of T hL r_short_of) (hr.mono (by omega)) T.g_shorts_of T.k_shorts_of takes0 (pa_cons (pv 0) (pa_cons (pv 1) (pa_cons (pv 2) (pa_cons (pv 4) pa_nil))))) (pa_cons (pe_op op_fdiv (pv 3) (pv 4)) (pa_cons (pe_op op_sub (pe_ix ix_list (pv 0) (pe_op op_add (pv 2) (pv 4)) (fun _ _ => rfl)) (pe_ix ix_list (pv 0) (pv 2) (fun _ _ => rfl))) pa_nil)))))))), ?_⟩
    refine ⟨_, rfl, rfl, _, rfl, ?_⟩
    rw [vint_dec]
    refine ite2 (fun c => ?_) (fun c => ?_)
    · have s1' : s = 1 := by
        have := of_decide_eq_true c
        omega
      subst s1'
      have hat : atI (natV ns) (b : Int) = some (.int (gN ns b : Nat)) := natV_at rfl (by omega)
      refine ⟨_, rfl, _, rfl, _, _, _, _, rfl, rfl, hw, hat, fun x dx nx nd ne => at_new nx nd ne fun H2 X2 hA => ⟨rfl, ?_⟩⟩
      exact q x (.at (gN ns b)) H2 X2 nx (by unfold ShAt; exact hA) (cut_at hG (by omega))
    · have s2' : 2 ≤ s := by
        by_cases z : s = 1
        · exact absurd (decide_eq_true (by omega)) c
        · omega
      refine ⟨_, rfl, _, rfl, _, rfl, _, rfl, r, p, ns, pap, b, s, rfl, hw, hP, hG, s2', hbs, by omega, hN, fun m H2 hm em X2 => ?_⟩
      have m1 := firstP_lt hm
      have hw2 := ex_sql X2 hw
      have p2 : 2 ^ (d + 1) = 2 ^ d * 2 := Nat.pow_succ _ _
      have m2 : 2 * m ≤ s := by
        obtain ⟨k, hk⟩ := Nat.dvd_of_mod_eq_zero m1.2.2.1
        have : 2 ≤ k := by
          by_cases z : 2 ≤ k
          · exact z
          · have : m * k ≤ m * 1 := Nat.mul_le_mul_left _ (by omega)
            omega
        have : m * 2 ≤ m * k := Nat.mul_le_mul_left _ this
        omega
      refine ⟨_, rfl, _, rfl, _, rfl, _, rfl, r, p, ns, pap, b, m, rfl, hw2, hP.mono X2, hG, pw, by omega, by omega, hl, fun f as ts H3 X3 nf hf hA hC => ?_⟩
      have hw3 := ex_sql X3 hw2
      have hat1 : atI (natV ns) ((b : Int) + (m : Int)) = some (.int (gN ns (b + m) : Nat)) := natV_at (by omega) (by omega)
      have hat2 : atI (natV ns) (b : Int) = some (.int (gN ns b : Nat)) := natV_at rfl (by omega)
      have gl := gN_lt pw (show b < b + m by omega) (by omega)
      have hO := cut_ov hG pw hbs (by omega) hm em hC
      refine ⟨_, rfl, _, rfl, _, _, rfl, rfl, ⟨(by omega), (by omega)⟩, _, rfl, _, rfl, _, rfl, _, _, rfl, rfl, _, _, _, _, rfl, rfl, hw3, hat1, _, rfl, _, rfl, _, _, _, _, rfl, rfl, hw3, hat2, _, _, rfl, rfl, ?_⟩
      try dsimp only [tNil]
      intro x dx nx nd ne
      have e1 : ((s : Nat) : Int) / ((m : Nat) : Int) = ((s / m : Nat) : Int) := (Int.natCast_ediv _ _).symm
      have e2 : ((gN ns (b + m) : Nat) : Int) - ((gN ns b : Nat) : Int) = ((gN ns (b + m) - gN ns b : Nat) : Int) := by omega
      rw [e1, e2]
      refine ⟨rfl, over_newT nx nd ne (.inl hf) hA hO.1 (by have := nest5 hO.2.2.2 (by omega); omega) fun H4 X4 hS => ⟨rfl, ?_⟩⟩
      exact q x _ H4 (X2.trans (X3.trans X4)) (ex_fresh (X2.trans X3) nx) hS hO
theorem ok_short_of {P : Program} {w : World} {K : PySem.W.Frag} {mg : Str → Option Value} {base : Heap} (T : Env K mg) {d L : Nat} (hL : 70 ≤ L) (r_short_of : Fc P w K mg base L (He.ga K "short_of") [] (sp_short_of K d)) : Fc P w K mg base (L + 2) (He.ga K "short_of") [] (sp_short_of K (d + 1)) := by
  obtain ⟨fd, D, F⟩ := fb_short_of T hL r_short_of
  exact F.all (D.bindsN fun _ _ _ _ _ _ us hl => match us, hl with | [_, _, _, _], _ => rfl)
theorem all_short_of {P : Program} {w : World} {K : PySem.W.Frag} {mg : Str → Option Value} {base : Heap} (T : Env K mg) : ∀ d, Fc P w K mg base (70 + 2 * d) (He.ga K "short_of") [] (sp_short_of K d)
  | 0 => fc_no fun vs H Q E h => by
    obtain ⟨r, p, ns, pap, b, s, _, _, _, _, _, h1, h2, _⟩ := h
    omega
  | d + 1 => ok_short_of T (Nat.le_add_right 70 _) (all_short_of T d)
end
section
theorem momList_nodup {xs : List V} {ns : List Nat} (h : some ns = momList xs) : ns.Nodup := by
  unfold momList at h
  split at h
  · rename_i c
    injection h with h
    rw [h]
    exact of_decide_eq_true (Bool.and_eq_true_iff.mp c).2
  · cases h
theorem MomG.nodup {K : PySem.W.Frag} {H : Hp} {x : V} {ns : List Nat} (h : MomG K H x (some ns)) : ns.Nodup := by
  rcases h with ⟨a, xs, _, _, _, _, h⟩ | ⟨_, h⟩
  · exact momList_nodup h
  · cases h
end
section
theorem mid_good (ns : List Nat) : ∀ i, i ≤ ns.length → ∃ pap, Shp ns.length i 0 pap ∧ Bd pap ∧ GdP ns pap
  | 0, _ => ⟨_, shp_zero _, bd_zero _, gd_zero _ _⟩
  | i + 1, hi => by
    obtain ⟨pap, h1, h2, h3⟩ := mid_good ns i (by omega)
    have inner : ∀ j, j + i ≤ ns.length → ∃ pap, Shp ns.length i j pap ∧ Bd pap ∧ GdP ns pap := by
      intro j
      induction j with
      | zero => exact fun _ => ⟨pap, h1, h2, h3⟩
      | succ j ih =>
        intro hj
        obtain ⟨p, k1, k2, k3⟩ := ih (by omega)
        have mb := most_bounds (ns := ns) k2 (shp_fits k1 (by omega)) (show 1 ≤ i + 1 by omega)
        exact ⟨_, shp_step k1 (by omega) (mostP ns p j (i + 1)), bd_step k1 (by omega) k2 mb.1 (by have := mb.2; omega), gd_step k1 (by omega) k3⟩
    obtain ⟨p, k1, k2, k3⟩ := inner (ns.length - i) (by omega)
    exact ⟨p, shp_next k1, k2, k3⟩
theorem good_exists (ns : List Nat) : ∃ pap, Good ns pap := mid_good ns ns.length (Nat.le_refl _)
noncomputable def goodOf (ns : List Nat) : List (List Int) := Classical.choose (good_exists ns)
theorem goodOf_good (ns : List Nat) : Good ns (goodOf ns) := Classical.choose_spec (good_exists ns)
/-- the fewest pieces -/
noncomputable def optN (ns : List Nat) : Nat := if ns = [] then 0 else (pg (goodOf ns) 0 (ns.length - 1)).toNat
theorem opt_pg {ns : List Nat} {pap : List (List Int)} (h : Good ns pap) (h0 : 1 ≤ ns.length) : (optN ns : Int) = pg pap 0 (ns.length - 1) := by
  rw [good_uniq h (goodOf_good ns)]
  have := good_bd (goodOf_good ns) (b := 0) (k := ns.length - 1) (by omega)
  unfold optN
  rw [if_neg (fun z => by rw [z] at h0; exact absurd h0 (by decide))]
  omega
theorem opt_nil : optN [] = 0 := if_pos rfl
theorem cuts_opt {ns : List Nat} {pap : List (List Int)} {ts : List Tr} (h : Good ns pap) (c : Cuts ns pap 0 ns.length ts) : pcsL ts = optN ns := by
  by_cases h0 : 1 ≤ ns.length
  · have := c.2.2.2.1 h0
    rw [← opt_pg h h0] at this
    omega
  · have e : ns = [] := List.length_eq_zero_iff.mp (by omega)
    subst e
    rw [c.2.2.1 rfl, opt_nil]
    rfl
end
section
def sp_shortest (K : PySem.W.Frag) : Sp := fun vs H Q E => ∃ x r, vs = [x] ∧ MomG K H x r ∧ (∀ ns, r = some ns → ns.length ≤ 40) ∧ (∀ ns, r = some ns → ∀ a ts pap H', Ex H H' → H a = none → SprAt K H' a ts → HeldN K (fun b => H b = none) H' a → Good (srtN ns) pap → Cuts (srtN ns) pap 0 ns.length ts → Q (.ref a) H') ∧ (r = none → ∀ H', Ex H H' → E (.ref (He.ga K "NoPiece")) none H')
theorem fb_shortest {P : Program} {w : World} {K : PySem.W.Frag} {mg : Str → Option Value} {base : Heap} (T : Env K mg) : ∃ fd, FunD K "shortest" "shortest" (defArgs s_shortest) (defBody s_shortest) (defScope s_shortest) [] [] (He.ga K "shortest") fd ∧ Fb P w K mg base 90 (He.ga K "shortest") fd ["moments"] (sp_shortest K) := by
  obtain ⟨fd, F⟩ := T.f_shortest
  refine ⟨fd, F, fb_of F sc_shortest (fun vs H Q E h => ?_) (fun cdv A outer s H vs Q E hr h => ?_)⟩
  · obtain ⟨x, r, rfl, _⟩ := h
    rfl
  · obtain ⟨x, r, rfl, hx, hl, q, qe⟩ := h
    refine ⟨_, (pss_cons (ps_set (i := 1) sc_shortest.nd rfl (Or.inl rfl) (c_call (ok_in_rising_order T) (hr.mono (by decide)) T.g_in_rising_order T.k_in_rising_order (takes_of rfl rfl rfl rfl) (pa_cons (pv 0) pa_nil)))
      (pss_one (ps_ret (c_make T.mk_Spread (ok_Spread_init T) (hr.mono (by decide)) T.g_Spread (takes_of rfl rfl rfl rfl) (pa_cons (c_call (ok_shorts_of T (Nat.le_add_right 70 _) (all_short_of T 6)) (hr.mono (by decide)) T.g_shorts_of T.k_shorts_of (takes_of rfl rfl rfl rfl) (pa_cons (pv 1) (pa_cons (c_call (ok_numbers_of T) (hr.mono (by decide)) T.g_numbers_of T.k_numbers_of (takes_of rfl rfl rfl rfl) (pa_cons (pv 1) pa_nil)) (pa_cons pe_int (pa_cons (pe_callB call_len (by rfl) T.n_len (by decide +kernel) (pa_cons (pv 1) pa_nil)) pa_nil))))) pa_nil))))), ?_⟩
    refine ⟨_, rfl, x, r, rfl, hx, fun ns er f H1 X1 nf hf => ?_, fun er H1 X1 => qe er H1 X1⟩
    have pw := srtN_lt (by rw [er] at hx; exact hx.nodup)
    have ll : (srtN ns).length ≤ 40 := by rw [srtN_len]; exact hl ns er
    have ll2 := srtN_len ns
    refine ⟨_, rfl, _, rfl, f, srtN ns, rfl, hf, ll, fun a pap as H2 X2 na hP hG => ?_⟩
    have hf2 := X2 _ _ hf
    refine ⟨_, rfl, _, _, rfl, .inl ⟨_, sq_lst hf2, rfl⟩, f, a, srtN ns, pap, 0, (srtN ns).length, by rw [natV_len]; rfl, sq_lst hf2, hP.at, hG, pw, by omega, by omega, ll, fun g bs ts H3 X3 ng hg hS hC => ?_⟩
    intro y dy ny ndy ney
    have hn : nestL ts ≤ 8 := by
      by_cases c : 1 ≤ (srtN ns).length
      · have := nest5 (hC.2.2.2.2 c) (by omega)
        omega
      · rw [hC.2.2.1 (by omega)]
        exact Nat.zero_le _
    have hm : momsL ts = srtN ns := by rw [hC.2.1, seg_all]
    have hb : sprB ts = true := by
      unfold sprB
      rw [ris_of hC.1 (by rw [hm]; exact pw), decide_eq_true (by rw [hm]; omega)]
      rfl
    refine spread_newH ny ndy ney (.inl hg) hS hn hC.1 hb fun H4 X4 hSp hHe => ⟨rfl, ?_⟩
    have X14 := X1.trans (X2.trans X3)
    exact q ns er y ts pap H4 (X14.trans X4) (ex_fresh X14 ny) hSp (fun dx kp hd e => ex_fresh X14 (hHe dx kp hd e)) hG (by rw [← ll2]; exact hC)
theorem ok_shortest {P : Program} {w : World} {K : PySem.W.Frag} {mg : Str → Option Value} {base : Heap} (T : Env K mg) : Fc P w K mg base 90 (He.ga K "shortest") [] (sp_shortest K ) := by
  obtain ⟨fd, D, F⟩ := fb_shortest T
  exact F.all (D.bindsN fun _ _ _ _ _ _ us hl => match us, hl with | [_], _ => rfl)
theorem ok_shortest_0_moments {P : Program} {w : World} {K : PySem.W.Frag} {mg : Str → Option Value} {base : Heap} (T : Env K mg) : Fc P w K mg base 90 (He.ga K "shortest") ["moments"] (fun vs H Q E => vs.length = 0 + (["moments"] : List Str).length ∧ sp_shortest K  (pick [.inl 0] vs []) H Q E) := by
  obtain ⟨fd, D, F⟩ := fb_shortest T
  exact Fb.names D F 0 ["moments"] (fun us => pick [.inl 0] us []) (fun r1 => pick_vals _ r1 .nil) (fun kV doc pm an cdv ct us ws h1 h2 => match us, ws, h1, h2 with | [], [_], _, _ => rfl)
end
section
/-- a pot: what is left of a cell's digits, and what mixes -/
def Pot (H : Hp) (p : Addr) : Prop := ∃ a b : Int, H p = some (.lst [.int a, .int b]) ∧ 0 ≤ b ∧ b < 4294967296
def sp__law_pot (K : PySem.W.Frag) : Sp := fun vs H Q _ => ∃ (a : Addr) (ns : List Int) (k : Int), vs = [.ref a, .int k] ∧ SqL K H a (ns.map V.int) ∧ 0 ≤ k ∧ k < 1000 ∧ ∀ p H', H p = none → Pot H' p → (∀ b, b ≠ p → H' b = H b) → Q (.ref p) H'
theorem fb__law_pot {P : Program} {w : World} {K : PySem.W.Frag} {mg : Str → Option Value} {base : Heap} (T : Env K mg) : ∃ fd, FunD K "_law_pot" "_law_pot" (defArgs s__law_pot) (defBody s__law_pot) (defScope s__law_pot) [] [] (He.ga K "_law_pot") fd ∧ Fb P w K mg base 1 (He.ga K "_law_pot") fd ["_law_script", "_law_k"] (sp__law_pot K) := by
  obtain ⟨fd, F⟩ := T.f__law_pot
  refine ⟨fd, F, fb_of F sc__law_pot (fun vs H Q E h => ?_) (fun cdv A outer s H vs Q E hr h => ?_)⟩
  · obtain ⟨a, ns, k, rfl, _⟩ := h
    rfl
  · obtain ⟨a, ns, k, rfl, hS, k0, k1, q⟩ := h
    refine ⟨_, (Evl.pss_cut (ps_set (i := 2) sc__law_pot.nd rfl (Or.inl rfl) (pe_ifExp (pt_cmpR op_lt (pv 1) (pe_callB call_len (by rfl) T.n_len (by decide +kernel) (pa_cons (pv 0) pa_nil)) (nomark _)) (pe_ix ix_list (pv 0) (pv 1) (fun _ _ => rfl)) pe_int))
      (pss_one (ps_ret (pe_lst (pa_cons (pe_callB (call_max2 rfl) (by rfl) T.n_max (by decide +kernel) (pa_cons pe_int (pa_cons (pe_op op_sub (pv 2) (pe_op op_pow pe_int pe_int)) pa_nil))) (pa_cons (pe_op op_add (pe_op op_mod (pe_op op_pow (pe_op op_add (pe_op op_mod (pv 2) pe_int) (pe_op op_mul pe_int (pe_op op_add (pv 1) pe_int))) pe_int) pe_int) pe_int) pa_nil)))))), ?_⟩
    refine ⟨fun σ' H' => H' = H ∧ ∃ cell : Int, σ' = [some (.ref a), some (.int k), some (.int cell)], ?_, ?_⟩
    · refine ⟨_, rfl, _, rfl, _, _, rfl, .inl ⟨_, hS, rfl⟩, _, _, rfl, rfl, _, rfl, ite2 (fun c => ?_) (fun c => ?_)⟩
      · have c2 : k < ((ns.map V.int).length : Int) := of_decide_eq_true c
        rw [List.length_map] at c2
        obtain ⟨i, rfl⟩ := Int.eq_ofNat_of_zero_le k0
        have hi : i < ns.length := Int.ofNat_lt.mp c2
        refine ⟨_, rfl, _, rfl, a, _, _, .int ns[i], rfl, rfl, hS, ?_, rfl, ns[i], rfl⟩
        exact atI_nat (by rw [List.getElem?_map, List.getElem?_eq_getElem hi]; rfl)
      · exact ⟨rfl, 0, rfl⟩
    · rintro σ' H' ⟨rfl, cell, rfl⟩
      have m1 := Int.emod_nonneg cell (show (2147483629 : Int) ≠ 0 by decide)
      have m2 := Int.emod_lt_of_pos cell (show (0 : Int) < 2147483629 by decide)
      refine ⟨_, rfl, _, _, rfl, rfl, ⟨(by decide), ⟨(by decide), (by decide)⟩⟩, _, _, rfl, rfl, _, _, rfl, _, rfl, _, _, rfl, rfl, (by omega), _, rfl, _, _, rfl, rfl, _, _, rfl, rfl, (.inl ⟨(by decide), (by decide)⟩), _, _, rfl, rfl, _, _, rfl, rfl, ⟨(by decide), ⟨(by decide), (by omega)⟩⟩, _, _, rfl, rfl, (by omega), _, _, rfl, rfl, (by show 2 ≤ sizeLine; decide), ?_⟩
      intro p hp
      exact q p _ hp ⟨_, _, upd_same, Int.add_nonneg (Int.emod_nonneg _ (by decide)) (by decide), by have := Int.emod_lt_of_pos ((cell % 2147483629 + 40503 * (k + 1)) ^ Int.toNat 3) (show (0 : Int) < 2147483563 by decide); omega⟩ fun b n => upd_ne n
theorem ok__law_pot {P : Program} {w : World} {K : PySem.W.Frag} {mg : Str → Option Value} {base : Heap} (T : Env K mg) : Fc P w K mg base 1 (He.ga K "_law_pot") [] (sp__law_pot K ) := by
  obtain ⟨fd, D, F⟩ := fb__law_pot T
  exact F.all (D.bindsN fun _ _ _ _ _ _ us hl => match us, hl with | [_, _], _ => rfl)
end
section
/-- the pot at p is drawn from: everything else stays -/
def PotOn (H H' : Hp) (p : Addr) : Prop := Pot H' p ∧ ∀ b o, b ≠ p → H b = some o → H' b = some o
theorem PotOn.refl {H : Hp} {p : Addr} (h : Pot H p) : PotOn H H p := ⟨h, fun _ _ _ e => e⟩
theorem PotOn.trans {H H1 H2 : Hp} {p : Addr} (a : PotOn H H1 p) (b : PotOn H1 H2 p) : PotOn H H2 p := ⟨b.1, fun c o n e => b.2 c o n (a.2 c o n e)⟩
theorem pot_new {H H' : Hp} {p l : Addr} {o : HO} (P : PotOn H H' p) (n : H' l = none) : PotOn H (upd H' l o) p := by
  obtain ⟨⟨x, y, e, r⟩, k⟩ := P
  refine ⟨⟨x, y, by rw [upd_ne (ne_of_none e n)]; exact e, r⟩, fun b u nb h => ?_⟩
  rw [upd_ne (ne_of_none (k b u nb h) n)]
  exact k b u nb h
def sp__law_draw (K : PySem.W.Frag) : Sp := fun vs H Q _ => ∃ (p : Addr) (n : Int), vs = [.ref p, .int n] ∧ Pot H p ∧ 0 < n ∧ n.toNat < 10 ^ 200 ∧ ∀ (d : Int) H', 0 ≤ d → d < n → PotOn H H' p → Q (.int d) H'
theorem fb__law_draw {P : Program} {w : World} {K : PySem.W.Frag} {mg : Str → Option Value} {base : Heap} (T : Env K mg) : ∃ fd, FunD K "_law_draw" "_law_draw" (defArgs s__law_draw) (defBody s__law_draw) (defScope s__law_draw) [] [] (He.ga K "_law_draw") fd ∧ Fb P w K mg base 1 (He.ga K "_law_draw") fd ["_law_pot_here", "_law_size"] (sp__law_draw K) := by
  obtain ⟨fd, F⟩ := T.f__law_draw
  refine ⟨fd, F, fb_of F sc__law_draw (fun vs H Q E h => ?_) (fun cdv A outer s H vs Q E hr h => ?_)⟩
  · obtain ⟨p, n, rfl, _⟩ := h
    rfl
  · obtain ⟨p, n, rfl, ⟨a, b, hp, b0, b1⟩, n0, n1, q⟩ := h
    refine ⟨_, (pss_cons (ps_if (pt_cmpR op_gt (pe_ix ix_list (pv 0) pe_int (fun _ _ => rfl)) pe_int (nomark _))
      (pss_cons (ps_asg (pe_callB call_divmodW (by rfl) T.n_divmod (by decide +kernel) (pa_cons (pe_ix ix_list (pv 0) pe_int (fun _ _ => rfl)) (pa_cons (pv 1) pa_nil))) (pg_tup (by rfl) (pgs_cons (pg_sub (pv 0) pe_int set_list) (pgs_cons (pg_name (i := 2) sc__law_draw.nd rfl (Or.inl rfl)) pgs_nil))))
      (pss_one (ps_ret (pv 2))))
      pss_nil)
      (pss_cons (ps_asg (pe_op op_mod (pe_op op_add (pe_op op_mul (pe_ix ix_list (pv 0) pe_int (fun _ _ => rfl)) pe_int) pe_int) pe_int) (pg_sub (pv 0) pe_int set_list))
      (pss_one (ps_ret (pe_op op_mod (pe_op op_fdiv (pe_op op_mod (pe_op op_mul (pe_ix ix_list (pv 0) pe_int (fun _ _ => rfl)) (pe_ix ix_list (pv 0) pe_int (fun _ _ => rfl))) pe_int) pe_int) (pv 1)))))), ?_⟩
    refine ⟨_, rfl, p, _, _, .int a, rfl, rfl, sq_lst hp, rfl, _, _, rfl, rfl, _, rfl, ite2 (fun _ => ?_) (fun _ => ?_)⟩
    · refine ⟨_, rfl, p, _, _, .int a, rfl, rfl, sq_lst hp, rfl, _, rfl, a, n, rfl, ⟨n0, PyProof.noPylong_of_log2 (Nat.lt_trans (log_of (show n.natAbs < 10 ^ 200 by omega)) (by decide))⟩, fun t ht => ?_⟩
      have pt : p ≠ t := ne_of_none hp ht
      refine ⟨t, _, rfl, sq_tup upd_same, rfl, _, _, rfl, _, rfl, p, [.int a, .int b], 0, 0, rfl, rfl, (by rw [upd_ne pt]; exact hp), rfl, _, _, rfl, rfl, _, rfl, ?_⟩
      refine q _ _ (Int.emod_nonneg _ (by omega)) (Int.emod_lt_of_pos _ n0) ⟨⟨_, _, upd_same, b0, b1⟩, fun x o nx e => ?_⟩
      rw [upd_ne nx, upd_ne (ne_of_none e ht)]
      exact e
    · refine ⟨_, rfl, p, _, _, .int b, rfl, rfl, sq_lst hp, rfl, _, _, rfl, rfl, .inr (by decide), _, _, rfl, rfl, _, _, rfl, rfl, (by show (0 : Int) < 2147483629; decide), _, rfl, p, _, 1, 1, rfl, rfl, hp, rfl, ?_⟩
      have m1 := Int.emod_nonneg (b * 39373 + 7919) (show (2147483629 : Int) ≠ 0 by decide)
      have m2 := Int.emod_lt_of_pos (b * 39373 + 7919) (show (0 : Int) < 2147483629 by decide)
      refine ⟨_, rfl, p, _, _, .int ((b * 39373 + 7919) % 2147483629), rfl, rfl, sq_lst upd_same, rfl, _, rfl, p, _, _, .int ((b * 39373 + 7919) % 2147483629), rfl, rfl, sq_lst upd_same, rfl, _, _, rfl, rfl, .inl ⟨by omega, by omega⟩, _, _, rfl, rfl, (by show (0 : Int) < 2147483587; decide), _, _, rfl, rfl, ⟨by decide, by decide⟩, _, rfl, _, _, rfl, rfl, n0, ?_⟩
      refine q _ _ (Int.emod_nonneg _ (by omega)) (Int.emod_lt_of_pos _ n0) ⟨⟨_, _, upd_same, m1, by omega⟩, fun x o nx e => ?_⟩
      rw [upd_ne nx]
      exact e
theorem PotOn.ex {H0 H H' : Hp} {p : Addr} (e : Ex H0 H) (n : H0 p = none) (P : PotOn H H' p) : Ex H0 H' := fun b o h => P.2 b o (ne_of_none h n) (e b o h)
theorem pot_upd {H H' : Hp} {p l : Addr} {o : HO} (P : PotOn H H' p) (n : H l = none) (ne : l ≠ p) : PotOn H (upd H' l o) p := by
  obtain ⟨⟨x, y, e, r⟩, k⟩ := P
  refine ⟨⟨x, y, by rw [upd_ne (Ne.symm ne)]; exact e, r⟩, fun b u nb h => ?_⟩
  rw [upd_ne (ne_of_none h n)]
  exact k b u nb h
theorem PotOn.ex2 {H H1 H2 : Hp} {p : Addr} (P : PotOn H H1 p) (e : Ex H1 H2) : PotOn H H2 p := by
  obtain ⟨⟨x, y, h, r⟩, k⟩ := P
  exact ⟨⟨x, y, e _ _ h, r⟩, fun b u nb h => e _ _ (k b u nb h)⟩
theorem pot_ne {H H' : Hp} {p l : Addr} (P : PotOn H H' p) (n : H' l = none) : l ≠ p := fun z => by
  obtain ⟨_, _, e, _⟩ := P.1
  rw [z, e] at n
  cases n
theorem at_mem {xs : List V} {i : Int} (h0 : 0 ≤ i) (h1 : i < (xs.length : Nat)) : ∃ x, x ∈ xs ∧ atI xs i = some x := by
  obtain ⟨n, rfl⟩ := Int.eq_ofNat_of_zero_le h0
  have hn : n < xs.length := Int.ofNat_lt.mp h1
  exact ⟨xs[n], List.getElem_mem hn, atI_nat (List.getElem?_eq_getElem hn)⟩
theorem PotOn.fresh {H H' : Hp} {p b : Addr} (P : PotOn H H' p) (n : H' b = none) : H b = none := by
  cases e : H b with
  | none => rfl
  | some o =>
    by_cases hb : b = p
    · obtain ⟨_, _, e2, _⟩ := P.1
      rw [hb, e2] at n
      cases n
    · rw [P.2 b o hb e] at n
      cases n
theorem pot_mono {H H' : Hp} {p : Addr} (h : Pot H p) (e : Ex H H') : Pot H' p := by
  obtain ⟨x, y, h1, h2⟩ := h
  exact ⟨x, y, e _ _ h1, h2⟩
theorem ok__law_draw {P : Program} {w : World} {K : PySem.W.Frag} {mg : Str → Option Value} {base : Heap} (T : Env K mg) : Fc P w K mg base 1 (He.ga K "_law_draw") [] (sp__law_draw K ) := by
  obtain ⟨fd, D, F⟩ := fb__law_draw T
  exact F.all (D.bindsN fun _ _ _ _ _ _ us hl => match us, hl with | [_, _], _ => rfl)
end
section
def sp__law_gap (K : PySem.W.Frag) : Sp := fun vs H Q _ => ∃ p, vs = [.ref p] ∧ Pot H p ∧ ∀ (g : Nat) H', g < 10 ^ 50 → PotOn H H' p → Q (.int (g : Nat)) H'
theorem fb__law_gap {P : Program} {w : World} {K : PySem.W.Frag} {mg : Str → Option Value} {base : Heap} (T : Env K mg) : ∃ fd, FunD K "_law_gap" "_law_gap" (defArgs s__law_gap) (defBody s__law_gap) (defScope s__law_gap) [] [] (He.ga K "_law_gap") fd ∧ Fb P w K mg base 2 (He.ga K "_law_gap") fd ["_law_pot_here"] (sp__law_gap K) := by
  obtain ⟨fd, F⟩ := T.f__law_gap
  refine ⟨fd, F, fb_of F sc__law_gap (fun vs H Q E h => ?_) (fun cdv A outer s H vs Q E hr h => ?_)⟩
  · obtain ⟨p, rfl, _⟩ := h
    rfl
  · obtain ⟨p, rfl, hp, q⟩ := h
    refine ⟨_, (pss_cons (ps_set (i := 1) sc__law_gap.nd rfl (Or.inl rfl) (c_call (ok__law_draw T) (hr.mono (by decide)) T.g__law_draw T.k__law_draw takes0 (pa_cons (pv 0) (pa_cons pe_int pa_nil))))
      (pss_one (ps_ret (c_call (ok__law_draw T) (hr.mono (by decide)) T.g__law_draw T.k__law_draw takes0 (pa_cons (pv 0) (pa_cons (pe_ix ix_list (pe_lst (pa_cons pe_int (pa_cons pe_int (pa_cons pe_int (pa_cons pe_int (pa_cons pe_int (pa_cons pe_int (pa_cons pe_int (pa_cons (pe_op op_pow pe_int pe_int) pa_nil))))))))) (pv 1) (fun _ _ => rfl)) pa_nil)))))), ?_⟩
    refine ⟨_, rfl, p, 8, rfl, hp, by decide, by decide +kernel, fun d H1 d0 d1 P1 => ?_⟩
    refine ⟨_, rfl, _, _, rfl, rfl, ⟨(by decide), ⟨(by decide), (by decide)⟩⟩, (by decide), ?_⟩
    intro l nl
    have X2 := ex_new (o := .lst [.int 1, .int 1, .int 3, .int 30, .int 60, .int 60, .int 1440, .int (10 ^ 50)]) nl
    obtain ⟨x, hx, ex⟩ := at_mem (xs := [.int 1, .int 1, .int 3, .int 30, .int 60, .int 60, .int 1440, .int (10 ^ 50)]) d0 (by show d < 8; exact d1)
    have P2 := P1.ex2 X2
    refine ⟨_, rfl, l, _, _, x, rfl, rfl, sq_lst upd_same, ex, ?_⟩
    have hb : ∃ i : Int, x = .int i ∧ 0 < i ∧ i ≤ 10 ^ 50 := by
      simp only [List.mem_cons, List.not_mem_nil, or_false] at hx
      rcases hx with rfl | rfl | rfl | rfl | rfl | rfl | rfl | rfl <;> exact ⟨_, rfl, by decide +kernel, by decide +kernel⟩
    obtain ⟨i, rfl, i0, i1⟩ := hb
    refine ⟨p, i, rfl, P2.1, i0, by omega, fun g H3 g0 g1 P3 => ?_⟩
    obtain ⟨n, rfl⟩ := Int.eq_ofNat_of_zero_le g0
    exact q n H3 (by omega) (P2.trans P3)
theorem ok__law_gap {P : Program} {w : World} {K : PySem.W.Frag} {mg : Str → Option Value} {base : Heap} (T : Env K mg) : Fc P w K mg base 2 (He.ga K "_law_gap") [] (sp__law_gap K ) := by
  obtain ⟨fd, D, F⟩ := fb__law_gap T
  exact F.all (D.bindsN fun _ _ _ _ _ _ us hl => match us, hl with | [_], _ => rfl)
end
section
mutual
/-- at a what a law has drawn for a short, rows as lists, which stand at places that N tells -/
def LtAt (N : Addr → Prop) (H : Hp) : Tr → Addr → Prop
  | .at n, a => H a = some (.tup [.str "at", .int (n : Nat)])
  | .ov ps m s, a => ∃ r as, H a = some (.tup [.str "over", .ref r, .int (m : Nat), .int (s : Nat)]) ∧ N r ∧ H r = some (.lst (as.map V.ref)) ∧ LtsAt N H ps as
def LtsAt (N : Addr → Prop) (H : Hp) : List Tr → List Addr → Prop
  | [], as => as = []
  | t :: ts, as => ∃ a r, as = a :: r ∧ LtAt N H t a ∧ LtsAt N H ts r
end
/-- what such a thing stands in: tuples, lists of things -/
def keepsT (N M : Addr → Prop) (H H' : Hp) : Prop := (∀ b xs, H b = some (.tup xs) → H' b = some (.tup xs)) ∧ ∀ b (as : List Addr), N b → H b = some (.lst (as.map V.ref)) → M b ∧ H' b = some (.lst (as.map V.ref))
mutual
theorem LtAt.keep {N M : Addr → Prop} {H H' : Hp} (e : keepsT N M H H') : ∀ {t : Tr} {a : Addr}, LtAt N H t a → LtAt M H' t a
  | .at n, a, h => by
    unfold LtAt at h ⊢
    exact e.1 _ _ h
  | .ov ps m s, a, h => by
    unfold LtAt at h ⊢
    obtain ⟨r, as, h1, hN, h2, h3⟩ := h
    obtain ⟨g1, g2⟩ := e.2 _ _ hN h2
    exact ⟨r, as, e.1 _ _ h1, g1, g2, LtsAt.keep e h3⟩
theorem LtsAt.keep {N M : Addr → Prop} {H H' : Hp} (e : keepsT N M H H') : ∀ {ts : List Tr} {as : List Addr}, LtsAt N H ts as → LtsAt M H' ts as
  | [], as, h => by
    unfold LtsAt at h ⊢
    exact h
  | t :: ts, as, h => by
    unfold LtsAt at h ⊢
    obtain ⟨a, r, h1, h2, h3⟩ := h
    exact ⟨a, r, h1, LtAt.keep e h2, LtsAt.keep e h3⟩
end
section
variable {N M : Addr → Prop} {H H' : Hp} {t : Tr} {ts : List Tr} {a f p : Addr} {as : List Addr}
theorem keeps_ex (e : Ex H H') : keepsT N N H H' := ⟨fun b xs z => e _ _ z, fun b as n z => ⟨n, e _ _ z⟩⟩
theorem keeps_im (e : ∀ b, N b → M b) : keepsT N M H H := ⟨fun b xs z => z, fun b as n z => ⟨e _ n, z⟩⟩
theorem LtAt.mono (h : LtAt N H t a) (e : Ex H H') : LtAt N H' t a := h.keep (keeps_ex e)
theorem LtsAt.mono (h : LtsAt N H ts as) (e : Ex H H') : LtsAt N H' ts as := h.keep (keeps_ex e)
theorem LtAt.imp (h : LtAt N H t a) (e : ∀ b, N b → M b) : LtAt M H t a := h.keep (keeps_im e)
theorem LtsAt.imp (h : LtsAt N H ts as) (e : ∀ b, N b → M b) : LtsAt M H ts as := h.keep (keeps_im e)
/-- one list changes, which is none of them -/
theorem keeps_put {o : HO} {xs : List V} (hf : H f = some (.lst xs)) (n : ∀ b, N b → b ≠ f) : keepsT N N H (upd H f o) :=
  ⟨fun b xs z => by rw [upd_ne (fun w => by rw [w, hf] at z; cases z)]; exact z, fun b as nb z => ⟨nb, by rw [upd_ne (n b nb)]; exact z⟩⟩
theorem keeps_pot (hp : Pot H p) (P : PotOn H H' p) : keepsT N N H H' := by
  obtain ⟨x, y, e, _⟩ := hp
  refine ⟨fun b xs z => P.2 b _ (fun w => by rw [w, e] at z; cases z) z, fun b as n z => ⟨n, P.2 b _ (fun w => ?_) z⟩⟩
  rw [w, e] at z
  cases as with
  | nil => cases z
  | cons a r => cases z
end
theorem LtsAt.len {N : Addr → Prop} {H : Hp} : ∀ {ts : List Tr} {as : List Addr}, LtsAt N H ts as → as.length = ts.length
  | [], as, h => by
    unfold LtsAt at h
    rw [h]
    rfl
  | t :: ts, as, h => by
    unfold LtsAt at h
    obtain ⟨a, r, rfl, _, h3⟩ := h
    rw [List.length_cons, List.length_cons, LtsAt.len h3]
theorem LtsAt.get {N : Addr → Prop} {H : Hp} : ∀ {ts : List Tr} {as : List Addr} {i : Nat} {a : Addr}, LtsAt N H ts as → as[i]? = some a → ∃ t, ts[i]? = some t ∧ LtAt N H t a
  | [], as, i, a, h, hi => by
    unfold LtsAt at h
    rw [h] at hi
    cases hi
  | t :: ts, as, i, a, h, hi => by
    unfold LtsAt at h
    obtain ⟨b, r, rfl, h2, h3⟩ := h
    cases i with
    | zero =>
      cases hi
      exact ⟨t, rfl, h2⟩
    | succ i => exact LtsAt.get (i := i) h3 hi
theorem LtsAt.snoc {N : Addr → Prop} {H : Hp} {t : Tr} {a : Addr} : ∀ {ts : List Tr} {as : List Addr}, LtsAt N H ts as → LtAt N H t a → LtsAt N H (ts ++ [t]) (as ++ [a])
  | [], as, h, ha => by
    unfold LtsAt at h
    rw [h]
    show LtsAt N H [t] [a]
    unfold LtsAt
    exact ⟨a, [], rfl, ha, by unfold LtsAt; rfl⟩
  | x :: ts, as, h, ha => by
    unfold LtsAt at h
    obtain ⟨b, r, rfl, h2, h3⟩ := h
    show LtsAt N H (x :: (ts ++ [t])) (b :: (r ++ [a]))
    unfold LtsAt
    exact ⟨b, r ++ [a], rfl, h2, LtsAt.snoc h3 ha⟩
theorem lts_one {N : Addr → Prop} {H : Hp} {t : Tr} {a : Addr} (h : LtAt N H t a) : LtsAt N H [t] [a] := by
  unfold LtsAt
  exact ⟨a, [], rfl, h, by unfold LtsAt; rfl⟩
def sp__law_means (K : PySem.W.Frag) (d : Nat) : Sp := fun vs H Q _ => ∃ (N : Addr → Prop) (p : Addr) (as : List Addr) (ts : List Tr), vs = [.ref p] ∧ H p = some (.lst (as.map V.ref)) ∧ LtsAt N H ts as ∧ nestL ts + 1 ≤ d ∧ okL_ ts ∧ (momsL ts).length ≤ 2000 ∧ ∀ t H', Ex H H' → H t = none → H' t = some (.lst (natV (momsL ts))) → Q (.ref t) H'
abbrev PartW (deep : Nat) : Nat := (2 * (4 - deep) + 1) * GAP
def sp__law_part (K : PySem.W.Frag) (d : Nat) : Sp := fun vs H Q _ => ∃ (p : Addr) (deep room : Nat), vs = [.ref p, .int (deep : Nat), .int (room : Nat)] ∧ Pot H p ∧ deep ≤ 4 ∧ 5 ≤ deep + d ∧ 1 ≤ room ∧ room ≤ 40 ∧ ∀ (a : Addr) (t : Tr) H', LtAt (fun r => H r = none) H' t a → t.ok → t.nest + deep ≤ 4 → t.moms.headD 0 = 0 → t.moms.length ≤ room → t.moms.getLastD 0 + 1 ≤ t.moms.length * PartW deep → PotOn H H' p → Q (.ref a) H'
def sp__law_parts (K : PySem.W.Frag) (d : Nat) : Sp := fun vs H Q _ => ∃ (p : Addr) (deep room : Nat), vs = [.ref p, .int (deep : Nat), .int (room : Nat)] ∧ Pot H p ∧ deep ≤ 4 ∧ 5 ≤ deep + d ∧ 1 ≤ room ∧ room ≤ 40 ∧ ∀ (r : Addr) (as : List Addr) (ts : List Tr) H', H r = none → H' r = some (.lst (as.map V.ref)) → LtsAt (fun b => H b = none ∧ b ≠ r) H' ts as → ts ≠ [] → okL_ ts → nestL ts + deep ≤ 4 → risB ts = true → (momsL ts).headD 0 = 0 → (momsL ts).length ≤ room → (momsL ts).getLastD 0 + 1 ≤ (momsL ts).length * (PartW deep + GAP) → PotOn H H' p → Q (.ref r) H'
end
section
theorem fb__law_means {P : Program} {w : World} {K : PySem.W.Frag} {mg : Str → Option Value} {base : Heap} (T : Env K mg) {d L : Nat} (hL : 40 ≤ L) (r__law_means : Fc P w K mg base L (He.ga K "_law_means") [] (sp__law_means K d)) : ∃ fd, FunD K "_law_means" "_law_means" (defArgs s__law_means) (defBody s__law_means) (defScope s__law_means) [] [] (He.ga K "_law_means") fd ∧ Fb P w K mg base (L + 1) (He.ga K "_law_means") fd ["_law_parts_here"] (sp__law_means K (d + 1)) := by
  obtain ⟨fd, F⟩ := T.f__law_means
  refine ⟨fd, F, fb_of F sc__law_means (fun vs H Q E h => ?_) (fun cdv A outer s H vs Q E hr h => ?_)⟩
  · obtain ⟨N, p, as, ts, rfl, _⟩ := h
    rfl
  · obtain ⟨N, p, as, ts, rfl, hp, hA, hn, hok, hl, q⟩ := h
    refine ⟨_, (pss_cons (ps_set (i := 1) sc__law_means.nd rfl (Or.inl rfl) (pe_lst pa_nil))
      (pss_cons (ps_for (passes_of rfl) rfl (pi_list (pv 0)) (pg_name (i := 2) sc__law_means.nd rfl (Or.inr rfl))
      (pss_one (ps_if (pt_cmpR op_eq (pe_ix ix_tup (pv 2) pe_int (fun _ _ => rfl)) pe_str (nomark _))
      (pss_one (ps_expr (pe_bm PySem.F.plainAttrs_list PySem.F.slot_list_append PySem.F.type_list_append mt_append (pv 1) (pa_cons (pe_ix ix_tup (pv 2) pe_int (fun _ _ => rfl)) pa_nil))))
      (pss_cons (ps_set (i := 3) sc__law_means.nd rfl (Or.inl rfl) (c_call r__law_means (hr.mono (by omega)) T.g__law_means T.k__law_means takes0 (pa_cons (pe_ix ix_tup (pv 2) pe_int (fun _ _ => rfl)) pa_nil)))
      (pss_one (ps_for (passes_of rfl) rfl (pi_range1 (by rfl) T.n_range (pa_cons (pe_ix ix_tup (pv 2) pe_int (fun _ _ => rfl)) pa_nil)) (pg_name (i := 4) sc__law_means.nd rfl (Or.inr rfl))
      (pss_one (ps_set (i := 1) sc__law_means.nd rfl (Or.inl rfl) (pe_op op_cat (pv 1) (pe_lc (own := [("_law_moment", 5)]) (by rfl) sc__law_means.nd (pi_list (pv 3)) (blkOk_by (own := [("_law_moment", 5)]) (N := ["_law_parts_here", "_law_found", "_law_part_here", "_law_inner", "_law_k", "_law_moment"]) (sc := defScope s__law_means) (by decide +kernel)) (fun _ _ _ _ _ => (pg_name (i := 5) sc__law_means.nd rfl (Or.inl rfl))) (fun _ _ _ _ _ => pts_nil) (fun _ _ _ _ _ => (pe_op op_add (pv 5) (pe_op op_mul (pv 4) (pe_ix (ix_tupK K) (pv 2) pe_int (fun _ _ => rfl)))))))))))))))
      (pss_one (ps_ret (pv 1))))), ?_⟩
    refine ⟨by show 0 ≤ sizeLine; decide, fun f nf => ?_⟩
    have X0 := ex_new (o := .lst []) nf
    have hl1 := hA.len
    refine ⟨_, rfl, p, rfl, ⟨_, sq_lst (X0 _ _ hp)⟩, for_on as V.ref L2.walk_list (fun i σ H' => Ex H H' ∧ ∃ f v2 v3 v4 v5, H f = none ∧ σ = [some (.ref p), some (.ref f), v2, v3, v4, v5] ∧ H' f = some (.lst (natV (momsL (ts.take i))))) ⟨X0, _, _, _, _, _, nf, rfl, upd_same⟩ (fun i σ H' z => sq_lst (z.1 _ _ hp)) ?_ ?_⟩
    · rintro i a σ H2 hx ⟨X2, f, v2, v3, v4, v5, nf, rfl, hf⟩
      obtain ⟨t, ht, hS⟩ := hA.get hx
      have htm := List.mem_of_getElem? ht
      have eT := momsL_take ht
      have bT := momsL_take_len ts (i + 1)
      rw [eT, List.length_append] at bT
      have hS2 := hS.mono X2
      have hok1 := okL_mem hok htm
      have nm := nestL_mem htm
      cases t with
      | «at» n =>
        unfold LtAt at hS2
        refine ⟨_, rfl, _, _, _, _, rfl, rfl, (sq_tup hS2), rfl, rfl, _, rfl, ?_⟩
        refine iteT ?_
        refine ⟨_, rfl, (.inl ⟨rfl, ⟨_, (sq_lst hf)⟩⟩), _, rfl, _, _, _, _, rfl, rfl, (sq_tup hS2), rfl, _, _, _, rfl, rfl, hf, ?_⟩
        refine ⟨sz_lt (by rw [natV_len]; omega), ex_mut X2 nf, f, _, _, _, _, nf, rfl, ?_⟩
        rw [upd_same, eT, at_moms]
        unfold natV
        rw [List.map_append]
        rfl
      | ov ps m s_ =>
        unfold LtAt at hS2
        obtain ⟨r, bs, hS2, hN, hr2, hB⟩ := hS2
        refine ⟨_, rfl, _, _, _, _, rfl, rfl, (sq_tup hS2), rfl, rfl, _, rfl, ?_⟩
        refine iteF ?_
        obtain ⟨o1, m2, hm, hml, hl2, hpl, hokL⟩ := ov_facts hok1
        refine ⟨_, rfl, _, _, _, _, rfl, rfl, (sq_tup hS2), rfl, _, _, _, _, rfl, hr2, hB, by rw [Tr.nest] at nm; omega, hokL, by omega, fun u H3 X3 nu hu => ?_⟩
        rw [Tr.moms] at eT bT
        generalize momsL ps = ns at *
        have X03 := X2.trans X3
        have hS3 := X3 _ _ hS2
        have hf3 := X3 _ _ hf
        refine ⟨_, rfl, _, _, _, _, rfl, rfl, (sq_tup hS3), rfl, _, rfl, (by omega), (by omega), ?_⟩
        refine for_range (fun j σ H' => Ex H H' ∧ Ex H3 H' ∧ ∃ f v4 v5, H f = none ∧ σ = [some (.ref p), some (.ref f), some (.ref a), some (.ref u), v4, v5] ∧ H' f = some (.lst (natV (momsL (ts.take i) ++ overN ns j s_)))) ⟨X03, .refl _, f, _, _, nf, rfl, by simpa [overN] using hf3⟩ ?_ ?_
        · rintro j σ H4 hj ⟨X4, X34, f4, v4', v5', nf4, rfl, hf4⟩
          have hS4 := X34 _ _ hS3
          have hu4 := X34 _ _ hu
          refine ⟨_, rfl, _, rfl, _, rfl, ⟨_, (sq_lst hu4)⟩, ?_⟩
          have ll : (overN ns j s_).length = j * ns.length := overN_len ns j s_
          have l2 : j * ns.length ≤ m * ns.length := Nat.mul_le_mul_right _ (by omega)
          have l3 : (overN ns m s_).length = m * ns.length := overN_len ns m s_
          intro A nA
          refine lc_on ns (fun n : Nat => V.int n) L2.walk_list (fun n => some (.int ((n + j * s_ : Nat) : Int))) (fun H' => Ex H4 H') (fun H' z e => ex_mut e nA) (.refl _) (by omega) (fun H' e => sq_lst (e _ _ hu4)) (fun y n H5 acc N hn X5 hD la k => ?_) fun H5 X5 d5 => ?_
          · have hS5 := X5 _ _ hS4
            refine ⟨rfl, _, rfl, _, rfl, _, rfl, a, _, _, _, rfl, rfl, sq_tup hS5, rfl, _, _, rfl, rfl, .inl ⟨by omega, by omega⟩, _, _, rfl, rfl, acc, hD, la, ?_⟩
            have e : ((n : Nat) : Int) + (0 + ((j : Nat) : Int)) * ((s_ : Nat) : Int) = ((n + j * s_ : Nat) : Int) := by simp
            show N (upd H5 A (.lst (acc ++ [.int (((n : Nat) : Int) + (0 + ((j : Nat) : Int)) * ((s_ : Nat) : Int))])))
            rw [e]
            exact k H5 X5 hD
          · have ed : ns.filterMap (fun n => some (V.int ((n + j * s_ : Nat) : Int))) = natV (ns.map fun n => n + j * s_) := by
              unfold natV
              rw [List.filterMap_eq_map', List.map_map]
              rfl
            rw [ed] at d5
            refine ⟨f4, A, _, _, rfl, rfl, X5 _ _ hf4, d5, sz_le (by rw [natV_len, natV_len, List.length_map, List.length_append, ll]; omega), fun g ng => ?_⟩
            have X6 := X5.trans (ex_new (o := .lst (natV (momsL (ts.take i) ++ overN ns j s_) ++ natV (ns.map fun n => n + j * s_))) ng)
            refine ⟨X4.trans X6, X34.trans X6, g, _, _, ex_fresh (X4.trans X5) ng, rfl, ?_⟩
            rw [upd_same, overN_succ]
            unfold natV
            rw [← List.map_append, List.append_assoc]
        · rintro σ H4 ⟨X4, X34, f4, v4', v5', nf4, rfl, hf4⟩
          rw [show ((m : Nat) : Int).toNat = m by omega] at hf4
          exact ⟨X4, f4, _, _, _, _, nf4, rfl, by rw [eT]; exact hf4⟩
    · rintro σ H2 ⟨X2, f, v2, v3, v4, v5, nf, rfl, hf⟩
      rw [List.take_of_length_le (by omega)] at hf
      exact ⟨_, rfl, q f H2 X2 nf hf⟩
theorem ok__law_means {P : Program} {w : World} {K : PySem.W.Frag} {mg : Str → Option Value} {base : Heap} (T : Env K mg) {d L : Nat} (hL : 40 ≤ L) (r__law_means : Fc P w K mg base L (He.ga K "_law_means") [] (sp__law_means K d)) : Fc P w K mg base (L + 1) (He.ga K "_law_means") [] (sp__law_means K (d + 1)) := by
  obtain ⟨fd, D, F⟩ := fb__law_means T hL r__law_means
  exact F.all (D.bindsN fun _ _ _ _ _ _ us hl => match us, hl with | [_], _ => rfl)
theorem all__law_means {P : Program} {w : World} {K : PySem.W.Frag} {mg : Str → Option Value} {base : Heap} (T : Env K mg) : ∀ d, Fc P w K mg base (40 + 1 * d) (He.ga K "_law_means") [] (sp__law_means K d)
  | 0 => fc_no fun vs H Q E h => by
    obtain ⟨_, _, _, _, _, _, _, h, _⟩ := h
    omega
  | d + 1 => ok__law_means T (Nat.le_add_right 40 _) (all__law_means T d)
end
section
mutual
/-- so much later -/
def Tr.shift (k : Nat) : Tr → Tr
  | .at n => .at (n + k)
  | .ov ps m s => .ov (shiftL k ps) m s
def shiftL (k : Nat) : List Tr → List Tr
  | [] => []
  | t :: ts => t.shift k :: shiftL k ts
end
theorem shiftL_map (k : Nat) (ts : List Tr) : shiftL k ts = ts.map (Tr.shift k) := by
  induction ts with
  | nil => rw [shiftL]; rfl
  | cons t r ih => rw [shiftL, ih]; rfl
theorem overN_shift (ns : List Nat) (m s k : Nat) : overN (ns.map fun n => n + k) m s = (overN ns m s).map fun n => n + k := by
  unfold overN
  rw [List.map_flatMap]
  congr 1
  funext t
  rw [List.map_map, List.map_map]
  apply List.map_congr_left
  intro n _
  show n + k + t * s = n + t * s + k
  omega
mutual
theorem moms_shift (k : Nat) : ∀ t : Tr, (t.shift k).moms = t.moms.map fun n => n + k
  | .at n => by rw [Tr.shift, at_moms, at_moms]; rfl
  | .ov ps m s => by rw [Tr.shift, Tr.moms, Tr.moms, momsL_shift k ps, overN_shift]
theorem momsL_shift (k : Nat) : ∀ ts : List Tr, momsL (shiftL k ts) = (momsL ts).map fun n => n + k
  | [] => by rw [shiftL, momsL]; rfl
  | t :: ts => by rw [shiftL, momsL, momsL, moms_shift k t, momsL_shift k ts, List.map_append]
end
mutual
theorem nest_shift (k : Nat) : ∀ t : Tr, (t.shift k).nest = t.nest
  | .at n => by rw [Tr.shift, at_nest, at_nest]
  | .ov ps m s => by rw [Tr.shift, Tr.nest, Tr.nest, nestL_shift k ps]
theorem nestL_shift (k : Nat) : ∀ ts : List Tr, nestL (shiftL k ts) = nestL ts
  | [] => by rw [shiftL]
  | t :: ts => by rw [shiftL, nestL, nestL, nest_shift k t, nestL_shift k ts]
end
theorem headD_map {a : List Nat} (k : Nat) (h : a ≠ []) : (a.map fun n => n + k).headD 0 = a.headD 0 + k := by
  cases a with
  | nil => exact absurd rfl h
  | cons x r => rfl
mutual
theorem ok_shift (k : Nat) : ∀ t : Tr, t.ok → (t.shift k).ok
  | .at n, _ => by rw [Tr.shift]; exact at_ok _
  | .ov ps m s, h => by
    unfold Tr.ok at h
    obtain ⟨h1, h2, h3, h4, h5, h6, h7⟩ := h
    have nn := momsL_ne h7 h1
    rw [Tr.shift]
    unfold Tr.ok
    rw [momsL_shift, List.length_map, lastD_map k nn, headD_map k nn]
    exact ⟨by rw [shiftL_map]; simpa using h1, h2, h3, h4, by omega, List.pairwise_map.mpr (h6.imp fun h => by omega), okL_shift k ps h7⟩
theorem okL_shift (k : Nat) : ∀ ts : List Tr, okL_ ts → okL_ (shiftL k ts)
  | [], _ => by rw [shiftL]; unfold okL_; trivial
  | t :: ts, h => by
    unfold okL_ at h
    rw [shiftL]
    unfold okL_
    exact ⟨ok_shift k t h.1, okL_shift k ts h.2⟩
end
end
section
def sp__law_moved (K : PySem.W.Frag) (d : Nat) : Sp := fun vs H Q _ => ∃ (N : Addr → Prop) (b : Addr) (t : Tr) (by_ : Nat), vs = [.ref b, .int (by_ : Nat)] ∧ LtAt N H t b ∧ t.nest + 1 ≤ d ∧ t.ok ∧ ∀ a H', Ex H H' → H a = none → LtAt (fun r => H r = none) H' (t.shift by_) a → Q (.ref a) H'
theorem fb__law_moved {P : Program} {w : World} {K : PySem.W.Frag} {mg : Str → Option Value} {base : Heap} (T : Env K mg) {d L : Nat} (hL : 40 ≤ L) (r__law_moved : Fc P w K mg base L (He.ga K "_law_moved") [] (sp__law_moved K d)) : ∃ fd, FunD K "_law_moved" "_law_moved" (defArgs s__law_moved) (defBody s__law_moved) (defScope s__law_moved) [] [] (He.ga K "_law_moved") fd ∧ Fb P w K mg base (L + 1) (He.ga K "_law_moved") fd ["_law_part_here", "_law_by"] (sp__law_moved K (d + 1)) := by
  obtain ⟨fd, F⟩ := T.f__law_moved
  refine ⟨fd, F, fb_of F sc__law_moved (fun vs H Q E h => ?_) (fun cdv A outer s H vs Q E hr h => ?_)⟩
  · obtain ⟨N, b, t, by_, rfl, _⟩ := h
    rfl
  · obtain ⟨N, b, t, by_, rfl, hS2, hn, hok, q⟩ := h
    refine ⟨_, (pss_cons (ps_if (pt_cmpR op_eq (pe_ix ix_tup (pv 0) pe_int (fun _ _ => rfl)) pe_str (nomark _))
      (pss_one (ps_ret (pe_tup (pa_cons pe_str (pa_cons (pe_op op_add (pe_ix ix_tup (pv 0) pe_int (fun _ _ => rfl)) (pv 1)) pa_nil)))))
      pss_nil)
      (pss_one (ps_ret (pe_tup (pa_cons pe_str (pa_cons (pe_lc (own := [("_law_one", 2)]) (by rfl) sc__law_moved.nd (pi_list (pe_ix ix_tup (pv 0) pe_int (fun _ _ => rfl))) (blkOk_by (own := [("_law_one", 2)]) (N := ["_law_part_here", "_law_by", "_law_one"]) (sc := defScope s__law_moved) (by decide +kernel)) (fun _ _ _ _ _ => (pg_name (i := 2) sc__law_moved.nd rfl (Or.inl rfl))) (fun _ _ _ _ _ => pts_nil) (fun _ _ _ _ _ => (c_call r__law_moved (hr.mono (by omega)) T.g__law_moved T.k__law_moved takes0 (pa_cons (pv 2) (pa_cons (pv 1) pa_nil))))) (pa_cons (pe_ix ix_tup (pv 0) pe_int (fun _ _ => rfl)) (pa_cons (pe_ix ix_tup (pv 0) pe_int (fun _ _ => rfl)) pa_nil)))))))), ?_⟩
    cases t with
    | «at» n =>
      unfold LtAt at hS2
      refine ⟨_, rfl, _, _, _, _, rfl, rfl, (sq_tup hS2), rfl, rfl, _, rfl, ?_⟩
      refine iteT ?_
      refine ⟨_, rfl, _, _, _, _, rfl, rfl, (sq_tup hS2), rfl, _, rfl, _, _, rfl, rfl, (by show 2 ≤ sizeLine; decide), ?_⟩
      intro a na
      refine q a _ (ex_new na) na ?_
      rw [Tr.shift]
      unfold LtAt
      rw [upd_same]
      rfl
    | ov ps m s_ =>
      unfold LtAt at hS2
      obtain ⟨r, bs, hS2, hN, hr2, hB⟩ := hS2
      obtain ⟨o1, m2, hm, hml, hl2, hpl, hokL⟩ := ov_facts hok
      have hl1 := hB.len
      refine ⟨_, rfl, _, _, _, _, rfl, rfl, (sq_tup hS2), rfl, rfl, _, rfl, ?_⟩
      refine iteF ?_
      refine ⟨_, rfl, _, _, _, _, rfl, rfl, (sq_tup hS2), rfl, _, rfl, ⟨_, (sq_lst hr2)⟩, ?_⟩
      refine fun A nA => lc_any (L2.walk_list (K := K) (a := r) (xs := bs.map V.ref)) (fun i acc G => Ex H G ∧ (G A = none ∨ ∃ xs, G A = some (.lst xs)) ∧ ∃ as, acc = as.map V.ref ∧ LtsAt (fun b => H b = none ∧ b ≠ A) G ((shiftL by_ ps).take i) as) (fun i acc G z e => ?_) ⟨.refl _, .inl nA, [], rfl, by unfold LtsAt; rfl⟩ (by rw [List.length_map]; omega) (fun i acc G e => ?_) (fun i acc G e => sq_lst (e.1 _ _ hr2)) (fun i x G G' acc N hi e hA la y k _ => ?_) (fun acc G e hA => ?_)
      · obtain ⟨e1, e2, as, e3, e4⟩ := e
        refine ⟨ex_mut e1 nA, .inr ⟨_, upd_same⟩, as, e3, ?_⟩
        rcases e2 with e2 | ⟨xs, e2⟩
        · exact e4.mono (ex_new e2)
        · exact e4.keep (keeps_put e2 fun b nb => nb.2)
      · obtain ⟨_, _, as, rfl, e4⟩ := e
        rw [List.length_map, e4.len, List.length_take]
        omega
      · obtain ⟨rfl, y⟩ := y
        obtain ⟨XG, _, as, rfl, h1⟩ := e
        rw [List.getElem?_map] at y
        obtain ⟨c, hc, rfl⟩ := Option.map_eq_some_iff.mp y
        obtain ⟨t, ht, hDt⟩ := hB.get hc
        have htm := List.mem_of_getElem? ht
        have nm := nestL_mem htm
        rw [Tr.nest] at hn
        refine ⟨rfl, _, rfl, _, rfl, _, c, t, by_, rfl, hDt.mono XG, by omega, okL_mem hokL htm, fun a2 G2 X2 na2 hS3 => ⟨_, X2 _ _ hA, la, ?_⟩⟩
        refine k _ G2 (X2 _ _ hA) ⟨XG.trans X2, .inr ⟨_, X2 _ _ hA⟩, as ++ [a2], by rw [List.map_append]; rfl, ?_⟩
        rw [take_snoc (x := t.shift by_) (by rw [shiftL_map, List.getElem?_map, ht]; rfl)]
        exact (h1.mono X2).snoc (hS3.imp fun b nb => ⟨ex_fresh XG nb, fun z => by rw [z, hA] at nb; cases nb⟩)
      · obtain ⟨XG, _, as, rfl, hSh⟩ := e
        rw [List.length_map, hl1, List.take_of_length_le (by rw [shiftL_map, List.length_map]; omega)] at hSh
        have hS4 := XG _ _ hS2
        refine ⟨_, rfl, _, _, _, _, rfl, rfl, (sq_tup hS4), rfl, _, rfl, _, _, _, _, rfl, rfl, (sq_tup hS4), rfl, (by show 4 ≤ sizeLine; decide), ?_⟩
        intro a na
        have X5 := ex_new (o := .tup [.str "over", .ref A, .int (m : Nat), .int (s_ : Nat)]) na
        refine q a _ (XG.trans X5) (ex_fresh XG na) ?_
        rw [Tr.shift]
        unfold LtAt
        exact ⟨A, as, upd_same, nA, X5 _ _ hA, (hSh.imp fun b nb => nb.1).mono X5⟩
theorem ok__law_moved {P : Program} {w : World} {K : PySem.W.Frag} {mg : Str → Option Value} {base : Heap} (T : Env K mg) {d L : Nat} (hL : 40 ≤ L) (r__law_moved : Fc P w K mg base L (He.ga K "_law_moved") [] (sp__law_moved K d)) : Fc P w K mg base (L + 1) (He.ga K "_law_moved") [] (sp__law_moved K (d + 1)) := by
  obtain ⟨fd, D, F⟩ := fb__law_moved T hL r__law_moved
  exact F.all (D.bindsN fun _ _ _ _ _ _ us hl => match us, hl with | [_, _], _ => rfl)
theorem all__law_moved {P : Program} {w : World} {K : PySem.W.Frag} {mg : Str → Option Value} {base : Heap} (T : Env K mg) : ∀ d, Fc P w K mg base (40 + 1 * d) (He.ga K "_law_moved") [] (sp__law_moved K d)
  | 0 => fc_no fun vs H Q E h => by
    obtain ⟨_, _, _, _, _, _, h, _⟩ := h
    omega
  | d + 1 => ok__law_moved T (Nat.le_add_right 40 _) (all__law_moved T d)
end
section
theorem fb__law_parts {P : Program} {w : World} {K : PySem.W.Frag} {mg : Str → Option Value} {base : Heap} (T : Env K mg) {d L : Nat} (hL : 60 ≤ L) (r__law_part : Fc P w K mg base L (He.ga K "_law_part") [] (sp__law_part K d)) : ∃ fd, FunD K "_law_parts" "_law_parts" (defArgs s__law_parts) (defBody s__law_parts) (defScope s__law_parts) [] [] (He.ga K "_law_parts") fd ∧ Fb P w K mg base (L + 1) (He.ga K "_law_parts") fd ["_law_pot_here", "_law_deep", "_law_room"] (sp__law_parts K (d)) := by
  obtain ⟨fd, F⟩ := T.f__law_parts
  refine ⟨fd, F, fb_of F sc__law_parts (fun vs H Q E h => ?_) (fun cdv A outer s H vs Q E hr h => ?_)⟩
  · obtain ⟨p, deep, room, rfl, _⟩ := h
    rfl
  · obtain ⟨p, deep, room, rfl, hp, d4, dd, r1, r40, q⟩ := h
    refine ⟨_, (pss_cons (ps_set (i := 3) sc__law_parts.nd rfl (Or.inl rfl) (pe_lst pa_nil))
      (pss_cons (ps_set (i := 4) sc__law_parts.nd rfl (Or.inl rfl) pe_int)
      (pss_cons (ps_for (passes_of rfl) rfl (pi_range1 (by rfl) T.n_range (pa_cons (pe_op op_add pe_int (c_call (ok__law_draw T) (hr.mono (by omega)) T.g__law_draw T.k__law_draw takes0 (pa_cons (pv 0) (pa_cons pe_int pa_nil)))) pa_nil)) (pg_name (i := 5) sc__law_parts.nd rfl (Or.inl rfl))
      (pss_cons (ps_set (i := 6) sc__law_parts.nd rfl (Or.inl rfl) (pe_op op_sub (pv 2) (pe_callB call_len (by rfl) T.n_len (by decide +kernel) (pa_cons (c_call (all__law_means T 9) (hr.mono (by omega)) T.g__law_means T.k__law_means takes0 (pa_cons (pv 3) pa_nil)) pa_nil))))
      (pss_one (ps_if (pt_cmpR op_gt (pv 6) pe_int (nomark _))
      (pss_cons (ps_expr (pe_bm PySem.F.plainAttrs_list PySem.F.slot_list_append PySem.F.type_list_append mt_append (pv 3) (pa_cons (c_call (all__law_moved T 9) (hr.mono (by omega)) T.g__law_moved T.k__law_moved takes0 (pa_cons (c_call r__law_part (hr.mono (by omega)) T.g__law_part T.k__law_part takes0 (pa_cons (pv 0) (pa_cons (pv 1) (pa_cons (pv 6) pa_nil)))) (pa_cons (pv 4) pa_nil))) pa_nil)))
      (pss_one (ps_set (i := 4) sc__law_parts.nd rfl (Or.inl rfl) (pe_op op_add (pe_op op_add (pe_ix ix_list (c_call (all__law_means T 9) (hr.mono (by omega)) T.g__law_means T.k__law_means takes0 (pa_cons (pv 3) pa_nil)) (pe_un un_neg pe_int) (fun _ _ => rfl)) pe_int) (c_call (ok__law_gap T) (hr.mono (by omega)) T.g__law_gap T.k__law_gap takes0 (pa_cons (pv 0) pa_nil))))))
      pss_nil))))
      (pss_one (ps_ret (pv 3)))))), ?_⟩
    refine ⟨by show 0 ≤ sizeLine; decide, fun f nf => ?_⟩
    have P0 := PotOn.refl hp
    have fp := pot_ne P0 nf
    have P1 := pot_new (o := .lst []) P0 nf
    have hf1 : upd H f (.lst []) f = some (.lst (([] : List Addr).map V.ref)) := upd_same
    generalize upd H f (.lst []) = H1 at P1 hf1 ⊢
    have hp1 := P1.1
    refine ⟨_, rfl, _, _, rfl, hp1, (by decide), (by decide), ?_⟩
    intro e H2 e0 e3 P2
    obtain ⟨e, rfl⟩ := Int.eq_ofNat_of_zero_le e0
    have P12 := P1.trans P2
    have hf2 := P2.2 _ _ fp hf1
    refine ⟨_, _, rfl, rfl, _, rfl, (by omega), (by omega), ?_⟩
    refine for_range (fun i σ H' => PotOn H H' p ∧ ∃ (as : List Addr) (ts : List Tr) (begin_ : Nat) (v5 v6 : Option V), H' f = some (.lst (as.map V.ref)) ∧ LtsAt (fun b => H b = none ∧ b ≠ f) H' ts as ∧ okL_ ts ∧ nestL ts + deep ≤ 4 ∧ risB ts = true ∧ (i = 0 → ts = []) ∧ (ts = [] → i = 0 ∧ begin_ = 0) ∧ (ts ≠ [] → (momsL ts).headD 0 = 0 ∧ (momsL ts).getLastD 0 < begin_ ∧ (momsL ts).getLastD 0 + 1 ≤ (momsL ts).length * (PartW deep + GAP)) ∧ begin_ ≤ (momsL ts).length * (PartW deep + GAP) ∧ (momsL ts).length ≤ room ∧ σ = [some (.ref p), some (.int (deep : Nat)), some (.int (room : Nat)), some (.ref f), some (.int (begin_ : Nat)), v5, v6]) ⟨P12, [], [], 0, none, none, hf2, by unfold LtsAt; rfl, by unfold okL_; trivial, by rw [nestL]; omega, rfl, fun _ => rfl, fun _ => ⟨rfl, rfl⟩, fun z => absurd rfl z, by omega, by rw [momsL]; exact Nat.zero_le _, rfl⟩ ?_ ?_
    · rintro i σ H3 hi ⟨P3, as, ts, bg, v5, v6, hf3, hA3, hok, hne, hri, hi0, hnil, hfa, hbg, hlen, rfl⟩
      have hp3 := P3.1
      have fH : H f = none := nf
      have hl1 := hA3.len
      have hn9 : nestL ts + 1 ≤ 9 := by omega
      have hl2 : (momsL ts).length ≤ 2000 := by omega
      refine ⟨_, rfl, _, rfl, _, _, _, _, rfl, hf3, hA3, hn9, hok, hl2, ?_⟩
      intro u H4 X4 nu hu
      have P4 := P3.ex2 X4
      have hf4 := X4 _ _ hf3
      have hA4 := hA3.mono X4
      refine ⟨_, _, rfl, (.inl ⟨_, ⟨(sq_lst hu), rfl⟩⟩), _, _, rfl, rfl, _, rfl, _, _, rfl, rfl, _, rfl, ?_⟩
      try dsimp only [tNil]
      rw [natV_len]
      refine ite2 (fun c => ?_) (fun c => ?_)
      · have c2 : (0 : Int) < (room : Nat) - ((momsL ts).length : Nat) := of_decide_eq_true c
        have el : ((room : Nat) : Int) - ((momsL ts).length : Nat) = ((room - (momsL ts).length : Nat) : Int) := by omega
        rw [el]
        obtain ⟨left, hleft⟩ : ∃ l, l = room - (momsL ts).length := ⟨_, rfl⟩
        rw [← hleft]
        have hp4 := P4.1
        refine ⟨_, rfl, (.inl ⟨rfl, ⟨_, (sq_lst hf4)⟩⟩), _, rfl, _, rfl, _, rfl, _, _, _, rfl, hp4, d4, dd, (by omega), (by omega), ?_⟩
        intro a t H5 hT htok htn hth htl htb P5
        have P35 := P4.trans P5
        have hf5 := P5.2 _ _ fp hf4
        have hA5 := hA4.keep (keeps_pot hp4 P5)
        have tn9 : t.nest + 1 ≤ 9 := by omega
        have nf3 : ∀ b, H4 b = none → H b = none ∧ b ≠ f := fun b nb => ⟨P4.fresh nb, fun z => by rw [z, hf4] at nb; cases nb⟩
        refine ⟨_, rfl, _, _, _, _, rfl, hT, tn9, htok, ?_⟩
        intro a2 H6 X6 na2 hT6
        have P6 := P35.ex2 X6
        have hf6 := X6 _ _ hf5
        have hA6 := hA5.mono X6
        have hT6' : LtAt (fun b => H b = none ∧ b ≠ f) H6 (t.shift bg) a2 := hT6.imp fun b nb => ⟨P35.fresh nb, fun z => by rw [z, hf5] at nb; cases nb⟩
        have hz : (as.map V.ref).length < sizeLine := sz_lt (by rw [List.length_map, hl1]; have := len_moms hok; omega)
        have P7 := pot_upd (o := .lst (as.map V.ref ++ [.ref a2])) P6 nf fp
        have hf7 : upd H6 f (.lst (as.map V.ref ++ [.ref a2])) f = some (.lst ((as ++ [a2]).map V.ref)) := by rw [upd_same, List.map_append]; rfl
        have hA7 : LtsAt (fun b => H b = none ∧ b ≠ f) (upd H6 f (.lst (as.map V.ref ++ [.ref a2]))) (ts ++ [t.shift bg]) (as ++ [a2]) := (hA6.snoc hT6').keep (keeps_put hf6 fun b nb => nb.2)
        refine ⟨_, _, _, rfl, rfl, hf6, hz, _, rfl, _, _, _, _, rfl, hf7, hA7, ?_⟩
        try dsimp only [tNil]
        generalize upd H6 f (.lst (as.map V.ref ++ [.ref a2])) = H7 at P7 hf7 hA7 ⊢
        have tok' := ok_shift bg t htok
        have okS : okL_ (ts ++ [t.shift bg]) := okL_snoc hok tok'
        have nsS : nestL (ts ++ [t.shift bg]) + deep ≤ 4 := by rw [nestL_app, nestL_one, nest_shift]; omega
        have lenS : (momsL (ts ++ [t.shift bg])).length = (momsL ts).length + t.moms.length := by rw [momsL_snoc, List.length_append, moms_shift, List.length_map]
        have mt := moms_ne htok
        have lastS : (momsL (ts ++ [t.shift bg])).getLastD 0 = t.moms.getLastD 0 + bg := by rw [momsL_snoc, lastD_app (moms_ne tok'), moms_shift, lastD_map bg mt]
        have tneS : ts ++ [t.shift bg] ≠ [] := by simp
        have B1 := pos_moms t htok
        have headT : (t.shift bg).moms.headD 0 = bg := by rw [moms_shift, headD_map bg mt, hth, Nat.zero_add]
        have headS : (momsL (ts ++ [t.shift bg])).headD 0 = 0 := by
          by_cases t0 : ts = []
          · subst t0
            rw [momsL_snoc]
            show (t.shift bg).moms.headD 0 = 0
            rw [headT]
            exact (hnil rfl).2
          · rw [momsL_snoc, headD_app (momsL_ne hok t0)]
            exact (hfa t0).1
        have risS : risB (ts ++ [t.shift bg]) = true := risB_snoc hok hri fun z => by rw [headT]; exact (hfa z).2.1
        have nnS := momsL_ne okS tneS
        have hw := at_lastN nnS
        refine ⟨by omega, okS, by omega, fun w H8 X8 nw hw8 => ?_⟩
        have P8 := P7.ex2 X8
        have hp8 := P8.1
        refine ⟨_, rfl, _, _, _, _, rfl, rfl, (sq_lst hw8), hw, _, _, rfl, rfl, _, rfl, _, rfl, hp8, ?_⟩
        intro g H9 hg P9
        refine ⟨_, _, rfl, rfl, ?_⟩
        try dsimp only [tNil]
        have eM : ((momsL ts).length + t.moms.length) * (PartW deep + GAP) = (momsL ts).length * (PartW deep + GAP) + (t.moms.length * PartW deep + t.moms.length * GAP) := by rw [Nat.add_mul, Nat.mul_add t.moms.length]
        have eG : GAP ≤ t.moms.length * GAP := Nat.le_mul_of_pos_left _ B1
        have gG : g < GAP := Nat.lt_trans hg (by decide +kernel)
        refine ⟨P8.trans P9, as ++ [a2], ts ++ [t.shift bg], t.moms.getLastD 0 + bg + 1 + g, some (.int (0 + (i : Nat))), some (.int (left : Nat)), P9.2 _ _ fp (X8 _ _ hf7), (hA7.mono X8).keep (keeps_pot hp8 P9), okS, nsS, risS, fun z => by omega, fun z => absurd z tneS, fun _ => ⟨headS, by rw [lastS]; omega, by rw [lastS, lenS, eM]; omega⟩, by rw [lenS, eM]; omega, by rw [lenS]; omega, ?_⟩
        rw [lastS]
        have e9 : (((t.moms.getLastD 0 + bg : Nat) : Int)) + 1 + ((g : Nat) : Int) = ((t.moms.getLastD 0 + bg + 1 + g : Nat) : Int) := by omega
        try dsimp only
        rw [e9]
        rfl
      · have c2 : ¬ (0 : Int) < (room : Nat) - ((momsL ts).length : Nat) := fun z => c (decide_eq_true z)
        have ts0 : ts ≠ [] := fun z => by
          rw [z, momsL] at c2
          simp at c2
          omega
        exact ⟨P4, as, ts, bg, _, _, hf4, hA4, hok, hne, hri, fun z => by omega, fun z => absurd z ts0, hfa, hbg, hlen, rfl⟩
    · rintro σ H3 ⟨P3, as, ts, bg, v5, v6, hf3, hA3, hok, hne, hri, hi0, hnil, hfa, hbg, hlen, rfl⟩
      have ts0 : ts ≠ [] := fun z => by
        have := (hnil z).1
        omega
      obtain ⟨g1, g2, g3⟩ := hfa ts0
      exact ⟨_, rfl, q f as ts H3 nf hf3 hA3 ts0 hok hne hri g1 hlen g3 P3⟩
theorem ok__law_parts {P : Program} {w : World} {K : PySem.W.Frag} {mg : Str → Option Value} {base : Heap} (T : Env K mg) {d L : Nat} (hL : 60 ≤ L) (r__law_part : Fc P w K mg base L (He.ga K "_law_part") [] (sp__law_part K d)) : Fc P w K mg base (L + 1) (He.ga K "_law_parts") [] (sp__law_parts K (d)) := by
  obtain ⟨fd, D, F⟩ := fb__law_parts T hL r__law_part
  exact F.all (D.bindsN fun _ _ _ _ _ _ us hl => match us, hl with | [_, _, _], _ => rfl)
end
section
theorem fb__law_part {P : Program} {w : World} {K : PySem.W.Frag} {mg : Str → Option Value} {base : Heap} (T : Env K mg) {d L : Nat} (hL : 60 ≤ L) (r__law_part : Fc P w K mg base L (He.ga K "_law_part") [] (sp__law_part K d)) : ∃ fd, FunD K "_law_part" "_law_part" (defArgs s__law_part) (defBody s__law_part) (defScope s__law_part) [] [] (He.ga K "_law_part") fd ∧ Fb P w K mg base (L + 2) (He.ga K "_law_part") fd ["_law_pot_here", "_law_deep", "_law_room"] (sp__law_part K (d + 1)) := by
  obtain ⟨fd, F⟩ := T.f__law_part
  refine ⟨fd, F, fb_of F sc__law_part (fun vs H Q E h => ?_) (fun cdv A outer s H vs Q E hr h => ?_)⟩
  · obtain ⟨p, deep, room, rfl, _⟩ := h
    rfl
  · obtain ⟨p, deep, room, rfl, hp, d4, dd, r1, r40, q⟩ := h
    refine ⟨_, (pss_cons (ps_set (i := 3) sc__law_part.nd rfl (Or.inl rfl) (c_call (ok__law_draw T) (hr.mono (by omega)) T.g__law_draw T.k__law_draw takes0 (pa_cons (pv 0) (pa_cons pe_int pa_nil))))
      (pss_cons (ps_set (i := 4) sc__law_part.nd rfl (Or.inl rfl) (pe_callB (call_min2 rfl) (by rfl) T.n_min (by decide +kernel) (pa_cons (pv 2) (pa_cons (pe_op op_add pe_int (c_call (ok__law_draw T) (hr.mono (by omega)) T.g__law_draw T.k__law_draw takes0 (pa_cons (pv 0) (pa_cons pe_int pa_nil)))) pa_nil))))
      (pss_cons (ps_if (PW.pt (pw_or (pt_cmpR op_eq (pv 3) pe_int (nomark _)) (pw_or (pt_cmpR op_lt (pv 4) pe_int (nomark _)) (pw_or1 (pt_cmpR op_eq (pv 1) pe_int (nomark _))))))
      (pss_one (ps_ret (pe_tup (pa_cons pe_str (pa_cons pe_int pa_nil)))))
      pss_nil)
      (pss_cons (ps_set (i := 5) sc__law_part.nd rfl (Or.inl rfl) (c_call (ok__law_parts T hL r__law_part) (hr.mono (by omega)) T.g__law_parts T.k__law_parts takes0 (pa_cons (pv 0) (pa_cons (pe_op op_add (pv 1) pe_int) (pa_cons (pe_op op_fdiv (pv 2) (pv 4)) pa_nil)))))
      (pss_one (ps_ret (pe_tup (pa_cons pe_str (pa_cons (pv 5) (pa_cons (pv 4) (pa_cons (pe_op op_add (pe_op op_add (pe_ix ix_list (c_call (all__law_means T 9) (hr.mono (by omega)) T.g__law_means T.k__law_means takes0 (pa_cons (pv 5) pa_nil)) (pe_un un_neg pe_int) (fun _ _ => rfl)) pe_int) (c_call (ok__law_gap T) (hr.mono (by omega)) T.g__law_gap T.k__law_gap takes0 (pa_cons (pv 0) pa_nil))) pa_nil))))))))))), ?_⟩
    refine ⟨_, rfl, _, _, rfl, hp, (by decide), (by decide), ?_⟩
    intro way H1 w0 w3 P1
    have hp1 := P1.1
    refine ⟨_, rfl, _, rfl, _, _, rfl, hp1, (by decide), (by decide), ?_⟩
    intro e H2 e0 e5 P2
    obtain ⟨e, rfl⟩ := Int.eq_ofNat_of_zero_le e0
    refine ⟨_, _, rfl, rfl, _, _, rfl, _, rfl, rfl, _, rfl, ?_⟩
    try dsimp only [tNil]
    have P12 := P1.trans P2
    have hp2 := P12.1
    have em : (if (2 : Int) + ((e : Nat) : Int) < ((room : Nat) : Int) then (2 : Int) + ((e : Nat) : Int) else ((room : Nat) : Int)) = ((min room (2 + e) : Nat) : Int) := by split <;> omega
    rw [em]
    have hm2 : min room (2 + e) ≤ room := Nat.min_le_left _ _
    generalize min room (2 + e) = many at hm2 ⊢
    have fin : ∀ a, H2 a = none → Q (.ref a) (upd H2 a (.tup [.str "at", .int 0])) := fun a na => by
      have m1 : (Tr.at 0).moms = [0] := at_moms 0
      refine q a (.at 0) _ (by unfold LtAt; exact upd_same) (at_ok 0) (by rw [at_nest]; omega) (by rw [m1]; rfl) (by rw [m1]; exact r1) ?_ (P12.ex2 (ex_new na))
      rw [m1]
      show 0 + 1 ≤ 1 * PartW deep
      have gap1 : 1 ≤ GAP := by decide +kernel
      have : 1 * 1 ≤ (2 * (4 - deep) + 1) * GAP := Nat.mul_le_mul (by omega) gap1
      show 0 + 1 ≤ 1 * ((2 * (4 - deep) + 1) * GAP)
      omega
    refine ite2 (fun _ => iteT ⟨by show 2 ≤ sizeLine; decide, fin⟩) (fun _ => ?_)
    refine ⟨_, rfl, _, _, rfl, rfl, _, rfl, ?_⟩
    try dsimp only [tNil]
    refine ite2 (fun _ => iteT ⟨by show 2 ≤ sizeLine; decide, fin⟩) (fun c2 => ?_)
    refine ⟨_, rfl, rfl, _, rfl, ?_⟩
    try dsimp only [tNil]
    refine ite2 (fun _ => ⟨by show 2 ≤ sizeLine; decide, fin⟩) (fun c3 => ?_)
    have g2 : ¬ ((many : Nat) : Int) < 2 := fun z => c2 (decide_eq_true z)
    have g3 : deep ≠ 4 := fun z => c3 (by rw [z]; rfl)
    have many2 : 2 ≤ many := by omega
    have rq : 1 ≤ room / many := (Nat.le_div_iff_mul_le (by omega)).mpr (by omega)
    have rq2 : room / many ≤ 40 := Nat.le_trans (Nat.div_le_self _ _) r40
    have rq3 : many * (room / many) ≤ room := Nat.mul_div_le _ _
    have dd1 : deep + 1 ≤ 4 := by omega
    have dd5 : 5 ≤ deep + 1 + d := by omega
    refine ⟨_, rfl, _, rfl, _, _, rfl, rfl, _, rfl, _, rfl, _, _, rfl, rfl, ⟨(by omega), (by omega)⟩, _, _, _, rfl, hp2, dd1, dd5, rq, rq2, ?_⟩
    intro r as ts H3 nr hr3 hA3 ts0 hok hne hri hhd hlen hlast P3
    have hne : nestL ts + (deep + 1) ≤ 4 := hne
    have hlen : (momsL ts).length ≤ room / many := hlen
    have hlast : (momsL ts).getLastD 0 + 1 ≤ (momsL ts).length * (PartW (deep + 1) + GAP) := hlast
    have P13 := P12.trans P3
    have hn9 : nestL ts + 1 ≤ 9 := by omega
    have hl2 : (momsL ts).length ≤ 2000 := by omega
    have nn := momsL_ne hok ts0
    have hw := at_lastN nn
    refine ⟨_, rfl, _, rfl, _, rfl, _, _, _, _, rfl, hr3, hA3, hn9, hok, hl2, ?_⟩
    intro w H4 X4 nw hw4
    have P4 := P13.ex2 X4
    have hp4 := P4.1
    refine ⟨_, rfl, _, _, _, _, rfl, rfl, (sq_lst hw4), hw, _, _, rfl, rfl, _, rfl, _, rfl, hp4, ?_⟩
    intro g H5 hg P5
    refine ⟨_, _, rfl, rfl, (by show 4 ≤ sizeLine; decide), ?_⟩
    intro a na
    have B1 : 1 ≤ (momsL ts).length := Nat.le_trans (List.length_pos_iff.mpr ts0) (len_moms hok)
    have gG : g < GAP := Nat.lt_trans hg (by decide +kernel)
    have so := ris_sorted hok hri
    have ml : many * (momsL ts).length ≤ room := Nat.le_trans (Nat.mul_le_mul_left _ hlen) rq3
    obtain ⟨la, hla⟩ : ∃ l, l = (momsL ts).getLastD 0 := ⟨_, rfl⟩
    rw [← hla] at hlast ⊢
    have e9 : ((la : Nat) : Int) + 1 + ((g : Nat) : Int) = ((la + 1 + g : Nat) : Int) := by omega
    dsimp only
    rw [e9]
    have ok2 : (Tr.ov ts many (la + 1 + g)).ok := by
      unfold Tr.ok
      exact ⟨ts0, many2, by omega, by omega, by rw [hhd, ← hla]; omega, so, hok⟩
    have X5 := ex_new (o := .tup [.str "over", .ref r, .int (many : Nat), .int ((la + 1 + g : Nat) : Int)]) na
    have hA4 := (hA3.mono X4).keep (keeps_pot hp4 P5)
    have rp : r ≠ p := pot_ne P12 nr
    have hr5 := P5.2 _ _ rp (X4 _ _ hr3)
    have nrH : H r = none := P12.fresh nr
    have m1 : (Tr.ov ts many (la + 1 + g)).moms = overN (momsL ts) many (la + 1 + g) := by rw [Tr.moms]
    refine q a (.ov ts many (la + 1 + g)) _ ?_ ok2 (by rw [Tr.nest]; omega) (by rw [m1, overN_head nn _ (by omega), hhd]) (by rw [m1, overN_len]; omega) ?_ ((P4.trans P5).ex2 X5)
    · unfold LtAt
      refine ⟨r, as, upd_same, nrH, X5 _ _ hr5, (hA4.imp fun b nb => P12.fresh nb.1).mono X5⟩
    · obtain ⟨m', rfl⟩ : ∃ m', many = m' + 1 := ⟨many - 1, by omega⟩
      rw [m1, overN_last nn (by omega), overN_len, ← hla]
      have ew : PartW deep = (PartW (deep + 1) + GAP) + GAP := by
        show (2 * (4 - deep) + 1) * GAP = ((2 * (4 - (deep + 1)) + 1) * GAP + GAP) + GAP
        have e : 2 * (4 - deep) + 1 = (2 * (4 - (deep + 1)) + 1) + 1 + 1 := by omega
        rw [e, Nat.add_mul, Nat.add_mul, Nat.one_mul]
      rw [ew]
      have z := over_bound (at_ := 0) (la := la) (st := la + 1 + g) (m' := m') (len := (momsL ts).length) (V := PartW (deep + 1) + GAP) (G := GAP) (by omega) (by omega) B1
      simpa using z
theorem ok__law_part {P : Program} {w : World} {K : PySem.W.Frag} {mg : Str → Option Value} {base : Heap} (T : Env K mg) {d L : Nat} (hL : 60 ≤ L) (r__law_part : Fc P w K mg base L (He.ga K "_law_part") [] (sp__law_part K d)) : Fc P w K mg base (L + 2) (He.ga K "_law_part") [] (sp__law_part K (d + 1)) := by
  obtain ⟨fd, D, F⟩ := fb__law_part T hL r__law_part
  exact F.all (D.bindsN fun _ _ _ _ _ _ us hl => match us, hl with | [_, _, _], _ => rfl)
theorem all__law_part {P : Program} {w : World} {K : PySem.W.Frag} {mg : Str → Option Value} {base : Heap} (T : Env K mg) : ∀ d, Fc P w K mg base (60 + 2 * d) (He.ga K "_law_part") [] (sp__law_part K d)
  | 0 => fc_no fun vs H Q E h => by
    obtain ⟨p, deep, room, _, _, h1, h2, _⟩ := h
    omega
  | d + 1 => ok__law_part T (Nat.le_add_right 60 _) (all__law_part T d)
end
section
def sp__law_tree (K : PySem.W.Frag) : Sp := fun vs H Q _ => ∃ (p : Addr), vs = [.ref p] ∧ Pot H p ∧ ∀ (r : Addr) (as : List Addr) (ts : List Tr) H', H r = none → H' r = some (.lst (as.map V.ref)) → LtsAt (fun b => H b = none ∧ b ≠ r) H' ts as → ts ≠ [] → okL_ ts → nestL ts ≤ 4 → risB ts = true → (momsL ts).length ≤ 40 → (momsL ts).getLastD 0 < 10 ^ 59 → PotOn H H' p → Q (.ref r) H'
theorem fb__law_tree {P : Program} {w : World} {K : PySem.W.Frag} {mg : Str → Option Value} {base : Heap} (T : Env K mg) : ∃ fd, FunD K "_law_tree" "_law_tree" (defArgs s__law_tree) (defBody s__law_tree) (defScope s__law_tree) [] [] (He.ga K "_law_tree") fd ∧ Fb P w K mg base 90 (He.ga K "_law_tree") fd ["_law_pot_here"] (sp__law_tree K) := by
  obtain ⟨fd, F⟩ := T.f__law_tree
  refine ⟨fd, F, fb_of F sc__law_tree (fun vs H Q E h => ?_) (fun cdv A outer s H vs Q E hr h => ?_)⟩
  · obtain ⟨p, rfl, _⟩ := h
    rfl
  · obtain ⟨p, rfl, hp, q⟩ := h
    refine ⟨_, (pss_cons (ps_set (i := 1) sc__law_tree.nd rfl (Or.inl rfl) (c_call (ok__law_draw T) (hr.mono (by decide)) T.g__law_draw T.k__law_draw takes0 (pa_cons (pv 0) (pa_cons pe_int pa_nil))))
      (pss_cons (ps_set (i := 2) sc__law_tree.nd rfl (Or.inr rfl) (c_call (ok__law_draw T) (hr.mono (by decide)) T.g__law_draw T.k__law_draw takes0 (pa_cons (pv 0) (pa_cons (pe_ix ix_list (pe_lst (pa_cons pe_int (pa_cons pe_int (pa_cons pe_int (pa_cons (pe_op op_pow pe_int pe_int) pa_nil))))) (c_call (ok__law_draw T) (hr.mono (by decide)) T.g__law_draw T.k__law_draw takes0 (pa_cons (pv 0) (pa_cons pe_int pa_nil))) (fun _ _ => rfl)) pa_nil))))
      (pss_cons (ps_if (pt_cmpR op_gt (pv 1) pe_int (nomark _))
      (pss_one (ps_ret (pe_lst (pa_cons (pe_tup (pa_cons pe_str (pa_cons (pe_lst (pa_cons (pe_tup (pa_cons pe_str (pa_cons (pv 2) pa_nil))) pa_nil)) (pa_cons (pe_op op_add pe_int (c_call (ok__law_draw T) (hr.mono (by decide)) T.g__law_draw T.k__law_draw takes0 (pa_cons (pv 0) (pa_cons pe_int pa_nil)))) (pa_cons (pe_op op_add pe_int (c_call (ok__law_gap T) (hr.mono (by decide)) T.g__law_gap T.k__law_gap takes0 (pa_cons (pv 0) pa_nil))) pa_nil))))) pa_nil))))
      pss_nil)
      (pss_cons (ps_set (i := 3) sc__law_tree.nd rfl (Or.inl rfl) (pe_ix ix_list (pe_lst (pa_cons pe_int (pa_cons pe_int pa_nil))) (pe_callTy call_int1 (by rfl) T.n_int (by decide +kernel) (pa_cons (pe_cmpR op_eq (pv 1) pe_int (nomark _)) pa_nil)) (fun _ _ => rfl)))
      (pss_one (ps_ret (pe_lc (own := [("_law_part_here", 4)]) (by rfl) sc__law_tree.nd (pi_list (c_call (ok__law_parts T (Nat.le_add_right 60 _) (all__law_part T 9)) (hr.mono (by decide)) T.g__law_parts T.k__law_parts takes0 (pa_cons (pv 0) (pa_cons pe_int (pa_cons (pv 3) pa_nil))))) (blkOk_by (own := [("_law_part_here", 4)]) (N := ["_law_pot_here", "_law_size", "_law_begin", "_law_room", "_law_part_here"]) (sc := defScope s__law_tree) (by decide +kernel)) (fun _ _ _ _ _ => (pg_name (i := 4) sc__law_tree.nd rfl (Or.inl rfl))) (fun _ _ _ _ _ => pts_nil) (fun _ _ _ _ _ => (c_call (all__law_moved T 9) (hr.mono (by decide)) T.g__law_moved T.k__law_moved takes0 (pa_cons (pv 4) (pa_cons (pv 2) pa_nil))))))))))), ?_⟩
    refine ⟨_, rfl, _, _, rfl, hp, (by decide), (by decide), ?_⟩
    intro sz H1 s0 s16 P1
    refine ⟨_, rfl, _, _, rfl, rfl, ⟨(by decide), ⟨(by decide), (by decide)⟩⟩, (by decide), ?_⟩
    intro a1 na1
    have Xa1 := ex_new (o := HO.lst [V.int 1440, V.int 1440, V.int 1440, V.int (10 ^ Int.toNat 58)]) na1
    have ha1 : upd H1 a1 (HO.lst [V.int 1440, V.int 1440, V.int 1440, V.int (10 ^ Int.toNat 58)]) a1 = some (HO.lst [V.int 1440, V.int 1440, V.int 1440, V.int (10 ^ Int.toNat 58)]) := upd_same
    generalize upd H1 a1 (HO.lst [V.int 1440, V.int 1440, V.int 1440, V.int (10 ^ Int.toNat 58)]) = Ga1 at Xa1 ha1 ⊢
    refine ⟨_, rfl, _, _, rfl, (pot_mono P1.1 Xa1), (by decide), (by decide), ?_⟩
    intro d G2 d0 d4 P2
    obtain ⟨x, hx, ex⟩ := at_mem (xs := [V.int 1440, V.int 1440, V.int 1440, V.int (10 ^ Int.toNat 58)]) d0 (by show d < 4; exact d4)
    have hb : ∃ i : Int, x = .int i ∧ 0 < i ∧ i.toNat < 10 ^ 200 ∧ i ≤ 10 ^ 58 := by
      simp only [List.mem_cons, List.not_mem_nil, or_false] at hx
      rcases hx with rfl | rfl | rfl | rfl <;> exact ⟨_, rfl, by decide +kernel, by decide +kernel, by decide +kernel⟩
    obtain ⟨i, rfl, i0, i1, i58⟩ := hb
    refine ⟨_, _, _, _, rfl, rfl, (sq_lst (P2.2 _ _ (pot_ne P1 na1) ha1)), ex, _, _, rfl, P2.1, i0, i1, ?_⟩
    intro bg G3 b0 b1 P3
    obtain ⟨bg, rfl⟩ := Int.eq_ofNat_of_zero_le b0
    have bg58 : bg < 10 ^ 58 := by omega
    refine ⟨_, rfl, _, _, rfl, rfl, _, rfl, ?_⟩
    try dsimp only [tNil]
    refine ite2 (fun c => ?_) (fun c => ?_)
    · refine ⟨_, rfl, (by show 2 ≤ sizeLine; decide), ?_⟩
      intro a2 na2
      have Xa2 := ex_new (o := HO.tup [V.str (Str.ofString "at"), V.int (↑bg : Int)]) na2
      have ha2 : upd G3 a2 (HO.tup [V.str (Str.ofString "at"), V.int (↑bg : Int)]) a2 = some (HO.tup [V.str (Str.ofString "at"), V.int (↑bg : Int)]) := upd_same
      generalize upd G3 a2 (HO.tup [V.str (Str.ofString "at"), V.int (↑bg : Int)]) = Ga2 at Xa2 ha2 ⊢
      refine ⟨(by show 1 ≤ sizeLine; decide), ?_⟩
      intro a3 na3
      have Xa3 := ex_new (o := HO.lst [V.ref a2]) na3
      have ha3 : upd Ga2 a3 (HO.lst [V.ref a2]) a3 = some (HO.lst [V.ref a2]) := upd_same
      generalize upd Ga2 a3 (HO.lst [V.ref a2]) = Ga3 at Xa3 ha3 ⊢
      refine ⟨_, rfl, _, _, rfl, (pot_mono (pot_mono P3.1 Xa2) Xa3), (by decide), (by decide), ?_⟩
      intro dm H4 d0' d39 P4
      obtain ⟨dm, rfl⟩ := Int.eq_ofNat_of_zero_le d0'
      refine ⟨_, _, rfl, rfl, _, rfl, _, rfl, P4.1, ?_⟩
      intro g H5 hg P5
      refine ⟨_, _, rfl, rfl, (by show 4 ≤ sizeLine; decide), ?_⟩
      intro a4 na4
      have Xa4 := ex_new (o := HO.tup [V.str (Str.ofString "over"), V.ref a3, V.int (2 + (↑dm : Int)), V.int (1 + (↑g : Int))]) na4
      have ha4 : upd H5 a4 (HO.tup [V.str (Str.ofString "over"), V.ref a3, V.int (2 + (↑dm : Int)), V.int (1 + (↑g : Int))]) a4 = some (HO.tup [V.str (Str.ofString "over"), V.ref a3, V.int (2 + (↑dm : Int)), V.int (1 + (↑g : Int))]) := upd_same
      generalize upd H5 a4 (HO.tup [V.str (Str.ofString "over"), V.ref a3, V.int (2 + (↑dm : Int)), V.int (1 + (↑g : Int))]) = Ga4 at Xa4 ha4 ⊢
      refine ⟨(by show 1 ≤ sizeLine; decide), ?_⟩
      intro a5 na5
      have Xa5 := ex_new (o := HO.lst [V.ref a4]) na5
      have ha5 : upd Ga4 a5 (HO.lst [V.ref a4]) a5 = some (HO.lst [V.ref a4]) := upd_same
      generalize upd Ga4 a5 (HO.lst [V.ref a4]) = Ga5 at Xa5 ha5 ⊢
      try dsimp only [tNil]
      have P0a : PotOn H Ga3 p := ((((P1.ex2 Xa1).trans P2).trans P3).ex2 Xa2).ex2 Xa3
      have a3p := pot_ne (P3.ex2 Xa2) na3
      have a2p := pot_ne P3 na2
      have h3 := Xa5 _ _ (Xa4 _ _ (P5.2 _ _ a3p (P4.2 _ _ a3p ha3)))
      have h2 := Xa5 _ _ (Xa4 _ _ (P5.2 _ _ a2p (P4.2 _ _ a2p (Xa3 _ _ ha2))))
      have h4 := Xa5 _ _ ha4
      have PE : PotOn H Ga5 p := (((P0a.trans P4).trans P5).ex2 Xa4).ex2 Xa5
      have em : (2 : Int) + ((dm : Nat) : Int) = ((2 + dm : Nat) : Int) := by omega
      have es : (1 : Int) + ((g : Nat) : Int) = ((1 + g : Nat) : Int) := by omega
      rw [em, es] at h4
      have m0 : momsL [Tr.at bg] = [bg] := by rw [momsL_one, at_moms]
      have ok1 : (Tr.ov [.at bg] (2 + dm) (1 + g)).ok := by
        unfold Tr.ok
        rw [m0]
        exact ⟨by simp, by omega, by omega, by show (2 + dm) * 1 ≤ 1440; omega, by show bg < 1 + g + bg; omega, List.pairwise_singleton _ _, okL_one (at_ok bg)⟩
      have m1 : momsL [Tr.ov [.at bg] (2 + dm) (1 + g)] = overN [bg] (2 + dm) (1 + g) := by rw [momsL_one, Tr.moms, m0]
      have a3H : H a3 = none := (((P1.ex2 Xa1).trans P2).trans P3).ex2 Xa2 |>.fresh na3
      refine q a5 [a4] [.ov [.at bg] (2 + dm) (1 + g)] Ga5 ((P0a.trans P4).trans P5 |>.ex2 Xa4 |>.fresh na5) ha5 ?_ (by simp) (okL_one ok1) (by rw [nestL_one, Tr.nest, nestL_one, at_nest]; decide) rfl (by rw [m1, overN_len]; show (2 + dm) * 1 ≤ 40; omega) ?_ PE
      · refine lts_one ?_
        unfold LtAt
        exact ⟨a3, [a2], h4, ⟨a3H, ne_of_none (Xa4 _ _ (P5.2 _ _ a3p (P4.2 _ _ a3p ha3))) na5⟩, h3, lts_one (by unfold LtAt; exact h2)⟩
      · rw [m1, overN_last (by simp) (by omega)]
        show bg + (2 + dm - 1) * (1 + g) < 10 ^ 59
        have h40 : (2 + dm - 1) * (1 + g) ≤ 40 * 10 ^ 50 := Nat.mul_le_mul (by omega) (by omega)
        have hb2 : 40 * 10 ^ 50 + 10 ^ 58 < 10 ^ 59 := by decide +kernel
        omega
    · refine ⟨(by decide), ?_⟩
      intro a2 na2
      have Xa2 := ex_new (o := HO.lst [V.int 16, V.int 40]) na2
      have ha2 : upd G3 a2 (HO.lst [V.int 16, V.int 40]) a2 = some (HO.lst [V.int 16, V.int 40]) := upd_same
      generalize upd G3 a2 (HO.lst [V.int 16, V.int 40]) = Ga2 at Xa2 ha2 ⊢
      refine ⟨_, rfl, rfl, ?_⟩
      try dsimp only [tNil]
      refine .inr ⟨_, rfl, ?_⟩
      generalize decide (V.int sz = V.int 5) = b5
      have ix : ∃ room : Nat, atI [V.int 16, V.int 40] (if b5 = true then 1 else 0) = some (.int (room : Nat)) ∧ 1 ≤ room ∧ room ≤ 40 := by
        cases b5 with
        | true => exact ⟨40, rfl, by decide, by decide⟩
        | false => exact ⟨16, rfl, by decide, by decide⟩
      obtain ⟨room, ex5, r1, r40⟩ := ix
      refine ⟨_, _, _, _, rfl, rfl, (sq_lst ha2), ex5, _, rfl, _, rfl, _, _, _, rfl, (pot_mono P3.1 Xa2), (by decide), (by decide), r1, r40, ?_⟩
      intro r as ts H4 nr hr hA ts0 hok hne hri hhd hlen hlast P4
      have hne : nestL ts ≤ 4 := hne
      have hn9 : ∀ t ∈ ts, t.nest + 1 ≤ 9 := fun t ht => by have := nestL_mem ht; omega
      have hl1 := hA.len
      have hl3 := len_moms hok
      have nrG := P3.fresh (ex_fresh Xa2 nr)
      have PG : PotOn H H4 p := (((P1.ex2 Xa1).trans P2).trans P3).ex2 Xa2 |>.trans P4
      refine ⟨_, rfl, ⟨_, sq_lst hr⟩, fun A nA => lc_any (L2.walk_list (K := K) (a := r) (xs := as.map V.ref)) (fun i acc G => Ex H4 G ∧ (G A = none ∨ ∃ xs, G A = some (.lst xs)) ∧ ∃ bs, acc = bs.map V.ref ∧ LtsAt (fun b => H4 b = none ∧ b ≠ A) G ((shiftL bg ts).take i) bs) (fun i acc G z e => ?_) ⟨.refl _, .inl nA, [], rfl, by unfold LtsAt; rfl⟩ (by rw [List.length_map]; omega) (fun i acc G e => ?_) (fun i acc G e => sq_lst (e.1 _ _ hr)) (fun i x G G' acc N hi e hA' la y k _ => ?_) (fun acc G e hA' => ?_)⟩
      · obtain ⟨e1, e2, bs, e3, e4⟩ := e
        refine ⟨ex_mut e1 nA, .inr ⟨_, upd_same⟩, bs, e3, ?_⟩
        rcases e2 with e2 | ⟨xs, e2⟩
        · exact e4.mono (ex_new e2)
        · exact e4.keep (keeps_put e2 fun b nb => nb.2)
      · obtain ⟨_, _, bs, rfl, e4⟩ := e
        rw [List.length_map, e4.len, List.length_take]
        omega
      · obtain ⟨rfl, y⟩ := y
        obtain ⟨XG, _, bs, rfl, h1⟩ := e
        rw [List.getElem?_map] at y
        obtain ⟨c, hc, rfl⟩ := Option.map_eq_some_iff.mp y
        obtain ⟨t, ht, hDt⟩ := hA.get hc
        have htm := List.mem_of_getElem? ht
        refine ⟨rfl, _, rfl, _, rfl, _, c, t, bg, rfl, hDt.mono XG, hn9 t htm, okL_mem hok htm, fun a4 G2 X2 na4 hS3 => ⟨_, X2 _ _ hA', la, ?_⟩⟩
        refine k _ G2 (X2 _ _ hA') ⟨XG.trans X2, .inr ⟨_, X2 _ _ hA'⟩, bs ++ [a4], by rw [List.map_append]; rfl, ?_⟩
        rw [take_snoc (x := t.shift bg) (by rw [shiftL_map, List.getElem?_map, ht]; rfl)]
        exact (h1.mono X2).snoc (hS3.imp fun b nb => ⟨ex_fresh XG nb, fun z => by rw [z, hA'] at nb; cases nb⟩)
      · obtain ⟨XG, _, bs, rfl, hSh⟩ := e
        rw [List.length_map, hl1, List.take_of_length_le (by rw [shiftL_map, List.length_map]; omega)] at hSh
        have nn := momsL_ne hok ts0
        have PW : PartW 0 + GAP ≤ 10 * GAP := by decide +kernel
        have hb1 : (momsL ts).length * (PartW 0 + GAP) ≤ 40 * (10 * GAP) := Nat.mul_le_mul (by omega) PW
        have hb2 : 40 * (10 * GAP) + 10 ^ 58 < 10 ^ 59 := by decide +kernel
        obtain ⟨M, hM⟩ : ∃ M, M = (momsL ts).length * (PartW 0 + GAP) := ⟨_, rfl⟩
        rw [← hM] at hb1
        have hlast' : (momsL ts).getLastD 0 + 1 ≤ M := by rw [hM]; exact hlast
        have hb3 : M + 10 ^ 58 < 10 ^ 59 := Nat.lt_of_le_of_lt (Nat.add_le_add_right hb1 _) hb2
        clear hb1 hb2 hlast hM
        refine q A bs (shiftL bg ts) G (PG.fresh nA) hA' (hSh.imp fun b nb => ⟨PG.fresh nb.1, nb.2⟩) (by rw [shiftL_map]; simpa using ts0) (okL_shift bg ts hok) (by rw [nestL_shift]; exact hne) ?_ (by rw [momsL_shift, List.length_map]; omega) (by rw [momsL_shift, lastD_map bg nn]; omega) (PG.ex2 XG)
        refine ris_of (okL_shift bg ts hok) ?_
        rw [momsL_shift]
        exact List.pairwise_map.mpr ((ris_sorted hok hri).imp fun h => by omega)
theorem ok__law_tree {P : Program} {w : World} {K : PySem.W.Frag} {mg : Str → Option Value} {base : Heap} (T : Env K mg) : Fc P w K mg base 90 (He.ga K "_law_tree") [] (sp__law_tree K ) := by
  obtain ⟨fd, D, F⟩ := fb__law_tree T
  exact F.all (D.bindsN fun _ _ _ _ _ _ us hl => match us, hl with | [_], _ => rfl)
end
section
def sp__law_list (K : PySem.W.Frag) : Sp := fun vs H Q _ => ∃ (p : Addr), vs = [.ref p] ∧ Pot H p ∧ ∀ (f : Addr) (ns : List Nat) H', H f = none → H' f = some (.lst (natV ns)) → ns.Pairwise (· < ·) → ns.length ≤ 40 → (∀ n ∈ ns, n < 10 ^ 60) → PotOn H H' p → Q (.ref f) H'
theorem fb__law_list {P : Program} {w : World} {K : PySem.W.Frag} {mg : Str → Option Value} {base : Heap} (T : Env K mg) : ∃ fd, FunD K "_law_list" "_law_list" (defArgs s__law_list) (defBody s__law_list) (defScope s__law_list) [] [] (He.ga K "_law_list") fd ∧ Fb P w K mg base 95 (He.ga K "_law_list") fd ["_law_pot_here"] (sp__law_list K) := by
  obtain ⟨fd, F⟩ := T.f__law_list
  refine ⟨fd, F, fb_of F sc__law_list (fun vs H Q E h => ?_) (fun cdv A outer s H vs Q E hr h => ?_)⟩
  · obtain ⟨p, rfl, _⟩ := h
    rfl
  · obtain ⟨p, rfl, hp, q⟩ := h
    refine ⟨_, (pss_cons (ps_set (i := 1) sc__law_list.nd rfl (Or.inl rfl) (c_call (all__law_means T 9) (hr.mono (by decide)) T.g__law_means T.k__law_means takes0 (pa_cons (c_call (ok__law_tree T) (hr.mono (by decide)) T.g__law_tree T.k__law_tree takes0 (pa_cons (pv 0) pa_nil)) pa_nil)))
      (pss_cons (ps_set (i := 2) sc__law_list.nd rfl (Or.inl rfl) (c_call (ok__law_draw T) (hr.mono (by decide)) T.g__law_draw T.k__law_draw takes0 (pa_cons (pv 0) (pa_cons pe_int pa_nil))))
      (pss_cons (ps_for (passes_of rfl) rfl (pi_range1 (by rfl) T.n_range (pa_cons (pe_op op_add pe_int (c_call (ok__law_draw T) (hr.mono (by decide)) T.g__law_draw T.k__law_draw takes0 (pa_cons (pv 0) (pa_cons pe_int pa_nil)))) pa_nil)) (pg_name (i := 3) sc__law_list.nd rfl (Or.inl rfl))
      (Evl.pss_cut (ps_if (PW.pt (pw_and (pt_cmpR op_eq (pv 2) pe_int (nomark _)) (pw_and1 (pt_cmpR (op_neE hr.rm.units) (pv 1) (pe_lst pa_nil) (nomark _)))))
      (pss_one (ps_expr (pe_bm PySem.F.plainAttrs_list PySem.F.slot_list_pop PySem.F.type_list_pop mt_popAt (pv 1) (pa_cons (c_call (ok__law_draw T) (hr.mono (by decide)) T.g__law_draw T.k__law_draw takes0 (pa_cons (pv 0) (pa_cons (pe_callB call_len (by rfl) T.n_len (by decide +kernel) (pa_cons (pv 1) pa_nil)) pa_nil))) pa_nil))))
      pss_nil)
      (pss_one (ps_if (PW.pt (pw_and (pt_cmpR op_eq (pv 2) pe_int (nomark _)) (pw_and1 (pt_cmpR op_lt (pe_callB call_len (by rfl) T.n_len (by decide +kernel) (pa_cons (pv 1) pa_nil)) pe_int (nomark _)))))
      (pss_cons (ps_set (i := 4) sc__law_list.nd rfl (Or.inl rfl) (pe_op op_add (pe_op op_add (pe_ix ix_list (pv 1) (c_call (ok__law_draw T) (hr.mono (by decide)) T.g__law_draw T.k__law_draw takes0 (pa_cons (pv 0) (pa_cons (pe_callB call_len (by rfl) T.n_len (by decide +kernel) (pa_cons (pv 1) pa_nil)) pa_nil))) (fun _ _ => rfl)) pe_int) (c_call (ok__law_draw T) (hr.mono (by decide)) T.g__law_draw T.k__law_draw takes0 (pa_cons (pv 0) (pa_cons pe_int pa_nil)))))
      (pss_one (ps_if (pt_cmpR op_notIn_seq (pv 4) (pv 1) (by rfl))
      (pss_one (ps_expr (pe_bm PySem.F.plainAttrs_list PySem.F.slot_list_append PySem.F.type_list_append mt_append (pv 1) (pa_cons (pv 4) pa_nil))))
      pss_nil)))
      pss_nil))))
      (pss_one (ps_ret (pe_callB (cr_sortedA K) (by rfl) T.n_sorted (by decide +kernel) (pa_cons (pv 1) pa_nil))))))), ?_⟩
    refine ⟨_, rfl, _, rfl, hp, ?_⟩
    intro r as ts H1 nr hr hA ts0 hok hne hri hlen hlast P1
    have hn9 : nestL ts + 1 ≤ 9 := by omega
    have hl2 : (momsL ts).length ≤ 2000 := by omega
    have nn := momsL_ne hok ts0
    have so := ris_sorted hok hri
    refine ⟨_, _, _, _, rfl, hr, hA, hn9, hok, hl2, ?_⟩
    intro f H2 X2 nf hf
    refine ⟨_, rfl, _, _, rfl, (pot_mono P1.1 X2), (by decide), (by decide), ?_⟩
    intro way H3 w0 w4 P3
    refine ⟨_, rfl, _, _, rfl, P3.1, (by decide), (by decide), ?_⟩
    intro e H4 e0 e2 P4
    refine ⟨_, _, rfl, rfl, _, rfl, (by omega), (by omega), ?_⟩
    have nfH := P1.fresh nf
    have f2 : f ≠ p := pot_ne P1 nf
    have hf4 := P4.2 _ _ f2 (P3.2 _ _ f2 hf)
    have P04 : PotOn H H4 p := ((P1.ex2 X2).trans P3).trans P4
    refine for_range (fun i σ H' => PotOn H H' p ∧ ∃ (ns : List Nat) (v3 v4 : Option V), H' f = some (.lst (natV ns)) ∧ ns.Nodup ∧ ns.length ≤ 40 ∧ (∀ n ∈ ns, n < 10 ^ 59 + 5 * i) ∧ (way = 3 → ns ≠ []) ∧ σ = [some (.ref p), some (.ref f), some (.int way), v3, v4]) ⟨P04, momsL ts, none, none, hf4, so.imp (fun h => Nat.ne_of_lt h), hlen, fun n hn => by have := le_lastD so n hn; omega, fun _ => nn, rfl⟩ ?_ ?_
    · rintro i σ H5 hi ⟨P5, ns, v3, v4, hf5, hnd, hln, hb, h3, rfl⟩
      refine ⟨fun σ' H' => PotOn H H' p ∧ ∃ (ns : List Nat) (v4 : Option V), H' f = some (.lst (natV ns)) ∧ ns.Nodup ∧ ns.length ≤ 40 ∧ (∀ n ∈ ns, n < 10 ^ 59 + 5 * i) ∧ (way = 3 → ns ≠ []) ∧ σ' = [some (.ref p), some (.ref f), some (.int way), some (.int (0 + (i : Nat))), v4], ?_, ?_⟩
      · refine ⟨_, rfl, rfl, _, rfl, ?_⟩
        try dsimp only [tNil]
        refine ite2 (fun c => ?_) (fun c => ⟨P5, ns, v4, hf5, hnd, hln, hb, h3, rfl⟩)
        refine ⟨_, rfl, (by decide), ?_⟩
        intro a1 na1
        have Xa1 := ex_new (o := HO.lst []) na1
        have ha1 : upd H5 a1 (HO.lst []) a1 = some (HO.lst []) := upd_same
        generalize upd H5 a1 (HO.lst []) = Ga1 at Xa1 ha1 ⊢
        refine ⟨_, _, _, rfl, rfl, (sq_lst (Xa1 _ _ hf5)), (sq_lst ha1), _, rfl, ?_⟩
        try dsimp only [tNil]
        refine ite2 (fun cz => ?_) (fun _ => ⟨P5.ex2 Xa1, ns, v4, Xa1 _ _ hf5, hnd, hln, hb, h3, rfl⟩)
        have n0 : 0 < ns.length := by
          cases ns with
          | nil => cases cz
          | cons x r => exact Nat.succ_pos _
        have hf6 := Xa1 _ _ hf5
        have c2 : way ≠ 3 := fun z => by rw [z] at c; exact absurd (of_decide_eq_true c) (by simp)
        have d0 : (0 : Int) < ((natV ns).length : Nat) := by rw [natV_len]; omega
        have d1 : (((natV ns).length : Nat) : Int).toNat < 10 ^ 200 := by rw [natV_len]; exact Nat.lt_of_le_of_lt (show _ ≤ 40 by omega) (by decide +kernel)
        refine ⟨_, rfl, (.inl ⟨rfl, ⟨_, (sq_lst hf6)⟩⟩), _, rfl, _, rfl, _, _, rfl, (.inl ⟨_, ⟨(sq_lst hf6), rfl⟩⟩), _, _, rfl, (pot_mono P5.1 Xa1), d0, d1, ?_⟩
        intro k H7 k0 k1 P7
        rw [natV_len] at k1
        obtain ⟨k, rfl⟩ := Int.eq_ofNat_of_zero_le k0
        have kl : k < ns.length := Int.ofNat_lt.mp k1
        have hf7 := P7.2 _ _ f2 hf6
        refine ⟨f, natV ns, k, k, .int (ns[k] : Nat), rfl, rfl, hf7, by omega, by omega, by rw [natV_len]; exact seqIx_nat kl, natV_get (List.getElem?_eq_getElem kl), ?_⟩
        rw [natV_erase]
        refine ⟨pot_upd ((P5.ex2 Xa1).trans P7) nfH f2, ns.eraseIdx k, v4, upd_same, hnd.eraseIdx k, by rw [List.length_eraseIdx_of_lt kl]; omega, fun n hn => hb n (List.mem_of_mem_eraseIdx hn), fun z => absurd z c2, rfl⟩
      · clear hf5 hnd hln hb h3 P5 ns v4
        rintro σ' H6 ⟨P6, ns, v4, hf6, hnd, hln, hb, h3, rfl⟩
        refine ⟨_, rfl, rfl, _, rfl, ?_⟩
        try dsimp only [tNil]
        refine ite2 (fun c => ?_) (fun c => iteF ⟨P6, ns, _, v4, hf6, hnd, hln, fun n hn => by have := hb n hn; omega, h3, rfl⟩)
        have w3 : way = 3 := by
          have z := of_decide_eq_true c
          injection z
        have ns0 := h3 w3
        have n0 : 0 < ns.length := List.length_pos_iff.mpr ns0
        have d0 : (0 : Int) < ((natV ns).length : Nat) := by rw [natV_len]; omega
        have d1 : (((natV ns).length : Nat) : Int).toNat < 10 ^ 200 := by rw [natV_len]; exact Nat.lt_of_le_of_lt (show _ ≤ 40 by omega) (by decide +kernel)
        refine ⟨_, rfl, _, _, rfl, (.inl ⟨_, ⟨(sq_lst hf6), rfl⟩⟩), _, _, rfl, rfl, _, rfl, ?_⟩
        try dsimp only [tNil]
        refine ite2 (fun c40 => ?_) (fun _ => ⟨P6, ns, _, v4, hf6, hnd, hln, fun n hn => by have := hb n hn; omega, h3, rfl⟩)
        have l40 : ns.length < 40 := by
          have z := of_decide_eq_true c40
          rw [natV_len] at z
          omega
        refine ⟨_, rfl, _, rfl, _, rfl, _, _, rfl, (.inl ⟨_, ⟨(sq_lst hf6), rfl⟩⟩), _, _, rfl, P6.1, d0, d1, ?_⟩
        intro k H7 k0 k1 P7
        rw [natV_len] at k1
        obtain ⟨k, rfl⟩ := Int.eq_ofNat_of_zero_le k0
        have kl : k < ns.length := Int.ofNat_lt.mp k1
        have hf7 := P7.2 _ _ f2 hf6
        have hk := atI_nat (natV_get (List.getElem?_eq_getElem kl))
        refine ⟨_, _, _, _, rfl, rfl, (sq_lst hf7), hk, _, _, rfl, rfl, _, rfl, _, _, rfl, P7.1, (by decide), (by decide), ?_⟩
        intro d H8 d0' d3 P8
        obtain ⟨d, rfl⟩ := Int.eq_ofNat_of_zero_le d0'
        have hf8 := P8.2 _ _ f2 hf7
        have e9 : ((ns[k] : Nat) : Int) + 1 + ((d : Nat) : Int) = ((ns[k] + 1 + d : Nat) : Int) := by omega
        have PP := (P6.trans P7).trans P8
        refine ⟨_, _, rfl, rfl, ?_⟩
        dsimp only
        rw [e9]
        obtain ⟨x, hx⟩ : ∃ x, x = ns[k] + 1 + d := ⟨_, rfl⟩
        rw [← hx]
        have hxb : x < 10 ^ 59 + 5 * (i + 1) := by
          have := hb _ (List.getElem_mem kl)
          omega
        have fl := flat_nat ns
        have fx : flatV (V.int (x : Nat)) = true := rfl
        refine ⟨_, rfl, _, rfl, f, _, rfl, .inl (sq_lst hf8), fx, fl, ?_⟩
        rw [inV_nat]
        refine ⟨_, rfl, ite2 (fun cx => ?_) (fun cx => ⟨PP, ns, _, _, hf8, hnd, hln, fun n hn => by have := hb n hn; omega, h3, rfl⟩)⟩
        have nx : x ∉ ns := fun z => by
          rw [decide_eq_true z] at cx
          cases cx
        have hz : (natV ns).length < sizeLine := sz_lt (by rw [natV_len]; omega)
        refine ⟨_, rfl, .inl ⟨rfl, _, sq_lst hf8⟩, _, rfl, f, natV ns, .int (x : Nat), rfl, rfl, hf8, hz, ?_⟩
        rw [natV_snoc]
        refine ⟨pot_upd PP nfH f2, ns ++ [x], _, _, upd_same, ?_, by rw [List.length_append]; show _ + 1 ≤ 40; omega, fun n hn => ?_, fun _ => by simp, rfl⟩
        · refine List.nodup_append.mpr ⟨hnd, List.pairwise_singleton _ _, fun a ha b hb' z => ?_⟩
          rw [List.mem_singleton.mp hb'] at z
          exact nx (z ▸ ha)
        · rcases List.mem_append.mp hn with hn | hn
          · have := hb n hn
            omega
          · rw [List.mem_singleton.mp hn]
            exact hxb
    · rintro σ H5 ⟨P5, ns, v3, v4, hf5, hnd, hln, hb, h3, rfl⟩
      refine ⟨_, rfl, ?_⟩
      refine ⟨f, ns.map (fun n : Nat => (n : Int)), rfl, .inl (by rw [← nat_int]; exact sq_lst hf5), fun o no => ?_⟩
      rw [natV_srt]
      refine q o (srtN ns) _ (P5.fresh no) upd_same (srtN_lt hnd) (by rw [srtN_len]; exact hln) (fun n hn => ?_) (P5.ex2 (ex_new no))
      have := hb n ((srtN_mem n ns).mp hn)
      omega
theorem ok__law_list {P : Program} {w : World} {K : PySem.W.Frag} {mg : Str → Option Value} {base : Heap} (T : Env K mg) : Fc P w K mg base 95 (He.ga K "_law_list") [] (sp__law_list K ) := by
  obtain ⟨fd, D, F⟩ := fb__law_list T
  exact F.all (D.bindsN fun _ _ _ _ _ _ us hl => match us, hl with | [_], _ => rfl)
end
section
def sp__law_turned (K : PySem.W.Frag) : Sp := fun vs H Q _ => ∃ (p r : Addr) (ns : List Nat), vs = [.ref p, .ref r] ∧ Pot H p ∧ r ≠ p ∧ H r = some (.lst (natV ns)) ∧ ns.length ≤ 40 ∧ ∀ (f : Addr) (ms : List Nat) H', H f = none → H' f = some (.lst (natV ms)) → ms.Perm ns → PotOn H H' p → Q (.ref f) H'
theorem fb__law_turned {P : Program} {w : World} {K : PySem.W.Frag} {mg : Str → Option Value} {base : Heap} (T : Env K mg) : ∃ fd, FunD K "_law_turned" "_law_turned" (defArgs s__law_turned) (defBody s__law_turned) (defScope s__law_turned) [] [] (He.ga K "_law_turned") fd ∧ Fb P w K mg base 2 (He.ga K "_law_turned") fd ["_law_pot_here", "_law_row"] (sp__law_turned K) := by
  obtain ⟨fd, F⟩ := T.f__law_turned
  refine ⟨fd, F, fb_of F sc__law_turned (fun vs H Q E h => ?_) (fun cdv A outer s H vs Q E hr h => ?_)⟩
  · obtain ⟨p, r, ns, rfl, _⟩ := h
    rfl
  · obtain ⟨p, r, ns, rfl, hp, rp, hw, hl, q⟩ := h
    refine ⟨_, (pss_cons (ps_set (i := 2) sc__law_turned.nd rfl (Or.inl rfl) (pe_lst pa_nil))
      (pss_cons (ps_for (passes_of rfl) rfl (pi_list (pv 1)) (pg_name (i := 3) sc__law_turned.nd rfl (Or.inl rfl))
      (pss_one (ps_expr (pe_bm PySem.F.plainAttrs_list PySem.F.slot_list_insert PySem.F.type_list_insert mt_insert (pv 2) (pa_cons (c_call (ok__law_draw T) (hr.mono (by decide)) T.g__law_draw T.k__law_draw takes0 (pa_cons (pv 0) (pa_cons (pe_op op_add (pe_callB call_len (by rfl) T.n_len (by decide +kernel) (pa_cons (pv 2) pa_nil)) pe_int) pa_nil))) (pa_cons (pv 3) pa_nil))))))
      (pss_one (ps_ret (pv 2))))), ?_⟩
    refine ⟨(by decide), ?_⟩
    intro a1 na1
    have Xa1 := ex_new (o := HO.lst []) na1
    have ha1 : upd H a1 (HO.lst []) a1 = some (HO.lst []) := upd_same
    generalize upd H a1 (HO.lst []) = Ga1 at Xa1 ha1 ⊢
    refine ⟨_, rfl, _, rfl, ⟨_, (sq_lst (Xa1 _ _ hw))⟩, ?_⟩
    have P1 : PotOn H Ga1 p := (PotOn.refl hp).ex2 Xa1
    have a1p := pot_ne (PotOn.refl hp) na1
    refine for_on ns (fun n : Nat => V.int n) L2.walk_list (fun i σ H' => PotOn H H' p ∧ ∃ (ms : List Nat) (v3 : Option V), σ = [some (.ref p), some (.ref r), some (.ref a1), v3] ∧ H' a1 = some (.lst (natV ms)) ∧ ms.Perm (ns.take i)) ⟨P1, [], none, rfl, ha1, .nil⟩ (fun i σ H' z => sq_lst (z.1.2 _ _ rp hw)) ?_ ?_
    · rintro i n σ H2 hx ⟨P2, ms, v3, rfl, hf, hm⟩
      have hlm := hm.length_eq
      rw [List.length_take] at hlm
      have d0 : (0 : Int) < ((natV ms).length : Nat) + 1 := by omega
      have d1 : (((natV ms).length : Nat) + 1 : Int).toNat < 10 ^ 200 := by rw [natV_len]; exact Nat.lt_of_le_of_lt (show _ ≤ 1000 by omega) (by decide +kernel)
      refine ⟨_, rfl, (.inl ⟨rfl, ⟨_, (sq_lst hf)⟩⟩), _, rfl, _, rfl, _, _, rfl, (.inl ⟨_, ⟨(sq_lst hf), rfl⟩⟩), _, _, rfl, rfl, _, _, rfl, P2.1, d0, d1, ?_⟩
      intro k H3 k0 k1 P3
      rw [natV_len] at k1
      obtain ⟨k, rfl⟩ := Int.eq_ofNat_of_zero_le k0
      have hf3 := P3.2 _ _ a1p hf
      have hz : (natV ms).length < sizeLine := sz_lt (by rw [natV_len]; omega)
      refine ⟨_, rfl, a1, natV ms, k, .int (n : Nat), rfl, rfl, hf3, hz, by omega, by omega, ?_⟩
      have el : (natV ms).take k ++ [V.int (n : Nat)] ++ (natV ms).drop k = natV (ms.take k ++ [n] ++ ms.drop k) := by
        unfold natV
        rw [List.map_append, List.map_append, List.map_take, List.map_drop]
        rfl
      rw [show ((k : Nat) : Int).toNat = k by omega, el]
      refine ⟨pot_upd (P2.trans P3) na1 a1p, _, _, rfl, upd_same, ?_⟩
      rw [take_snoc hx]
      refine List.Perm.trans ?_ (hm.append_right [n])
      rw [List.append_assoc]
      have e : (ms.take k ++ ([n] ++ ms.drop k)).Perm (ms.take k ++ (ms.drop k ++ [n])) := List.Perm.append_left _ List.perm_append_comm
      rw [← List.append_assoc (ms.take k) (ms.drop k), List.take_append_drop] at e
      exact e
    · rintro σ H2 ⟨P2, ms, v3, rfl, hf, hm⟩
      rw [List.take_length] at hm
      exact ⟨_, rfl, q a1 ms H2 na1 hf hm P2⟩
theorem ok__law_turned {P : Program} {w : World} {K : PySem.W.Frag} {mg : Str → Option Value} {base : Heap} (T : Env K mg) : Fc P w K mg base 2 (He.ga K "_law_turned") [] (sp__law_turned K ) := by
  obtain ⟨fd, D, F⟩ := fb__law_turned T
  exact F.all (D.bindsN fun _ _ _ _ _ _ us hl => match us, hl with | [_, _], _ => rfl)
end
section
def sp__law_whole (K : PySem.W.Frag) : Sp := fun vs H Q _ => ∃ i : Int, vs = [.int i] ∧ Q (.bl true) H
theorem fb__law_whole {P : Program} {w : World} {K : PySem.W.Frag} {mg : Str → Option Value} {base : Heap} (T : Env K mg) : ∃ fd, FunD K "_law_whole" "_law_whole" (defArgs s__law_whole) (defBody s__law_whole) (defScope s__law_whole) [] [] (He.ga K "_law_whole") fd ∧ Fb P w K mg base 1 (He.ga K "_law_whole") fd ["_law_one"] (sp__law_whole K) := by
  obtain ⟨fd, F⟩ := T.f__law_whole
  refine ⟨fd, F, fb_of F sc__law_whole (fun vs H Q E h => ?_) (fun cdv A outer s H vs Q E hr h => ?_)⟩
  · obtain ⟨i, rfl, _⟩ := h
    rfl
  · obtain ⟨i, rfl, q⟩ := h
    refine ⟨_, (pss_one (ps_ret (pe_and (pe_callB call_isi (by rfl) T.n_isinstance (by decide +kernel) (pa_cons (pv 0) (pa_cons (pe_bltn (v := .ty "int") (by rfl) T.n_int (by decide +kernel) rfl) pa_nil))) (pe_one (pe_not (pe_callB call_isi (by rfl) T.n_isinstance (by decide +kernel) (pa_cons (pv 0) (pa_cons (pe_bltn (v := .ty "bool") (by rfl) T.n_bool (by decide +kernel) rfl) pa_nil)))))))), ?_⟩
    refine ⟨_, rfl, _, _, _, _, _, rfl, .ty _, .base (.int _), (kit_ty (r := true) (by decide +kernel)), _, rfl, _, rfl, _, _, _, _, _, rfl, .ty _, .base (.int _), (kit_ty (r := false) (by decide +kernel)), _, rfl, ?_⟩
    try dsimp only [tNil]
    exact q
theorem ok__law_whole {P : Program} {w : World} {K : PySem.W.Frag} {mg : Str → Option Value} {base : Heap} (T : Env K mg) : Fc P w K mg base 1 (He.ga K "_law_whole") [] (sp__law_whole K ) := by
  obtain ⟨fd, D, F⟩ := fb__law_whole T
  exact F.all (D.bindsN fun _ _ _ _ _ _ us hl => match us, hl with | [_], _ => rfl)
end
section
def sp__law_over_walked (K : PySem.W.Frag) (d : Nat) : Sp := fun vs H Q _ => ∃ (a : Addr) (ps : List Tr) (m s : Nat), vs = [.ref a] ∧ ShAt K H (.ov ps m s) a ∧ (Tr.ov ps m s).nest ≤ d ∧ (Tr.ov ps m s).ok ∧ ∀ (t f : Addr) H', Ex H H' → H' t = some (.tup [.ref f, .int ((Tr.ov ps m s).pcs : Nat)]) → H' f = some (.lst (natV (Tr.ov ps m s).moms)) → Q (.ref t) H'
def sp__law_walked (K : PySem.W.Frag) (d : Nat) : Sp := fun vs H Q _ => ∃ (l : Addr) (as : List Addr) (ts : List Tr), vs = [.ref l] ∧ SqL K H l (as.map V.ref) ∧ ShsAt K H ts as ∧ nestL ts ≤ d ∧ okL_ ts ∧ (momsL ts).Pairwise (· < ·) ∧ (momsL ts).length ≤ 1440 ∧ ∀ (t f : Addr) H', Ex H H' → H' t = some (.tup [.ref f, .int (pcsL ts : Nat)]) → H' f = some (.lst (natV (momsL ts))) → Q (.ref t) H'
end
section
theorem fb__law_walked {P : Program} {w : World} {K : PySem.W.Frag} {mg : Str → Option Value} {base : Heap} (T : Env K mg) {d L : Nat} (hL : 40 ≤ L) (r__law_over_walked : Fc P w K mg base L (He.ga K "_law_over_walked") [] (sp__law_over_walked K d)) : ∃ fd, FunD K "_law_walked" "_law_walked" (defArgs s__law_walked) (defBody s__law_walked) (defScope s__law_walked) [] [] (He.ga K "_law_walked") fd ∧ Fb P w K mg base (L + 1) (He.ga K "_law_walked") fd ["_law_shorts"] (sp__law_walked K (d)) := by
  obtain ⟨fd, F⟩ := T.f__law_walked
  refine ⟨fd, F, fb_of F sc__law_walked (fun vs H Q E h => ?_) (fun cdv A outer s H vs Q E hr h => ?_)⟩
  · obtain ⟨l, as, ts, rfl, _⟩ := h
    rfl
  · obtain ⟨l, as, ts, rfl, hl, hA, hn, hok, pw, h14, q⟩ := h
    refine ⟨_, (pss_cons (ps_set (i := 1) sc__law_walked.nd rfl (Or.inl rfl) (pe_lst pa_nil))
      (pss_cons (ps_set (i := 2) sc__law_walked.nd rfl (Or.inl rfl) pe_int)
      (pss_cons (ps_for (passes_of rfl) rfl (pi_list (pv 0)) (pg_name (i := 3) sc__law_walked.nd rfl (Or.inl rfl))
      (pss_cons (ps_set (i := 4) sc__law_walked.nd rfl (Or.inl rfl) pe_non)
      (Evl.pss_cut (ps_if (pt_val (pe_callB call_isi (by rfl) T.n_isinstance (by decide +kernel) (pa_cons (pv 3) (pa_cons (pe_glob (v := .ref _) (by rfl) T.g_At rfl) pa_nil))))
      (pss_one (ps_set (i := 4) sc__law_walked.nd rfl (Or.inl rfl) (pe_tup (pa_cons (pe_lst (pa_cons (pe_fld (pv 3) (by rfl)) pa_nil)) (pa_cons pe_int pa_nil)))))
      (pss_one (ps_if (pt_val (pe_callB call_isi (by rfl) T.n_isinstance (by decide +kernel) (pa_cons (pv 3) (pa_cons (pe_glob (v := .ref _) (by rfl) T.g_Over rfl) pa_nil))))
      (pss_one (ps_set (i := 4) sc__law_walked.nd rfl (Or.inl rfl) (c_call r__law_over_walked (hr.mono (by omega)) T.g__law_over_walked T.k__law_over_walked takes0 (pa_cons (pv 3) pa_nil))))
      pss_nil)))
      (pss_cons (ps_if (PW.pt (pw_or (pt_cmpR op_isN (pv 4) pe_non (nomark _)) (pw_or1 (PW.pt (pw_and (pt_cmpR (op_neE hr.rm.units) (pv 1) (pe_lst pa_nil) (nomark _)) (pw_and1 (pt_cmpR op_le (pe_ix ix_list (pe_ix ix_tup (pv 4) pe_int (fun _ _ => rfl)) pe_int (fun _ _ => rfl)) (pe_ix ix_list (pv 1) (pe_un un_neg pe_int) (fun _ _ => rfl)) (nomark _))))))))
      (pss_one (ps_ret pe_non))
      pss_nil)
      (pss_cons (ps_set (i := 1) sc__law_walked.nd rfl (Or.inl rfl) (pe_op op_cat (pv 1) (pe_ix ix_tup (pv 4) pe_int (fun _ _ => rfl))))
      (pss_one (ps_set (i := 2) sc__law_walked.nd rfl (Or.inl rfl) (pe_op op_add (pv 2) (pe_ix ix_tup (pv 4) pe_int (fun _ _ => rfl))))))))))
      (pss_one (ps_ret (pe_tup (pa_cons (pv 1) (pa_cons (pv 2) pa_nil)))))))), ?_⟩
    refine ⟨by show 0 ≤ sizeLine; decide, fun f0 nf0 => ?_⟩
    have X1 := ex_new (o := .lst []) nf0
    have hf0 : upd H f0 (.lst []) f0 = some (.lst (natV [])) := upd_same
    generalize upd H f0 (.lst []) = H1 at X1 hf0 ⊢
    have hl1 := ex_sql X1 hl
    have asl := hA.len
    refine ⟨_, rfl, _, rfl, ⟨_, hl1⟩, for_on as V.ref (L2.walk_list (K := K) (a := l) (xs := as.map V.ref)) (fun i σ G => Ex H1 G ∧ ∃ (f : Addr) (v3 v4 : Option V), G f = some (.lst (natV (momsL (ts.take i)))) ∧ σ = [some (.ref l), some (.ref f), some (.int (pcsL (ts.take i) : Nat)), v3, v4]) ⟨.refl _, f0, none, none, by rw [List.take_zero]; exact hf0, by rw [List.take_zero]; rfl⟩ (fun i σ G z => ex_sql z.1 hl1) ?_ ?_⟩
    · rintro i b σ G hb ⟨XG, f, v3, v4, hf, rfl⟩
      obtain ⟨t, ht, hT⟩ := (hA.mono (X1.trans XG)).get hb
      have htm := List.mem_of_getElem? ht
      have htk := okL_mem hok htm
      have hnt := nestL_mem htm
      have hml := momsL_le htm
      have mt := momsL_take ht
      have lt := momsL_take_len ts i
      have lt2 := momsL_take_len ts (i + 1)
      have pt : pcsL (ts.take (i + 1)) = pcsL (ts.take i) + t.pcs := by
        rw [take_snoc ht, pcsL_app]
        simp [pcsL]
      have pw2 : (momsL (ts.take i) ++ t.moms).Pairwise (· < ·) := by
        have e := List.take_append_drop (i + 1) ts
        rw [← e, momsL_app] at pw
        rw [← mt]
        exact (List.pairwise_append.mp pw).1
      have tp := pos_moms t htk
      have tne : t.moms ≠ [] := fun z => by rw [z] at tp; exact absurd tp (by decide)
      refine ⟨fun σ G' => Ex G G' ∧ ∃ (o g : Addr), G' o = some (.tup [.ref g, .int (t.pcs : Nat)]) ∧ G' g = some (.lst (natV t.moms)) ∧ σ = [some (.ref l), some (.ref f), some (.int (pcsL (ts.take i) : Nat)), some (.ref b), some (.ref o)], ?_, ?_⟩
      · cases t with
        | «at» n =>
          unfold ShAt at hT
          obtain ⟨dx, hT⟩ := hT
          refine ⟨_, rfl, _, _, _, _, _, rfl, .own _, ty_ins T.i_At T.c_At hT, T.kit_At_At, _, rfl, _, rfl, _, _, _, _, _, rfl, hT, T.c_At, T.a_At_moment, rfl, (by show 1 ≤ sizeLine; decide), ?_⟩
          intro a1 na1
          have Xa1 := ex_new (o := HO.lst [V.int (↑n : Int)]) na1
          have ha1 : upd G a1 (HO.lst [V.int (↑n : Int)]) a1 = some (HO.lst [V.int (↑n : Int)]) := upd_same
          generalize upd G a1 (HO.lst [V.int (↑n : Int)]) = Ga1 at Xa1 ha1 ⊢
          refine ⟨(by show 2 ≤ sizeLine; decide), ?_⟩
          intro a2 na2
          have Xa2 := ex_new (o := HO.tup [V.ref a1, V.int 1]) na2
          have ha2 : upd Ga1 a2 (HO.tup [V.ref a1, V.int 1]) a2 = some (HO.tup [V.ref a1, V.int 1]) := upd_same
          generalize upd Ga1 a2 (HO.tup [V.ref a1, V.int 1]) = Ga2 at Xa2 ha2 ⊢
          refine ⟨(Xa1.trans Xa2), ?_⟩
          exact ⟨a2, a1, by rw [ha2]; simp [Tr.pcs], by rw [Xa2 _ _ ha1]; simp [Tr.moms, natV], rfl⟩
        | ov ps m s =>
          have hT2 := hT
          unfold ShAt at hT2
          obtain ⟨dx, kp, as2, hT2, _⟩ := hT2
          refine ⟨_, rfl, _, _, _, _, _, rfl, .own _, ty_ins T.i_Over T.c_Over hT2, T.kit_Over_At, _, rfl, _, rfl, _, _, _, _, _, rfl, .own _, ty_ins T.i_Over T.c_Over hT2, T.kit_Over_Over, _, rfl, _, rfl, _, _, _, _, rfl, hT, (by omega), htk, ?_⟩
          exact fun t2 g H' X' h1 h2 => ⟨X', t2, g, h1, h2, rfl⟩
      · rintro σ G' ⟨XG', o, g, ho, hg, rfl⟩
        have hf' := XG' _ _ hf
        refine ⟨_, rfl, rfl, _, rfl, ifN (fun z => nomatch z) ?_⟩
        refine ⟨_, rfl, (by decide), ?_⟩
        intro a1 na1
        have Xa1 := ex_new (o := HO.lst []) na1
        have ha1 : upd G' a1 (HO.lst []) a1 = some (HO.lst []) := upd_same
        generalize upd G' a1 (HO.lst []) = Ga1 at Xa1 ha1 ⊢
        refine ⟨_, _, _, rfl, rfl, (sq_lst (Xa1 _ _ hf')), (sq_lst ha1), _, rfl, ?_⟩
        try dsimp only [tNil]
        have ho1 := Xa1 _ _ ho
        have hg1 := Xa1 _ _ hg
        have hf1 := Xa1 _ _ hf'
        have at0 := at_headN tne
        have sz : (natV (momsL (ts.take i))).length + (natV t.moms).length ≤ sizeLine := sz_le (by rw [natV_len, natV_len]; omega)
        have ecat : natV (momsL (ts.take i)) ++ natV t.moms = natV (momsL (ts.take (i + 1))) := by
          rw [mt]
          unfold natV
          rw [List.map_append]
        by_cases c0 : momsL (ts.take i) = []
        · have i0 : (natV (momsL (ts.take i))).isEmpty = true := by rw [c0]; rfl
          rw [i0]
          refine iteF ?_
          refine ⟨_, rfl, _, rfl, _, _, _, _, rfl, rfl, (sq_tup ho1), rfl, _, _, _, _, rfl, rfl, hf1, hg1, sz, ?_⟩
          intro a2 na2
          have Xa2 := ex_new (o := HO.lst (natV (momsL (List.take i ts)) ++ natV (Tr.moms t))) na2
          have ha2 : upd Ga1 a2 (HO.lst (natV (momsL (List.take i ts)) ++ natV (Tr.moms t))) a2 = some (HO.lst (natV (momsL (List.take i ts)) ++ natV (Tr.moms t))) := upd_same
          generalize upd Ga1 a2 (HO.lst (natV (momsL (List.take i ts)) ++ natV (Tr.moms t))) = Ga2 at Xa2 ha2 ⊢
          refine ⟨_, rfl, _, rfl, _, _, _, _, rfl, rfl, (sq_tup (Xa2 _ _ ho1)), rfl, _, _, rfl, rfl, (((XG.trans XG').trans Xa1).trans Xa2), ?_⟩
          have ep : ((pcsL (ts.take i) : Nat) : Int) + ((t.pcs : Nat) : Int) = ((pcsL (ts.take (i + 1)) : Nat) : Int) := by
            rw [pt]
            omega
          exact ⟨a2, _, _, by rw [ha2, ecat], by rw [← ep]; rfl⟩
        · have i0 : (natV (momsL (ts.take i))).isEmpty = false := by
            cases hm : momsL (ts.take i) with
            | nil => exact absurd hm c0
            | cons x l => rfl
          rw [i0]
          refine iteT ?_
          have atl := at_lastN c0
          have lth : (momsL (ts.take i)).getLastD 0 < t.moms.headD 0 := by
            refine (List.pairwise_append.mp pw2).2.2 _ ?_ _ ?_
            · rw [List.getLastD_eq_getLast?, List.getLast?_eq_some_getLast c0]
              exact List.getLast_mem c0
            · cases hm : t.moms with
              | nil => exact absurd hm tne
              | cons x l => exact List.mem_cons_self
          refine ⟨_, rfl, _, _, _, _, rfl, rfl, (sq_tup ho1), rfl, _, _, _, _, rfl, rfl, (sq_lst hg1), at0, _, rfl, _, rfl, _, _, _, _, rfl, rfl, (sq_lst hf1), atl, _, _, rfl, rfl, _, rfl, ?_⟩
          try dsimp only [tNil]
          refine ifN (by omega) ?_
          refine ⟨_, rfl, _, rfl, _, _, _, _, rfl, rfl, (sq_tup ho1), rfl, _, _, _, _, rfl, rfl, hf1, hg1, sz, ?_⟩
          intro a2 na2
          have Xa2 := ex_new (o := HO.lst (natV (momsL (List.take i ts)) ++ natV (Tr.moms t))) na2
          have ha2 : upd Ga1 a2 (HO.lst (natV (momsL (List.take i ts)) ++ natV (Tr.moms t))) a2 = some (HO.lst (natV (momsL (List.take i ts)) ++ natV (Tr.moms t))) := upd_same
          generalize upd Ga1 a2 (HO.lst (natV (momsL (List.take i ts)) ++ natV (Tr.moms t))) = Ga2 at Xa2 ha2 ⊢
          refine ⟨_, rfl, _, rfl, _, _, _, _, rfl, rfl, (sq_tup (Xa2 _ _ ho1)), rfl, _, _, rfl, rfl, (((XG.trans XG').trans Xa1).trans Xa2), ?_⟩
          have ep : ((pcsL (ts.take i) : Nat) : Int) + ((t.pcs : Nat) : Int) = ((pcsL (ts.take (i + 1)) : Nat) : Int) := by
            rw [pt]
            omega
          exact ⟨a2, _, _, by rw [ha2, ecat], by rw [← ep]; rfl⟩
    · rintro σ G ⟨XG, f, v3, v4, hf, rfl⟩
      rw [asl, List.take_length] at hf ⊢
      refine ⟨_, rfl, _, rfl, by show 2 ≤ sizeLine; decide, fun t nt => ?_⟩
      exact q t f _ ((X1.trans XG).trans (ex_new nt)) upd_same (ex_new nt _ _ hf)
theorem ok__law_walked {P : Program} {w : World} {K : PySem.W.Frag} {mg : Str → Option Value} {base : Heap} (T : Env K mg) {d L : Nat} (hL : 40 ≤ L) (r__law_over_walked : Fc P w K mg base L (He.ga K "_law_over_walked") [] (sp__law_over_walked K d)) : Fc P w K mg base (L + 1) (He.ga K "_law_walked") [] (sp__law_walked K (d)) := by
  obtain ⟨fd, D, F⟩ := fb__law_walked T hL r__law_over_walked
  exact F.all (D.bindsN fun _ _ _ _ _ _ us hl => match us, hl with | [_], _ => rfl)
end
section
theorem fb__law_over_walked {P : Program} {w : World} {K : PySem.W.Frag} {mg : Str → Option Value} {base : Heap} (T : Env K mg) {d L : Nat} (hL : 40 ≤ L) (r__law_over_walked : Fc P w K mg base L (He.ga K "_law_over_walked") [] (sp__law_over_walked K d)) : ∃ fd, FunD K "_law_over_walked" "_law_over_walked" (defArgs s__law_over_walked) (defBody s__law_over_walked) (defScope s__law_over_walked) [] [] (He.ga K "_law_over_walked") fd ∧ Fb P w K mg base (L + 2) (He.ga K "_law_over_walked") fd ["_law_short"] (sp__law_over_walked K (d + 1)) := by
  obtain ⟨fd, F⟩ := T.f__law_over_walked
  refine ⟨fd, F, fb_of F sc__law_over_walked (fun vs H Q E h => ?_) (fun cdv A outer s H vs Q E hr h => ?_)⟩
  · obtain ⟨a, ps, m, s, rfl, _⟩ := h
    rfl
  · obtain ⟨a, ps, m, s_, rfl, hO, hn, hok, q⟩ := h
    refine ⟨_, (pss_cons (ps_set (i := 1) sc__law_over_walked.nd rfl (Or.inl rfl) (c_call (ok__law_walked T hL r__law_over_walked) (hr.mono (by omega)) T.g__law_walked T.k__law_walked takes0 (pa_cons (c_meth0 (pv 0) T.c_Over T.m_Over_parts (ok_Over_parts T) (hr.mono (by omega)) takes0) pa_nil)))
      (pss_cons (ps_if (PW.pt (pw_or (pt_cmpR op_isN (pv 1) pe_non (nomark _)) (pw_or (pt_cmpR (op_eqE hr.rm.units) (pe_ix ix_tup (pv 1) pe_int (fun _ _ => rfl)) (pe_lst pa_nil) (nomark _)) (pw_or (pt_not (pt_val (c_call (ok__law_whole T) (hr.mono (by omega)) T.g__law_whole T.k__law_whole takes0 (pa_cons (pe_fld (pv 0) (by rfl)) pa_nil)))) (pw_or1 (pt_not (pt_val (c_call (ok__law_whole T) (hr.mono (by omega)) T.g__law_whole T.k__law_whole takes0 (pa_cons (pe_fld (pv 0) (by rfl)) pa_nil)))))))))
      (pss_one (ps_ret pe_non))
      pss_nil)
      (pss_cons (ps_asg (pv 1) (pg_tup (by rfl) (pgs_cons (pg_name (i := 2) sc__law_over_walked.nd rfl (Or.inl rfl)) (pgs_cons (pg_name (i := 3) sc__law_over_walked.nd rfl (Or.inl rfl)) pgs_nil))))
      (pss_cons (ps_if (PW.pt (pw_or (pt_cmpR op_lt (pe_fld (pv 0) (by rfl)) pe_int (nomark _)) (pw_or (pt_cmpR op_le (pe_fld (pv 0) (by rfl)) (pe_op op_sub (pe_ix ix_list (pv 2) (pe_un un_neg pe_int) (fun _ _ => rfl)) (pe_ix ix_list (pv 2) pe_int (fun _ _ => rfl))) (nomark _)) (pw_or1 (pt_cmpR op_gt (pe_op op_mul (pe_fld (pv 0) (by rfl)) (pe_callB call_len (by rfl) T.n_len (by decide +kernel) (pa_cons (pv 2) pa_nil))) pe_int (nomark _))))))
      (pss_one (ps_ret pe_non))
      pss_nil)
      (pss_cons (ps_set (i := 4) sc__law_over_walked.nd rfl (Or.inl rfl) (pe_lst pa_nil))
      (pss_cons (ps_for (passes_of rfl) rfl (pi_range1 (by rfl) T.n_range (pa_cons (pe_fld (pv 0) (by rfl)) pa_nil)) (pg_name (i := 5) sc__law_over_walked.nd rfl (Or.inr rfl))
      (pss_one (ps_set (i := 4) sc__law_over_walked.nd rfl (Or.inl rfl) (pe_op op_cat (pv 4) (pe_lc (own := [("_law_moment", 6)]) (by rfl) sc__law_over_walked.nd (pi_list (pv 2)) (blkOk_by (own := [("_law_moment", 6)]) (N := ["_law_short", "_law_inner", "_law_row", "_law_pieces", "_law_found", "_law_k", "_law_moment"]) (sc := defScope s__law_over_walked) (by decide +kernel)) (fun _ _ _ _ _ => (pg_name (i := 6) sc__law_over_walked.nd rfl (Or.inl rfl))) (fun _ _ _ _ _ => pts_nil) (fun _ _ _ _ _ => (pe_op op_add (pv 6) (pe_op op_mul (pv 5) (pe_fldK K (pv 0) (by rfl))))))))))
      (pss_one (ps_ret (pe_tup (pa_cons (pv 4) (pa_cons (pe_op op_add (pv 3) pe_int) pa_nil))))))))))), ?_⟩
    obtain ⟨p1, m2, hm, hml, hl, hpl, hokL⟩ := ov_facts hok
    have hnL := ov_nest hn
    have hok' := hok
    unfold Tr.ok at hok'
    obtain ⟨_, _, s1, _, hstep, pwp, _⟩ := hok'
    obtain ⟨dx, kp, as, ha, hk, hA⟩ := (show ∃ dx kp as, H a = some (.ins (OverC K) dx (overF kp m s_)) ∧ H kp = some (.tup (as.map V.ref)) ∧ ShsAt K H ps as by unfold ShAt at hO; exact hO)
    have pne := momsL_ne hokL p1
    refine ⟨_, rfl, a, dx, _, rfl, ha, rfl, a, ps, m, s_, rfl, hO, fun as2 p hA2 np => ?_⟩
    have X1 := ex_new (o := .lst (as2.map V.ref)) np
    refine ⟨p, as2, ps, rfl, sq_lst upd_same, hA2.mono X1, hnL, hokL, pwp, hl, fun t f H2 X2 ht hf => ?_⟩
    have X12 := X1.trans X2
    have ha2 := X12 _ _ ha
    refine ⟨_, rfl, rfl, _, rfl, ?_⟩
    try dsimp only [tNil]
    refine ifN (fun z => nomatch z) ?_
    refine ⟨_, rfl, _, _, _, _, rfl, rfl, (sq_tup ht), rfl, (by decide), ?_⟩
    intro a1 na1
    have Xa1 := ex_new (o := HO.lst []) na1
    have ha1 : upd H2 a1 (HO.lst []) a1 = some (HO.lst []) := upd_same
    generalize upd H2 a1 (HO.lst []) = Ga1 at Xa1 ha1 ⊢
    refine ⟨_, _, _, rfl, rfl, (sq_lst (Xa1 _ _ hf)), (sq_lst ha1), _, rfl, ?_⟩
    try dsimp only [tNil]
    have i0 : (natV (momsL ps)).isEmpty = false := by
      cases hm : momsL ps with
      | nil => exact absurd hm pne
      | cons x l => rfl
    rw [i0]
    refine iteF ?_
    refine ⟨_, rfl, _, _, _, _, _, rfl, (Xa1 _ _ ha2), T.c_Over, T.a_Over_many, rfl, _, rfl, _, rfl, _, rfl, _, _, _, _, _, rfl, (Xa1 _ _ ha2), T.c_Over, T.a_Over_step, rfl, _, rfl, _, rfl, _, rfl, _, _, rfl, (sq_tup (Xa1 _ _ ht)), rfl, _, _, rfl, _, _, rfl, rfl, _, rfl, _, _, _, _, _, rfl, (Xa1 _ _ ha2), T.c_Over, T.a_Over_many, rfl, _, _, rfl, rfl, _, rfl, ?_⟩
    try dsimp only [tNil]
    refine ifN (by omega) ?_
    have ha3 := Xa1 _ _ ha2
    have hf3 := Xa1 _ _ hf
    have at0 := at_headN pne
    have atl := at_lastN pne
    refine ⟨_, rfl, _, _, _, _, _, rfl, ha3, T.c_Over, T.a_Over_step, rfl, _, rfl, _, rfl, _, _, _, _, rfl, rfl, (sq_lst hf3), atl, _, rfl, _, _, _, _, rfl, rfl, (sq_lst hf3), at0, _, _, rfl, rfl, _, _, rfl, rfl, _, rfl, ?_⟩
    try dsimp only [tNil]
    refine ifN (by omega) ?_
    refine ⟨_, rfl, _, _, _, _, _, rfl, ha3, T.c_Over, T.a_Over_many, rfl, _, rfl, _, _, rfl, (.inl ⟨_, ⟨(sq_lst hf3), rfl⟩⟩), _, _, rfl, rfl, (.inl ⟨(by omega), (by omega)⟩), _, _, rfl, rfl, _, rfl, ?_⟩
    try dsimp only [tNil]
    have hml2 : ((m : Nat) : Int) * (((natV (momsL ps)).length : Nat) : Int) ≤ 1440 := by
      rw [natV_len, ← Int.natCast_mul]
      omega
    refine ifN (by omega) ?_
    refine ⟨by show 0 ≤ sizeLine; decide, fun f0 nf0 => ?_⟩
    have X4 := ex_new (o := .lst []) nf0
    have hf0 : upd Ga1 f0 (.lst []) f0 = some (.lst []) := upd_same
    have ha4 := X4 _ _ ha3
    have hf4 := X4 _ _ hf3
    have X14 := (X12.trans Xa1).trans X4
    generalize upd Ga1 f0 (.lst []) = G4 at X4 hf0 ha4 hf4 X14 ⊢
    clear X4 Xa1 ha3 hf3 ha1 ha2 X12 X2 X1
    have hmm : m ≤ 1440 := hm
    generalize hns : momsL ps = ns at *
    have et : (Tr.ov ps m s_).moms = overN ns m s_ := by
      unfold Tr.moms
      rw [hns]
    have ep : (Tr.ov ps m s_).pcs = pcsL ps + 1 := by
      rw [Tr.pcs]
      omega
    rw [et, ep] at q
    refine ⟨_, rfl, a, _, dx, _, _, rfl, ha4, T.c_Over, T.a_Over_many, rfl, _, rfl, by omega, by omega, for_range (fun i σ G => Ex G4 G ∧ ∃ (g : Addr) (v5 v6 : Option V), G g = some (.lst (natV (overN ns i s_))) ∧ σ = [some (.ref a), some (.ref t), some (.ref f), some (.int (pcsL ps : Nat)), some (.ref g), v5, v6]) ⟨.refl _, f0, _, _, hf0, rfl⟩ ?_ ?_⟩
    · rintro i σ G hi ⟨XG, g, v5, v6, hg, rfl⟩
      have hi2 : i < m := by omega
      have haG := XG _ _ ha4
      have hfG := XG _ _ hf4
      have ll : (overN ns i s_).length = i * ns.length := overN_len ns i s_
      have l2 : i * ns.length ≤ m * ns.length := Nat.mul_le_mul_right _ (by omega)
      refine ⟨_, rfl, _, rfl, f, rfl, ⟨_, sq_lst hfG⟩, fun A nA => lc_on ns (fun n : Nat => V.int n) L2.walk_list (fun n => some (.int ((n + i * s_ : Nat) : Int))) (fun H' => Ex G H') (fun H' z e => ex_mut e nA) (.refl _) (by omega) (fun H' e => sq_lst (e _ _ hfG)) (fun j n H4 acc N hn X4 hD la k => ?_) fun H4 X4 d4 => ?_⟩
      · refine ⟨rfl, _, rfl, _, rfl, _, rfl, a, _, dx, _, _, rfl, X4 _ _ haG, T.c_Over, T.a_Over_step, rfl, _, _, rfl, rfl, .inl ⟨by omega, by omega⟩, _, _, rfl, rfl, acc, hD, la, ?_⟩
        have e : ((n : Nat) : Int) + (0 + ((i : Nat) : Int)) * ((s_ : Nat) : Int) = ((n + i * s_ : Nat) : Int) := by simp
        show N (upd H4 A (.lst (acc ++ [.int (((n : Nat) : Int) + (0 + ((i : Nat) : Int)) * ((s_ : Nat) : Int))])))
        rw [e]
        exact k H4 X4 hD
      · have ed : ns.filterMap (fun n => some (V.int ((n + i * s_ : Nat) : Int))) = natV (ns.map fun n => n + i * s_) := by
          unfold natV
          rw [List.filterMap_eq_map', List.map_map]
          rfl
        rw [ed] at d4
        have hg4 := X4 _ _ hg
        refine ⟨_, _, _, _, rfl, rfl, hg4, d4, sz_le (by rw [natV_len, natV_len, List.length_map, ll]; omega), fun C nC => ?_⟩
        have X5 := ex_new (o := .lst (natV (overN ns i s_) ++ natV (ns.map fun n => n + i * s_))) nC
        refine ⟨(XG.trans X4).trans X5, C, _, _, ?_, rfl⟩
        rw [upd_same, overN_succ]
        unfold natV
        rw [List.map_append]
    · rintro σ G ⟨XG, g, v5, v6, hg, rfl⟩
      rw [Int.toNat_natCast] at hg
      have ep2 : ((pcsL ps : Nat) : Int) + 1 = ((pcsL ps + 1 : Nat) : Int) := by omega
      refine ⟨_, rfl, _, rfl, _, _, rfl, rfl, (by show 2 ≤ sizeLine; decide), ?_⟩
      intro a2 na2
      have Xa2 := ex_new (o := HO.tup [V.ref g, V.int ((↑(pcsL ps) : Int) + 1)]) na2
      have ha2 : upd G a2 (HO.tup [V.ref g, V.int ((↑(pcsL ps) : Int) + 1)]) a2 = some (HO.tup [V.ref g, V.int ((↑(pcsL ps) : Int) + 1)]) := upd_same
      generalize upd G a2 (HO.tup [V.ref g, V.int ((↑(pcsL ps) : Int) + 1)]) = Ga2 at Xa2 ha2 ⊢
      try dsimp only [tNil]
      refine q a2 g _ ((X14.trans XG).trans Xa2) ?_ (Xa2 _ _ hg)
      rw [ha2, ← ep2]
theorem ok__law_over_walked {P : Program} {w : World} {K : PySem.W.Frag} {mg : Str → Option Value} {base : Heap} (T : Env K mg) {d L : Nat} (hL : 40 ≤ L) (r__law_over_walked : Fc P w K mg base L (He.ga K "_law_over_walked") [] (sp__law_over_walked K d)) : Fc P w K mg base (L + 2) (He.ga K "_law_over_walked") [] (sp__law_over_walked K (d + 1)) := by
  obtain ⟨fd, D, F⟩ := fb__law_over_walked T hL r__law_over_walked
  exact F.all (D.bindsN fun _ _ _ _ _ _ us hl => match us, hl with | [_], _ => rfl)
theorem all__law_over_walked {P : Program} {w : World} {K : PySem.W.Frag} {mg : Str → Option Value} {base : Heap} (T : Env K mg) : ∀ d, Fc P w K mg base (40 + 2 * d) (He.ga K "_law_over_walked") [] (sp__law_over_walked K d)
  | 0 => fc_no fun vs H Q E h => by
    obtain ⟨a, ps, m, s, _, _, h1, _⟩ := h
    unfold Tr.nest at h1
    omega
  | d + 1 => ok__law_over_walked T (Nat.le_add_right 40 _) (all__law_over_walked T d)
end
section
theorem cut_dropV (xs : List V) (n : Nat) : cutV xs (some (n : Int)) none = xs.drop n := by
  unfold cutV
  rw [HT.sIx_none, HT.sIx_nat]
  by_cases h : n ≤ xs.length
  · rw [Nat.min_eq_left h]
    exact List.take_of_length_le (by rw [List.length_drop]; exact Nat.le_refl _)
  · rw [Nat.min_eq_right (by omega), List.drop_of_length_le (Nat.le_refl _), List.drop_of_length_le (by omega), List.take_nil]
end
section
theorem natV_drop (ns : List Nat) (n : Nat) : (natV ns).drop n = natV (ns.drop n) := by
  unfold natV
  rw [List.map_drop]
end
section
theorem sorted_ext : ∀ {a b : List Nat}, a.Pairwise (· < ·) → b.Pairwise (· < ·) → (∀ x, x ∈ a ↔ x ∈ b) → a = b
  | [], [], _, _, _ => rfl
  | [], y :: b, _, _, h => absurd ((h y).mpr List.mem_cons_self) (by simp)
  | x :: a, [], _, _, h => absurd ((h x).mp List.mem_cons_self) (by simp)
  | x :: a, y :: b, ha, hb, h => by
    obtain ⟨a1, a2⟩ := List.pairwise_cons.mp ha
    obtain ⟨b1, b2⟩ := List.pairwise_cons.mp hb
    have e : x = y := by
      rcases List.mem_cons.mp ((h x).mp List.mem_cons_self) with e | e
      · exact e
      · rcases List.mem_cons.mp ((h y).mpr List.mem_cons_self) with e2 | e2
        · exact e2.symm
        · have := b1 x e
          have := a1 y e2
          omega
    subst e
    rw [sorted_ext a2 b2 fun z => ⟨fun hz => by
      rcases List.mem_cons.mp ((h z).mp (List.mem_cons_of_mem _ hz)) with e | e
      · have := a1 z hz
        omega
      · exact e, fun hz => by
      rcases List.mem_cons.mp ((h z).mpr (List.mem_cons_of_mem _ hz)) with e | e
      · have := b1 z hz
        omega
      · exact e⟩]
end
section
def atsL (ns : List Nat) : List Tr := ns.map Tr.at
theorem moms_ats : ∀ ns : List Nat, momsL (atsL ns) = ns
  | [] => by simp [atsL, momsL]
  | n :: ns => by
    have ih := moms_ats ns
    unfold atsL at ih ⊢
    rw [List.map_cons]
    simp [momsL, Tr.moms, ih]
theorem ok_ats : ∀ ns : List Nat, okL_ (atsL ns)
  | [] => by
    unfold atsL okL_
    trivial
  | n :: ns => by
    have ih := ok_ats ns
    unfold atsL at ih ⊢
    rw [List.map_cons]
    unfold okL_ Tr.ok
    exact ⟨trivial, ih⟩
theorem nest_ats : ∀ ns : List Nat, nestL (atsL ns) = 0
  | [] => by simp [atsL, nestL]
  | n :: ns => by
    have ih := nest_ats ns
    unfold atsL at ih ⊢
    rw [List.map_cons]
    simp [nestL, Tr.nest, ih]
theorem spr_ats {ns : List Nat} (h : ns.Pairwise (· < ·)) (hl : ns.length ≤ 1440) : sprB (atsL ns) = true := by
  unfold sprB
  rw [ris_of (ok_ats ns) (by rw [moms_ats]; exact h), decide_eq_true (by rw [moms_ats]; exact hl)]
  rfl
theorem lc_flat {K : PySem.W.Frag} {J : It} {Gd Qd : Hp → Prop} {G0 : Hp} {D : Addr} {ns : List Nat} {g : TG} {tt : TT} {te : TE} {vs : List Nat} {σ : L2.St} (nD : G0 D = none) (w : L2.Walk J (natV ns).length Gd (L2.YAt (natV ns))) (hG : ∀ H, Ex G0 H → Gd H) (hn : ns.length ≤ 2000)
    (hs : ∀ (n : Nat) (H : Hp) (acc : List V) (N : Hp → Prop), Ex G0 H → H D = some (.lst acc) → acc.length < sizeLine → (∀ x H4, Ex H H4 → H4 D = some (.lst acc) → AtAt K H4 x n → N (upd H4 D (.lst (acc ++ [.ref x])))) → L3.Turn g tt te vs σ D (.int (n : Nat)) H N)
    (hd : ∀ as H, Ex G0 H → H D = some (.lst (as.map V.ref)) → ShsAt K H (atsL ns) as → Qd H) :
    ∃ W : Nat → Nat → Hp → Prop, (∃ m, W 0 m (upd G0 D (.lst []))) ∧ ∀ i m H, W i m H →
      (J.stop i H ∧ Qd H) ∨ (J.go i H ∧ ∃ Nx : Hp → Prop, (∀ H', Nx H' → ∃ m', m' < m ∧ W (i + 1) m' H') ∧ ∀ x H', J.yld i H x H' → L3.Turn g tt te vs σ D x H' Nx) := by
  refine lc_any w (fun i acc G => Ex G0 G ∧ (G D = none ∨ ∃ xs, G D = some (.lst xs)) ∧ ∃ as, acc = as.map V.ref ∧ ShsAt K G (atsL (ns.take i)) as) (fun i acc G z e => ?_) ⟨.refl _, .inl nD, [], rfl, by unfold atsL ShsAt; rfl⟩ (by rw [natV_len]; omega) (fun i acc G e => ?_) (fun i acc G e => hG _ e.1) (fun i x G G' acc N hi e hA la y k _ => ?_) (fun acc G e hA => ?_)
  · obtain ⟨e1, e2, as, e3, e4⟩ := e
    refine ⟨ex_mut e1 nD, .inr ⟨z, upd_same⟩, as, e3, e4.oth ((Oth.refl D G).upd) fun ob h => ?_⟩
    rcases e2 with h2 | ⟨xs, h2⟩
    · rw [h2] at h
      cases h
    · rw [h2] at h
      cases h
      exact ⟨xs, rfl⟩
  · obtain ⟨_, _, as, rfl, h1⟩ := e
    rw [List.length_map, h1.len]
    unfold atsL
    rw [List.length_map, List.length_take]
    omega
  · obtain ⟨rfl, y⟩ := y
    obtain ⟨XG, _, as, rfl, h1⟩ := e
    rw [natV_len] at hi
    have gi : ns[i]? = some ns[i] := List.getElem?_eq_getElem hi
    obtain rfl : x = .int ((ns[i] : Nat) : Int) := by
      unfold natV at y
      rw [List.getElem?_map, gi] at y
      exact (Option.some.inj y).symm
    refine hs _ _ _ _ XG hA la fun x H4 X4 hD4 hx => k _ H4 hD4 ⟨XG.trans X4, .inr ⟨_, hD4⟩, as ++ [x], by rw [List.map_append]; rfl, ?_⟩
    have e : atsL (ns.take (i + 1)) = atsL (ns.take i) ++ [.at ns[i]] := by
      rw [take_snoc gi]
      unfold atsL
      rw [List.map_append]
      rfl
    rw [e]
    exact (h1.mono X4).snoc (t := .at ns[i]) (by unfold ShAt; exact hx)
  · obtain ⟨XG, _, as, rfl, h1⟩ := e
    rw [natV_len, List.take_length] at h1
    exact hd as G XG hA h1
end
section
def sp__law_equal (K : PySem.W.Frag) : Sp := fun vs H Q _ => ∃ (a d : Addr) (ts : List Tr), vs = [.ref a, .ref d] ∧ SprAt K H a ts ∧ H d = some (.lst (natV (momsL ts))) ∧ okL_ ts ∧ nestL ts ≤ 8 ∧ (momsL ts).Pairwise (· < ·) ∧ (momsL ts).length ≤ 40 ∧ (∀ n ∈ momsL ts, n < 10 ^ 60) ∧ ∀ H', Ex H H' → Q (.bl true) H'
theorem fb__law_equal {P : Program} {w : World} {K : PySem.W.Frag} {mg : Str → Option Value} {base : Heap} (T : Env K mg) : ∃ fd, FunD K "_law_equal" "_law_equal" (defArgs s__law_equal) (defBody s__law_equal) (defScope s__law_equal) [] [] (He.ga K "_law_equal") fd ∧ Fb P w K mg base 130 (He.ga K "_law_equal") fd ["_law_told", "_law_due"] (sp__law_equal K) := by
  obtain ⟨fd, F⟩ := T.f__law_equal
  refine ⟨fd, F, fb_of F sc__law_equal (fun vs H Q E h => ?_) (fun cdv A outer s H vs Q E hr h => ?_)⟩
  · obtain ⟨a, d, ts, rfl, _⟩ := h
    rfl
  · obtain ⟨a, d, ts, rfl, hS, hd, hok, hn, pw, hl, hb, q⟩ := h
    refine ⟨_, (pss_cons (ps_set (i := 2) sc__law_equal.nd rfl (Or.inl rfl) (c_make T.mk_Spread (ok_Spread_init T) (hr.mono (by decide)) T.g_Spread takes0 (pa_cons (pe_lc (own := [("_law_moment", 3)]) (by rfl) sc__law_equal.nd (pi_list (pv 1)) (blkOk_by (own := [("_law_moment", 3)]) (N := ["_law_told", "_law_due", "_law_same", "_law_moment"]) (sc := defScope s__law_equal) (by decide +kernel)) (fun _ _ _ _ _ => (pg_name (i := 3) sc__law_equal.nd rfl (Or.inl rfl))) (fun _ _ _ _ _ => pts_nil) (fun _ _ _ _ _ => (c_make T.mk_At (ok_At_init T) (hr.mono (by decide)) T.g_At takes0 (pa_cons (pv 3) pa_nil)))) pa_nil)))
      (pss_cons (ps_if (PW.pt (pw_or (pt_not (pt_cmpR (op_eqO (rco_mono (k := 1) (rco_or (rco_LK K T.m_Spread_eq (ok_Spread_eq T)) (rco_RK K T.nb_Spread T.m_Spread_eq (ok_Spread_eq T))) (by decide)) (hr.mono (by decide))) (pv 0) (pv 2) (nomark _))) (pw_or (pt_not (pt_cmpR (op_eqO (rco_mono (k := 1) (rco_or (rco_LK K T.m_Spread_eq (ok_Spread_eq T)) (rco_RK K T.nb_Spread T.m_Spread_eq (ok_Spread_eq T))) (by decide)) (hr.mono (by decide))) (pv 2) (pv 0) (nomark _))) (pw_or (pt_cmpR (op_neOK K T.nb_Spread T.m_Spread_eq (ok_Spread_eq T) (hr.mono (by decide))) (pv 0) (pv 2) (nomark _)) (pw_or1 (pt_cmpR op_ne (pe_callB (call_lenO T.m_Spread_len (ok_Spread_len T) (hr.mono (by decide))) (by rfl) T.n_len (by decide +kernel) (pa_cons (pv 0) pa_nil)) (pe_callB call_len (by rfl) T.n_len (by decide +kernel) (pa_cons (pv 1) pa_nil)) (nomark _)))))))
      (pss_one (ps_ret pe_bl))
      pss_nil)
      (Evl.pss_cut (ps_if (PW.pt (pw_and (pt_cmpR (op_neE hr.rm.units) (pv 1) (pe_lst pa_nil) (nomark _)) (pw_and1 (PW.pt (pw_or (pt_cmpR (op_eqO (rco_mono (k := 1) (rco_or (rco_LK K T.m_Spread_eq (ok_Spread_eq T)) (rco_RK K T.nb_Spread T.m_Spread_eq (ok_Spread_eq T))) (by decide)) (hr.mono (by decide))) (pv 0) (c_make T.mk_Spread (ok_Spread_init T) (hr.mono (by decide)) T.g_Spread takes0 (pa_cons (pe_lc (own := [("_law_moment", 3)]) (by rfl) sc__law_equal.nd (pi_list (pe_slice sl_list (pv 1) (po_some pe_int) po_none)) (blkOk_by (own := [("_law_moment", 3)]) (N := ["_law_told", "_law_due", "_law_same", "_law_moment"]) (sc := defScope s__law_equal) (by decide +kernel)) (fun _ _ _ _ _ => (pg_name (i := 3) sc__law_equal.nd rfl (Or.inl rfl))) (fun _ _ _ _ _ => pts_nil) (fun _ _ _ _ _ => (c_make T.mk_At (ok_At_init T) (hr.mono (by decide)) T.g_At takes0 (pa_cons (pv 3) pa_nil)))) pa_nil)) (nomark _)) (pw_or1 (pt_cmpR (op_eqO (rco_mono (k := 1) (rco_or (rco_LK K T.m_Spread_eq (ok_Spread_eq T)) (rco_RK K T.nb_Spread T.m_Spread_eq (ok_Spread_eq T))) (by decide)) (hr.mono (by decide))) (pv 0) (pv 1) (nomark _))))))))
      (pss_one (ps_ret pe_bl))
      pss_nil)
      (pss_one (ps_ret (pe_cmpR op_eq (pe_callB (call_reprO T.m_Spread_repr (ok_Spread_repr T) (hr.mono (by decide))) (by rfl) T.n_repr (by decide +kernel) (pa_cons (pv 0) pa_nil)) (pe_op op_add_str (pe_op op_add_str pe_str (pe_callB call_repr_str (by rfl) T.n_repr (by decide +kernel) (pa_cons (pe_callTy (call_strO T.m_Spread_str (ok_Spread_str T) (hr.mono (by decide))) (by rfl) T.n_str (by decide +kernel) (pa_cons (pv 0) pa_nil)) pa_nil))) pe_str) (nomark _))))))), ?_⟩
    refine ⟨_, rfl, _, rfl, ⟨_, (sq_lst hd)⟩, ?_⟩
    intro D nD
    refine lc_flat (K := K) nD L2.walk_list (fun G e => sq_lst (K := K) (e _ _ hd)) (by omega) (fun n G acc N XG hD la k => ?_) (fun as G1 X1 hD hSh => ?_)
    · refine ⟨rfl, _, rfl, fun x dx nx nd ne => at_new nx nd ne fun G2 X2 hx => ⟨rfl, acc, X2 _ _ hD, la, ?_⟩⟩
      exact k x G2 X2 (X2 _ _ hD) hx
    refine fun y dy ny ndy ney => spread_new ny ndy ney (.inl hD) hSh (by rw [nest_ats]; decide) (ok_ats _) (spr_ats pw (by omega)) fun H2 X2 hSp => ⟨rfl, ?_⟩
    have X12 := X1.trans X2
    have hS2 := hS.mono X12
    have hd2 := X12 _ _ hd
    have em : decide (momsL ts = momsL (atsL (momsL ts))) = true := by rw [moms_ats]; exact decide_eq_true rfl
    have em2 : decide (momsL (atsL (momsL ts)) = momsL ts) = true := by rw [moms_ats]; exact decide_eq_true rfl
    clear hD hSh X1 X2 nD hS hd
    obtain ⟨dx1, kp1, hh1, as1, ha1, _⟩ := id hS2
    obtain ⟨dx2, kp2, hh2, as2, ha2, _⟩ := id hSp
    refine ⟨_, rfl, _, rfl, .inl ⟨a, _, _, _, rfl, ha1, ty_ins T.i_Spread T.c_Spread ha2, .inl rfl, a, _, rfl, .inl ⟨ts, y, _, hS2, rfl, hSp, ?_⟩⟩⟩
    rw [em]
    refine ⟨true, rfl, iteF ?_⟩
    refine ⟨_, rfl, _, rfl, .inl ⟨y, _, _, _, rfl, ha2, ty_ins T.i_Spread T.c_Spread ha1, .inl rfl, y, _, rfl, .inl ⟨_, a, ts, hSp, rfl, hS2, ?_⟩⟩⟩
    rw [em2]
    refine ⟨true, rfl, iteF ?_⟩
    refine ⟨_, rfl, _, rfl, a, _, _, _, rfl, ha1, ty_ins T.i_Spread T.c_Spread ha2, .inl rfl, a, _, rfl, .inl ⟨ts, y, _, hS2, rfl, hSp, ?_⟩⟩
    rw [em]
    refine ⟨true, rfl, ?_⟩
    refine ⟨_, rfl, _, rfl, _, _, _, rfl, ha1, _, _, rfl, hS2, ⟨(by omega), (by omega)⟩, _, rfl, _, _, rfl, (.inl ⟨_, ⟨(sq_lst hd2), rfl⟩⟩), rfl, _, rfl, ?_⟩
    try dsimp only [tNil]
    rw [natV_len, decide_eq_true rfl]
    refine iteF ?_
    refine ⟨fun σ G => Ex H2 G ∧ ∃ v3, σ = [some (.ref a), some (.ref d), some (.ref y), v3], ?_, ?_⟩
    · refine ⟨_, rfl, (by decide), ?_⟩
      intro a3 na3
      have Xa3 := ex_new (o := HO.lst []) na3
      have ha3 : upd H2 a3 (HO.lst []) a3 = some (HO.lst []) := upd_same
      generalize upd H2 a3 (HO.lst []) = Ga3 at Xa3 ha3 ⊢
      refine ⟨_, _, _, rfl, rfl, (sq_lst (Xa3 _ _ hd2)), (sq_lst ha3), _, rfl, ?_⟩
      try dsimp only [tNil]
      by_cases c0 : momsL ts = []
      · have i0 : (natV (momsL ts)).isEmpty = true := by rw [c0]; rfl
        rw [i0]
        exact iteF ⟨Xa3, _, rfl⟩
      · have i0 : (natV (momsL ts)).isEmpty = false := by
          cases hm : momsL ts with
          | nil => exact absurd hm c0
          | cons x l => rfl
        rw [i0]
        refine iteT ?_
        have hd3 := Xa3 _ _ hd2
        have hS3 := hS2.mono Xa3
        have l1 := List.length_pos_iff.mpr c0
        refine ⟨_, rfl, _, rfl, _, rfl, _, _, rfl, sq_lst hd3, fun r nr => ?_⟩
        have X4 := ex_new (o := .lst (cutV (natV (momsL ts)) (some 1) none)) nr
        have hr : upd Ga3 r (.lst (cutV (natV (momsL ts)) (some 1) none)) r = some (.lst (natV ((momsL ts).drop 1))) := by rw [upd_same, show (1 : Int) = ((1 : Nat) : Int) from rfl, cut_dropV, natV_drop]
        generalize upd Ga3 r (.lst (cutV (natV (momsL ts)) (some 1) none)) = G4 at X4 hr ⊢
        refine ⟨_, rfl, ⟨_, sq_lst hr⟩, fun D nD => ?_⟩
        refine lc_flat (K := K) nD L2.walk_list (fun G e => sq_lst (K := K) (e _ _ hr)) (by rw [List.length_drop]; omega) (fun n G acc N XG hD la k => ?_) (fun as G5 X5 hD hSh => ?_)
        · refine ⟨rfl, _, rfl, fun x dx nx nd ne => at_new nx nd ne fun G2 X2 hx => ⟨rfl, acc, X2 _ _ hD, la, ?_⟩⟩
          exact k x G2 X2 (X2 _ _ hD) hx
        have pwd := pw.sublist (List.drop_sublist 1 (momsL ts))
        refine fun z dz nz ndz nez => spread_new nz ndz nez (.inl hD) hSh (by rw [nest_ats]; decide) (ok_ats _) (spr_ats pwd (by rw [List.length_drop]; omega)) fun G6 X6 hSz => ⟨rfl, ?_⟩
        have X36 := (X4.trans X5).trans X6
        have hS6 := hS3.mono X36
        obtain ⟨dx3, kp3, hh3, as3, ha3, _⟩ := id hS6
        obtain ⟨dx4, kp4, hh4, as4, ha4, _⟩ := id hSz
        have ef : decide (momsL ts = momsL (atsL ((momsL ts).drop 1))) = false := decide_eq_false fun e => by
          rw [moms_ats] at e
          have := congrArg List.length e
          rw [List.length_drop] at this
          omega
        refine .inl ⟨a, _, _, _, rfl, ha3, ty_ins T.i_Spread T.c_Spread ha4, .inl rfl, a, _, rfl, .inl ⟨ts, z, _, hS6, rfl, hSz, ?_⟩⟩
        rw [ef]
        refine ⟨false, rfl, iteF ?_⟩
        have hd6 := X36 _ _ hd3
        refine ⟨_, rfl, _, rfl, .inl ⟨a, _, _, _, rfl, ha3, .base (.lst hd6), .inr T.kit_list_Spread, a, _, rfl, .inr ⟨_, .base (.lst hd6), T.kit_list_Spread, false, rfl, iteF ⟨Xa3.trans X36, _, rfl⟩⟩⟩⟩
    · rintro σ G ⟨XG, v3, rfl⟩
      have hS4 := hS2.mono XG
      have X0 := X12.trans XG
      have hb80 : ∀ n ∈ momsL ts, n < 10 ^ 80 := fun n hn => Nat.lt_trans (hb n hn) (by decide +kernel)
      have hft := fitL_of hok hb80
      have hpc := pcsL_le hok
      have rl := rowT_len hft
      obtain ⟨dx4, kp4, hh4, as4, ha4, _⟩ := id hS4
      refine ⟨_, rfl, a, dx4, _, rfl, ha4, a, ts, rfl, hS4, by omega, hft, by omega, fun G2 Y2 => ⟨trivial, ?_⟩⟩
      have hS5 := hS4.mono Y2
      obtain ⟨dx5, kp5, hh5, as5, ha5, _⟩ := id hS5
      refine ⟨_, rfl, a, dx5, _, rfl, ha5, a, ts, rfl, hS5, by omega, hft, by omega, fun G3 Y3 => ⟨trivial, ?_⟩⟩
      have ok := rowT_ok ts
      have hpl := repr_plain_len ok
      refine ⟨_, rfl, (sz_big (by omega)), _, _, rfl, rfl, ?_⟩
      rw [repr_plain ok, show Str.ofString "Spread(" = SX.S [83, 112, 114, 101, 97, 100, 40] from rfl, SX.S_cat]
      refine ⟨sz_big (by rw [SX.S_len, SX.S_len]; simp; omega), _, _, rfl, rfl, ?_⟩
      rw [show Str.ofString ")" = SX.S [41] from rfl, SX.S_cat]
      refine ⟨sz_big (by rw [SX.S_len, SX.S_len]; simp; omega), ?_⟩
      refine ⟨rfl, ?_⟩
      try dsimp only [tNil]
      have e : V.str (SX.S (sprR (rowT (txtL ts)))) = V.str (SX.S ([83, 112, 114, 101, 97, 100, 40] ++ (39 :: rowT (txtL ts) ++ [39]) ++ [41])) := by
        unfold sprR
        simp
      rw [decide_eq_true e]
      exact q _ ((X0.trans Y2).trans Y3)
theorem ok__law_equal {P : Program} {w : World} {K : PySem.W.Frag} {mg : Str → Option Value} {base : Heap} (T : Env K mg) : Fc P w K mg base 130 (He.ga K "_law_equal") [] (sp__law_equal K ) := by
  obtain ⟨fd, D, F⟩ := fb__law_equal T
  exact F.all (D.bindsN fun _ _ _ _ _ _ us hl => match us, hl with | [_, _], _ => rfl)
end
section
def sp__law_spoil (K : PySem.W.Frag) : Sp := fun vs H Q _ => ∃ (a : Addr) (ts : List Tr), vs = [.ref a] ∧ SprAt K H a ts ∧ okL_ ts ∧ nestL ts ≤ 8 ∧ (momsL ts).length ≤ 1440 ∧ ∀ H', Ex H H' → Q .non H'
theorem fb__law_spoil {P : Program} {w : World} {K : PySem.W.Frag} {mg : Str → Option Value} {base : Heap} (T : Env K mg) : ∃ fd, FunD K "_law_spoil" "_law_spoil" (defArgs s__law_spoil) (defBody s__law_spoil) (defScope s__law_spoil) [] [] (He.ga K "_law_spoil") fd ∧ Fb P w K mg base 100 (He.ga K "_law_spoil") fd ["_law_told"] (sp__law_spoil K) := by
  obtain ⟨fd, F⟩ := T.f__law_spoil
  refine ⟨fd, F, fb_of F sc__law_spoil (fun vs H Q E h => ?_) (fun cdv A outer s H vs Q E hr h => ?_)⟩
  · obtain ⟨a, ts, rfl, _⟩ := h
    rfl
  · obtain ⟨a, ts, rfl, hS, hok, hn, hl, q⟩ := h
    refine ⟨_, (pss_cons (ps_for (passes_of rfl) rfl (pi_list (c_meth0 (pv 0) T.c_Spread T.m_Spread_parts (ok_Spread_parts T) (hr.mono (by decide)) takes0)) (pg_name (i := 1) sc__law_spoil.nd rfl (Or.inl rfl))
      (pss_cons (ps_expr (pe_bm PySem.F.plainAttrs_list PySem.F.slot_list_append PySem.F.type_list_append mt_append (pe_orE (c_meth0 (pv 1) T.c_At T.m_At_moments (ok_At_moments T) (hr.mono (by decide)) takes0) (c_meth0 (pv 1) T.c_Over T.m_Over_moments (all_Over_moments T 9) (hr.mono (by decide)) takes0)) (pa_cons (pe_un un_neg pe_int) pa_nil)))
      (pss_one (ps_if (pt_val (pe_callB call_isi (by rfl) T.n_isinstance (by decide +kernel) (pa_cons (pv 1) (pa_cons (pe_glob (v := .ref _) (by rfl) T.g_Over rfl) pa_nil))))
      (pss_one (ps_expr (pe_bm0 PySem.F.plainAttrs_list PySem.F.slot_list_clear PySem.F.type_list_clear mt_clear (c_meth0 (pv 1) T.c_Over T.m_Over_parts (ok_Over_parts T) (hr.mono (by decide)) takes0))))
      pss_nil))))
      (pss_cons (ps_expr (pe_bm0 PySem.F.plainAttrs_list PySem.F.slot_list_clear PySem.F.type_list_clear mt_clear (c_meth0 (pv 0) T.c_Spread T.m_Spread_parts (ok_Spread_parts T) (hr.mono (by decide)) takes0)))
      (pss_one (ps_expr (pe_bm PySem.F.plainAttrs_list PySem.F.slot_list_append PySem.F.type_list_append mt_append (c_meth0 (pv 0) T.c_Spread T.m_Spread_moments (ok_Spread_moments T) (hr.mono (by decide)) takes0) (pa_cons (pe_un un_neg pe_int) pa_nil)))))), ?_⟩
    obtain ⟨dx, kp, hd, as, ha, hk, hh, hA⟩ := id hS
    refine ⟨_, rfl, _, _, _, rfl, ha, rfl, _, _, rfl, hS, ?_⟩
    intro as2 p hA2 np
    have X1 := ex_new (o := .lst (as2.map V.ref)) np
    have hp1 : upd H p (.lst (as2.map V.ref)) p = some (.lst (as2.map V.ref)) := upd_same
    generalize upd H p (.lst (as2.map V.ref)) = H1 at X1 hp1 ⊢
    refine ⟨_, rfl, ⟨_, sq_lst hp1⟩, for_on as2 V.ref (L2.walk_list (K := K) (a := p) (xs := as2.map V.ref)) (fun i σ G => Ex H1 G ∧ ∃ v1, σ = [some (.ref a), v1]) ⟨.refl _, _, rfl⟩ (fun i σ G z => sq_lst (z.1 _ _ hp1)) ?_ ?_⟩
    · rintro i b σ G hb ⟨XG, v1, rfl⟩
      obtain ⟨t, ht, hT⟩ := (hA2.mono (X1.trans XG)).get hb
      have htm := List.mem_of_getElem? ht
      have htk := okL_mem hok htm
      have hnt := nestL_mem htm
      have hml := momsL_le htm
      cases t with
      | «at» n =>
        unfold ShAt at hT
        obtain ⟨dx2, hT⟩ := id hT
        refine .inl ⟨_, rfl, b, dx2, _, rfl, hT, rfl, b, n, rfl, ⟨dx2, hT⟩, fun m nm => ⟨.inl ⟨rfl, _, sq_lst upd_same⟩, _, rfl, _, _, _, rfl, rfl, upd_same, by show 1 < sizeLine; exact sz_lt (by decide), ?_⟩⟩
        have X3 : Ex G (upd (upd G m (.lst [.int (n : Nat)])) m (.lst ([.int (n : Nat)] ++ [.int (-1)]))) := ex_mut (ex_new nm) nm
        have hT3 := X3 _ _ hT
        have X13 := XG.trans X3
        generalize upd (upd G m (.lst [.int (n : Nat)])) m (.lst ([.int (n : Nat)] ++ [.int (-1)])) = G3 at X3 hT3 X13 ⊢
        exact ⟨_, rfl, _, _, _, _, false, rfl, .own _, ty_ins T.i_At T.c_At hT3, T.kit_At_Over, _, rfl, iteF ⟨X13, _, rfl⟩⟩
      | ov ps m s =>
        have hT2 := hT
        unfold ShAt at hT2
        obtain ⟨dx2, kp2, as3, hT2, _⟩ := hT2
        have lo : (Tr.ov ps m s).moms.length < sizeLine := sz_lt (by omega)
        refine .inr ⟨_, rfl, b, dx2, _, rfl, hT2, rfl, b, ps, m, s, rfl, hT, by omega, htk, fun f G2 X2 nf hf => ⟨.inl ⟨rfl, _, sq_lst hf⟩, _, rfl, _, _, _, rfl, rfl, hf, by rw [natV_len]; exact lo, ?_⟩⟩
        have X3 : Ex G (upd G2 f (.lst (natV (Tr.ov ps m s).moms ++ [.int (-1)]))) := ex_mut X2 nf
        have hT3 := X3 _ _ hT2
        have hO3 := hT.mono X3
        have X13 := XG.trans X3
        generalize upd G2 f (.lst (natV (Tr.ov ps m s).moms ++ [.int (-1)])) = G3 at X3 hT3 hO3 X13 ⊢
        refine ⟨_, rfl, _, _, _, _, true, rfl, .own _, ty_ins T.i_Over T.c_Over hT3, T.kit_Over_Over, _, rfl, iteT ?_⟩
        refine ⟨_, rfl, b, dx2, _, rfl, hT3, rfl, b, ps, m, s, rfl, hO3, fun as4 u _ nu => ⟨.inl ⟨rfl, _, sq_lst upd_same⟩, u, _, rfl, rfl, upd_same, ?_⟩⟩
        exact ⟨ex_mut (X13.trans (ex_new nu)) (ex_fresh X13 nu), _, rfl⟩
    · rintro σ G ⟨XG, v1, rfl⟩
      have hSG := hS.mono (X1.trans XG)
      obtain ⟨dx3, kp3, hh3, as3, ha3, _⟩ := id hSG
      refine ⟨_, rfl, _, _, _, rfl, ha3, rfl, _, _, rfl, hSG, ?_⟩
      intro as4 u _ nu
      refine ⟨.inl ⟨rfl, _, sq_lst upd_same⟩, u, _, rfl, rfl, upd_same, ?_⟩
      have X3 : Ex G (upd (upd G u (.lst (as4.map V.ref))) u (.lst [])) := ex_mut (ex_new nu) nu
      have ha4 := X3 _ _ ha3
      have hS4 := hSG.mono X3
      have X13 := (X1.trans XG).trans X3
      generalize upd (upd G u (.lst (as4.map V.ref))) u (.lst []) = G3 at X3 ha4 hS4 X13 ⊢
      refine ⟨_, rfl, a, _, _, rfl, ha4, rfl, a, ts, rfl, hS4, fun m nm => ⟨.inl ⟨rfl, _, sq_lst upd_same⟩, _, rfl, _, _, _, rfl, rfl, upd_same, by rw [natV_len]; exact sz_lt (by omega), ?_⟩⟩
      exact q _ (ex_mut (X13.trans (ex_new nm)) (ex_fresh X13 nm))
theorem ok__law_spoil {P : Program} {w : World} {K : PySem.W.Frag} {mg : Str → Option Value} {base : Heap} (T : Env K mg) : Fc P w K mg base 100 (He.ga K "_law_spoil") [] (sp__law_spoil K ) := by
  obtain ⟨fd, D, F⟩ := fb__law_spoil T
  exact F.all (D.bindsN fun _ _ _ _ _ _ us hl => match us, hl with | [_], _ => rfl)
end
section
theorem sh_pair (ns : List Nat) (k : Nat) : SeqAt.shaped (.tuple [.list (natD ns), .int ((k : Nat) : Int)]) = true := by
  show ((PyData.canLayAll0 (natD ns) && (true && true)) && decide (max (PyData.depthAll (natD ns) + 1) (max 0 0) + 1 ≤ 64)) = true
  rw [natD_lay, natD_dep]
  rfl
def sp__law_right (K : PySem.W.Frag) : Sp := fun vs H Q _ => ∃ (a d : Addr) (ts : List Tr), vs = [.ref a, .ref d] ∧ SprAt K H a ts ∧ H d = some (.lst (natV (momsL ts))) ∧ okL_ ts ∧ nestL ts ≤ 8 ∧ (momsL ts).Pairwise (· < ·) ∧ (momsL ts).length ≤ 40 ∧ (∀ n ∈ momsL ts, n < 10 ^ 60) ∧ pcsL ts ≤ (momsL ts).length ∧ ∀ H', Ex H H' → Q (.bl true) H'
theorem fb__law_right {P : Program} {w : World} {K : PySem.W.Frag} {mg : Str → Option Value} {base : Heap} (T : Env K mg) : ∃ fd, FunD K "_law_right" "_law_right" (defArgs s__law_right) (defBody s__law_right) (defScope s__law_right) [] [] (He.ga K "_law_right") fd ∧ Fb P w K mg base 140 (He.ga K "_law_right") fd ["_law_told", "_law_due"] (sp__law_right K) := by
  obtain ⟨fd, F⟩ := T.f__law_right
  refine ⟨fd, F, fb_of F sc__law_right (fun vs H Q E h => ?_) (fun cdv A outer s H vs Q E hr h => ?_)⟩
  · obtain ⟨a, d, ts, rfl, _⟩ := h
    rfl
  · obtain ⟨a, d, ts, rfl, hS, hd, hok, hn, pw, hl, hb, hp, q⟩ := h
    refine ⟨_, (Evl.pss_cut (ps_if (PW.pt (pw_or (pt_not (pt_val (pe_callB call_isi (by rfl) T.n_isinstance (by decide +kernel) (pa_cons (pv 0) (pa_cons (pe_glob (v := .ref _) (by rfl) T.g_Spread rfl) pa_nil))))) (pw_or (pt_not (pt_val (pe_callB call_isi (by rfl) T.n_isinstance (by decide +kernel) (pa_cons (c_meth0 (pv 0) T.c_Spread T.m_Spread_parts (ok_Spread_parts T) (hr.mono (by decide)) takes0) (pa_cons (pe_bltn (v := .ty "list") (by rfl) T.n_list (by decide +kernel) rfl) pa_nil))))) (pw_or1 (pt_not (pt_val (pe_callB call_isi (by rfl) T.n_isinstance (by decide +kernel) (pa_cons (c_meth0 (pv 0) T.c_Spread T.m_Spread_moments (ok_Spread_moments T) (hr.mono (by decide)) takes0) (pa_cons (pe_bltn (v := .ty "list") (by rfl) T.n_list (by decide +kernel) rfl) pa_nil)))))))))
      (pss_one (ps_ret pe_bl))
      pss_nil)
      (pss_cons (ps_if (PW.pt (pw_or (pt_not (pt_val (pe_callB (cr_all rfl) (by rfl) T.n_all (by decide +kernel) (pa_cons (pe_lc (own := [("_law_moment", 2)]) (by rfl) sc__law_right.nd (pi_list (c_meth0 (pv 0) T.c_Spread T.m_Spread_moments (ok_Spread_moments T) (hr.mono (by decide)) takes0)) (blkOk_by (own := [("_law_moment", 2)]) (N := ["_law_told", "_law_due", "_law_moment"]) (sc := defScope s__law_right) (by decide +kernel)) (fun _ _ _ _ _ => (pg_name (i := 2) sc__law_right.nd rfl (Or.inl rfl))) (fun _ _ _ _ _ => pts_nil) (fun _ _ _ _ _ => (c_call (ok__law_whole T) (hr.mono (by decide)) T.g__law_whole T.k__law_whole takes0 (pa_cons (pv 2) pa_nil)))) pa_nil)))) (pw_or1 (pt_not (pt_val (c_call (ok__law_whole T) (hr.mono (by decide)) T.g__law_whole T.k__law_whole takes0 (pa_cons (c_meth0 (pv 0) T.c_Spread T.m_Spread_pieces (ok_Spread_pieces T) (hr.mono (by decide)) takes0) pa_nil)))))))
      (pss_one (ps_ret pe_bl))
      pss_nil)
      (pss_cons (ps_if (PW.pt (pw_or (pt_cmpR (op_neD hr.rm.units) (c_call (ok__law_walked T (Nat.le_add_right 40 _) (all__law_over_walked T 9)) (hr.mono (by decide)) T.g__law_walked T.k__law_walked takes0 (pa_cons (c_meth0 (pv 0) T.c_Spread T.m_Spread_parts (ok_Spread_parts T) (hr.mono (by decide)) takes0) pa_nil)) (pe_tup (pa_cons (pv 1) (pa_cons (c_meth0 (pv 0) T.c_Spread T.m_Spread_pieces (ok_Spread_pieces T) (hr.mono (by decide)) takes0) pa_nil))) (nomark _)) (pw_or (pt_cmpR (op_neD hr.rm.units) (c_meth0 (pv 0) T.c_Spread T.m_Spread_moments (ok_Spread_moments T) (hr.mono (by decide)) takes0) (pv 1) (nomark _)) (pw_or1 (pt_cmpR op_gt (c_meth0 (pv 0) T.c_Spread T.m_Spread_pieces (ok_Spread_pieces T) (hr.mono (by decide)) takes0) (pe_callB call_len (by rfl) T.n_len (by decide +kernel) (pa_cons (pv 1) pa_nil)) (nomark _))))))
      (pss_one (ps_ret pe_bl))
      pss_nil)
      (pss_one (ps_ret (c_call (ok__law_equal T) (hr.mono (by decide)) T.g__law_equal T.k__law_equal takes0 (pa_cons (pv 0) (pa_cons (pv 1) pa_nil)))))))), ?_⟩
    obtain ⟨dx, kp, hh, as, ha, hk, hhd, hA⟩ := id hS
    refine ⟨fun σ G => Ex H G ∧ ∃ v2, σ = [some (.ref a), some (.ref d), v2], ?_, ?_⟩
    · refine ⟨_, rfl, _, _, _, _, _, rfl, .own _, ty_ins T.i_Spread T.c_Spread ha, T.kit_Spread_Spread, _, rfl, _, rfl, _, _, _, rfl, ha, rfl, _, _, rfl, hS, ?_⟩
      intro as2 p hA2 np
      have X1 := ex_new (o := .lst (as2.map V.ref)) np
      have hp1 : upd H p (.lst (as2.map V.ref)) p = some (.lst (as2.map V.ref)) := upd_same
      generalize upd H p (.lst (as2.map V.ref)) = H1 at X1 hp1 ⊢
      have hS1 := hS.mono X1
      refine ⟨_, _, _, _, _, rfl, .ty _, .base (.lst hp1), (kit_ty (r := true) (by decide +kernel)), _, rfl, _, rfl, _, _, _, rfl, (X1 _ _ ha), rfl, _, _, rfl, hS1, ?_⟩
      intro a1 na1
      have Xa1 := ex_new (o := HO.lst (natV (momsL ts))) na1
      have ha1 : upd H1 a1 (HO.lst (natV (momsL ts))) a1 = some (HO.lst (natV (momsL ts))) := upd_same
      generalize upd H1 a1 (HO.lst (natV (momsL ts))) = Ga1 at Xa1 ha1 ⊢
      refine ⟨_, _, _, _, _, rfl, .ty _, .base (.lst ha1), (kit_ty (r := true) (by decide +kernel)), _, rfl, (X1.trans Xa1), ?_⟩
      exact ⟨_, rfl⟩
    · rintro σ G ⟨XG, v2, rfl⟩
      have hSG := hS.mono XG
      obtain ⟨dx3, kp3, hh3, as3, ha3, _⟩ := id hSG
      refine ⟨_, rfl, _, _, _, rfl, ha3, rfl, _, _, rfl, hSG, ?_⟩
      intro a1 na1
      have Xa1 := ex_new (o := HO.lst (natV (momsL ts))) na1
      have ha1 : upd G a1 (HO.lst (natV (momsL ts))) a1 = some (HO.lst (natV (momsL ts))) := upd_same
      generalize upd G a1 (HO.lst (natV (momsL ts))) = Ga1 at Xa1 ha1 ⊢
      refine ⟨_, rfl, ⟨_, (sq_lst ha1)⟩, ?_⟩
      intro D nD
      refine lc_on (momsL ts) (fun n : Nat => V.int n) L2.walk_list (fun _ => some (.bl true)) (fun G => Ex Ga1 G) (fun G z e => ex_mut e nD) (.refl _) (by omega) (fun G e => sq_lst (e _ _ ha1)) (fun j n G acc N_ hn XG2 hB la k => ?_) fun G2 XG2 dG2 => ?_
      · refine ⟨rfl, ?_⟩
        refine ⟨_, rfl, _, rfl, _, hB, la, ?_⟩
        try dsimp only [tNil]
        exact k G XG2 hB
      · have er : (momsL ts).filterMap (fun _ : Nat => some (V.bl true)) = (List.replicate (momsL ts).length true).map V.bl := by
          rw [List.filterMap_eq_map', List.map_replicate]
          generalize momsL ts = l
          induction l with
          | nil => rfl
          | cons x l ih => rw [List.map_cons, ih, List.length_cons, List.replicate_succ]
        rw [er] at dG2
        have X02 := (XG.trans Xa1).trans XG2
        have hS2 := hSG.mono (Xa1.trans XG2)
        have hd2 := X02 _ _ hd
        refine ⟨D, _, rfl, sq_lst dG2, _, rfl, ?_⟩
        rw [all_rep]
        refine iteF ?_
        obtain ⟨dx4, kp4, hh4, as4, ha4, _⟩ := id hS2
        refine ⟨_, rfl, a, dx4, _, rfl, ha4, rfl, a, ts, rfl, hS2, hn, hok, by omega, fun G3 X3 => ⟨_, rfl, true, rfl, iteF ?_⟩⟩
        have hS3 := hS2.mono X3
        obtain ⟨dx5, kp5, hh5, as5, ha5, _⟩ := id hS3
        refine ⟨_, rfl, a, dx5, _, rfl, ha5, rfl, a, ts, rfl, hS3, fun as6 u hA6 nu => ⟨u, as6, ts, rfl, sq_lst upd_same, hA6.mono (ex_new nu), by omega, hok, pw, by omega, fun t f G4 X4 ht hf => ?_⟩⟩
        have X34 := (ex_new nu).trans X4
        have hd4 := X34 _ _ (X3 _ _ hd2)
        have hS4 := hS3.mono X34
        obtain ⟨dx6, kp6, hh6, as7, ha6, _⟩ := id hS4
        refine ⟨_, rfl, _, rfl, a, dx6, _, rfl, ha6, rfl, a, ts, rfl, hS4, hn, hok, by omega, fun G5 X5 => ⟨by show 2 ≤ sizeLine; decide, fun v nv => ?_⟩⟩
        have X6 := X5.trans (ex_new (o := .tup [.ref d, .int ((pcsL ts : Nat) : Int)]) nv)
        have ht6 := X6 _ _ ht
        have hf6 := X6 _ _ hf
        have hd6 := X6 _ _ hd4
        have hS6 := hS4.mono X6
        have hv6 : upd G5 v (.tup [.ref d, .int ((pcsL ts : Nat) : Int)]) v = some (.tup [.ref d, .int ((pcsL ts : Nat) : Int)]) := upd_same
        generalize upd G5 v (.tup [.ref d, .int ((pcsL ts : Nat) : Int)]) = G6 at X6 ht6 hf6 hd6 hS6 hv6 ⊢
        have X06 : Ex H G6 := ((X02.trans X3).trans X34).trans X6
        refine ⟨.tuple [.list (natD (momsL ts)), .int ((pcsL ts : Nat) : Int)], .tuple [.list (natD (momsL ts)), .int ((pcsL ts : Nat) : Int)], .tup (sq_tup ht6) (.cons (.lst (sq_lst hf6) (dp_nat K _ _)) (.cons (.int _) .nil)), .tup (sq_tup hv6) (.cons (.lst (sq_lst hd6) (dp_nat K _ _)) (.cons (.int _) .nil)), ?_, ?_, _, rfl, ?_⟩
        · exact sh_pair _ _
        · exact sh_pair _ _
        have ee : PyData.eqv (.tuple [.list (natD (momsL ts)), .int ((pcsL ts : Nat) : Int)]) (.tuple [.list (natD (momsL ts)), .int ((pcsL ts : Nat) : Int)]) = true := by
          show (PyData.eqvAll (natD (momsL ts)) (natD (momsL ts)) && (PyData.eqv (.int ((pcsL ts : Nat) : Int)) (.int ((pcsL ts : Nat) : Int)) && true)) = true
          rw [eqv_natD, decide_eq_true rfl]
          show (true && ((((pcsL ts : Nat) : Int) == ((pcsL ts : Nat) : Int)) && true)) = true
          rw [beq_self_eq_true]
          rfl
        rw [ee]
        refine iteF ?_
        clear hf6 ht6 hv6 ht hf hd4 hS4 X34 X3 X5 X6
        obtain ⟨dx7, kp7, hh7, as8, ha7, _⟩ := id hS6
        refine ⟨_, rfl, a, dx7, _, rfl, ha7, rfl, a, ts, rfl, hS6, fun m1 nm1 => ?_⟩
        have X7 := ex_new (o := .lst (natV (momsL ts))) nm1
        have hm7 : upd G6 m1 (.lst (natV (momsL ts))) m1 = some (.lst (natV (momsL ts))) := upd_same
        have hd7 := X7 _ _ hd6
        have hS7 := hS6.mono X7
        generalize upd G6 m1 (.lst (natV (momsL ts))) = G7 at X7 hm7 hd7 hS7 ⊢
        refine ⟨_, rfl, _, _, .lst (sq_lst hm7) (dp_nat K _ _), .lst (sq_lst hd7) (dp_nat K _ _), shaped_nat _, shaped_nat _, _, rfl, ?_⟩
        have e2 : PyData.eqv (.list (natD (momsL ts))) (.list (natD (momsL ts))) = true := by
          show PyData.eqvAll (natD (momsL ts)) (natD (momsL ts)) = true
          rw [eqv_natD, decide_eq_true rfl]
        rw [e2]
        refine iteF ?_
        obtain ⟨dx8, kp8, hh8, as9, ha8, _⟩ := id hS7
        refine ⟨_, rfl, a, dx8, _, rfl, ha8, rfl, a, ts, rfl, hS7, hn, hok, by omega, fun G8 X8 => ⟨_, rfl, _, _, rfl, .inl ⟨_, sq_lst (X8 _ _ hd7), rfl⟩, _, _, rfl, rfl, _, rfl, ?_⟩⟩
        rw [natV_len]
        refine ifN (by omega) ?_
        refine ⟨_, rfl, _, rfl, a, d, ts, rfl, hS7.mono X8, X8 _ _ hd7, hok, hn, pw, hl, hb, fun G9 X9 => q _ (((X06.trans X7).trans X8).trans X9)⟩
theorem ok__law_right {P : Program} {w : World} {K : PySem.W.Frag} {mg : Str → Option Value} {base : Heap} (T : Env K mg) : Fc P w K mg base 140 (He.ga K "_law_right") [] (sp__law_right K ) := by
  obtain ⟨fd, D, F⟩ := fb__law_right T
  exact F.all (D.bindsN fun _ _ _ _ _ _ us hl => match us, hl with | [_, _], _ => rfl)
end
section
def MkR (N : Addr → Prop) (A : Addr) (rw_ : Nat → List Int) (i : Nat) (acc : List V) (G : Hp) : Prop := ∃ as : List Addr, acc = as.map V.ref ∧ as.length = i ∧ as.Nodup ∧ ∀ (k : Nat) (b : Addr), as[k]? = some b → N b ∧ b ≠ A ∧ G b = some (.lst ((rw_ k).map V.int))
theorem MkR.nil {N : Addr → Prop} {A : Addr} {rw_ : Nat → List Int} {G : Hp} : MkR N A rw_ 0 [] G := ⟨[], rfl, rfl, List.nodup_nil, fun k b hk => by simp at hk⟩
theorem MkR.len {N : Addr → Prop} {A : Addr} {rw_ : Nat → List Int} {i : Nat} {acc : List V} {G : Hp} (h : MkR N A rw_ i acc G) : acc.length ≤ i := by
  obtain ⟨as, rfl, e3, _⟩ := h
  rw [List.length_map, e3]
  exact Nat.le_refl _
theorem MkR.mono {N : Addr → Prop} {A : Addr} {rw_ : Nat → List Int} {i : Nat} {acc : List V} {G G' : Hp} (h : MkR N A rw_ i acc G) (e : Ex G G') : MkR N A rw_ i acc G' := by
  obtain ⟨as, e2, e3, e4, e5⟩ := h
  exact ⟨as, e2, e3, e4, fun k b hk => let ⟨g1, g2, g3⟩ := e5 k b hk; ⟨g1, g2, e _ _ g3⟩⟩
theorem MkR.upd {N : Addr → Prop} {A : Addr} {rw_ : Nat → List Int} {i : Nat} {acc : List V} {G : Hp} (h : MkR N A rw_ i acc G) (o : HO) : MkR N A rw_ i acc (upd G A o) := by
  obtain ⟨as, e2, e3, e4, e5⟩ := h
  exact ⟨as, e2, e3, e4, fun k b hk => let ⟨g1, g2, g3⟩ := e5 k b hk; ⟨g1, g2, by rw [upd_ne g2]; exact g3⟩⟩
theorem MkR.snoc {N : Addr → Prop} {A : Addr} {rw_ : Nat → List Int} {i : Nat} {acc : List V} {G G' : Hp} {b : Addr} (h : MkR N A rw_ i acc G) (nb : G b = none) (Nb : N b) (bA : b ≠ A) (e : Ex G G') (hb : G' b = some (.lst ((rw_ i).map V.int))) : MkR N A rw_ (i + 1) (acc ++ [.ref b]) G' := by
  obtain ⟨as, e2, e3, e4, e5⟩ := h
  refine ⟨as ++ [b], by rw [e2, List.map_append]; rfl, by rw [List.length_append, e3]; rfl, ?_, fun j c hj => ?_⟩
  · refine List.nodup_append.mpr ⟨e4, List.pairwise_singleton _ _, fun c hc d hd z => ?_⟩
    rw [List.mem_singleton.mp hd] at z
    obtain ⟨j, jl, e6⟩ := List.getElem_of_mem hc
    have := (e5 j c (by rw [List.getElem?_eq_getElem jl, e6])).2.2
    rw [z, nb] at this
    cases this
  · by_cases d : j < as.length
    · rw [List.getElem?_append_left d] at hj
      obtain ⟨g1, g2, g3⟩ := e5 j c hj
      exact ⟨g1, g2, e _ _ g3⟩
    · rw [List.getElem?_append_right (by omega)] at hj
      have hj2 : [b][j - as.length]? = some c := hj
      have cb : c = b := List.mem_singleton.mp (List.mem_of_getElem? hj2)
      have ji : j = i := by
        obtain ⟨z, _⟩ := List.getElem?_eq_some_iff.mp hj2
        simp at z
        omega
      rw [cb, ji]
      exact ⟨Nb, bA, hb⟩
/-- all but q stays -/
theorem PapL.oth {N : Addr → Prop} {G G' : Hp} {F q : Addr} {pap : List (List Int)} {as : List Addr} (h : PapL N G F pap as) (k : ∀ b o, b ≠ q → G b = some o → G' b = some o) (Fq : F ≠ q) (Nq : ∀ b, N b → b ≠ q) : PapL N G' F pap as :=
  ⟨k _ _ Fq h.1, h.2.1, h.2.2.1, fun i b hi => let ⟨g1, g2, g3⟩ := h.2.2.2 i b hi; ⟨g1, g2, k _ _ (Nq _ g1) g3⟩⟩
theorem map_erase {α β : Type} (f : α → β) : ∀ (l : List α) (k : Nat), (l.map f).eraseIdx k = (l.eraseIdx k).map f
  | [], _ => rfl
  | _ :: _, 0 => rfl
  | n :: r, k + 1 => congrArg (f n :: ·) (map_erase f r k)
theorem getD_erase {α : Type} (d : α) : ∀ (l : List α) (k i : Nat), (l.eraseIdx k).getD i d = if i < k then l.getD i d else l.getD (i + 1) d
  | [], _, _ => by simp
  | _ :: _, 0, i => by simp
  | a :: r, k + 1, 0 => by simp
  | a :: r, k + 1, i + 1 => by
    have := getD_erase d r k i
    simp only [List.eraseIdx_cons_succ, List.getD_cons_succ, this]
    by_cases c : i < k
    · rw [if_pos c, if_pos (by omega)]
    · rw [if_neg c, if_neg (by omega)]
theorem PapL.drop {N : Addr → Prop} {G : Hp} {F : Addr} {pap : List (List Int)} {as : List Addr} (h : PapL N G F pap as) (k : Nat) : PapL N (upd G F (.lst ((as.map V.ref).eraseIdx k))) F (pap.eraseIdx k) (as.eraseIdx k) := by
  obtain ⟨h1, h2, h3, h4⟩ := h
  refine ⟨by rw [upd_same, map_erase], by rw [List.length_eraseIdx, List.length_eraseIdx, h2], h3.sublist (List.eraseIdx_sublist _ _), fun i b hi => ?_⟩
  rw [List.getElem?_eraseIdx] at hi
  rw [getD_erase]
  split at hi
  · rename_i c
    obtain ⟨g1, g2, g3⟩ := h4 i b hi
    rw [if_pos c, upd_ne g2]
    exact ⟨g1, g2, g3⟩
  · rename_i c
    obtain ⟨g1, g2, g3⟩ := h4 (i + 1) b hi
    rw [if_neg c, upd_ne g2]
    exact ⟨g1, g2, g3⟩
/-- a row more, in a new list of rows -/
theorem PapL.snoc {N : Addr → Prop} {G G' : Hp} {F P b : Addr} {pap : List (List Int)} {as : List Addr} {r : List Int} (h : PapL N G F pap as) (nb : G b = none) (Nb : N b) (bP : b ≠ P) (nP : G P = none) (e : Ex G G') (hb : G' b = some (.lst (r.map V.int))) (hP : G' P = some (.lst (as.map V.ref ++ [.ref b]))) : PapL N G' P (pap ++ [r]) (as ++ [b]) := by
  obtain ⟨h1, h2, h3, h4⟩ := h
  refine ⟨by rw [hP, List.map_append]; rfl, by rw [List.length_append, List.length_append, h2]; rfl, ?_, fun i c hi => ?_⟩
  · refine List.nodup_append.mpr ⟨h3, List.pairwise_singleton _ _, fun c hc d hd z => ?_⟩
    rw [List.mem_singleton.mp hd] at z
    obtain ⟨j, jl, e6⟩ := List.getElem_of_mem hc
    have := (h4 j c (by rw [List.getElem?_eq_getElem jl, e6])).2.2
    rw [z, nb] at this
    cases this
  · by_cases d : i < as.length
    · rw [List.getElem?_append_left d] at hi
      obtain ⟨g1, g2, g3⟩ := h4 i c hi
      rw [List.getD_eq_getElem?_getD, List.getElem?_append_left (by omega), ← List.getD_eq_getElem?_getD]
      exact ⟨g1, fun z => (by rw [z, nP] at g3; cases g3), e _ _ g3⟩
    · rw [List.getElem?_append_right (by omega)] at hi
      have hi2 : [b][i - as.length]? = some c := hi
      have cb : c = b := List.mem_singleton.mp (List.mem_of_getElem? hi2)
      have ii : i = pap.length := by
        obtain ⟨z, _⟩ := List.getElem?_eq_some_iff.mp hi2
        simp at z
        omega
      rw [cb, ii, List.getD_eq_getElem?_getD, List.getElem?_append_right (Nat.le_refl _), Nat.sub_self]
      exact ⟨Nb, bP, hb⟩
theorem PapL.row {N : Addr → Prop} {G : Hp} {F : Addr} {pap : List (List Int)} {as : List Addr} (h : PapL N G F pap as) {i : Nat} (hi : i < pap.length) : ∃ b : Addr, as[i]? = some b ∧ atI (as.map V.ref) (i : Int) = some (.ref b) ∧ N b ∧ b ≠ F ∧ G b = some (.lst ((pap.getD i []).map V.int)) := by
  obtain ⟨h1, h2, h3, h4⟩ := h
  have il : i < as.length := by omega
  have e1 : as[i]? = some as[i] := List.getElem?_eq_getElem il
  exact ⟨as[i], e1, atI_nat (by rw [List.getElem?_map, e1]; rfl), h4 i _ e1⟩
end
section
def cellB (t : Bool) (xs : List V) : HO := if t = true then .tup xs else .lst xs
def PapV (t : Bool) (H : Hp) (a : Addr) (pap : List (List Int)) (as : List Addr) : Prop := H a = some (cellB t (as.map V.ref)) ∧ as.length = pap.length ∧ ∀ (i : Nat) (b : Addr), as[i]? = some b → H b = some (cellB t ((pap.getD i []).map V.int))
theorem PapV.mono {t : Bool} {H H' : Hp} {a : Addr} {pap : List (List Int)} {as : List Addr} (h : PapV t H a pap as) (e : Ex H H') : PapV t H' a pap as := ⟨e _ _ h.1, h.2.1, fun i b hi => e _ _ (h.2.2 i b hi)⟩
theorem sq_cell {K : PySem.W.Frag} {H : Hp} {a : Addr} {xs : List V} : ∀ {t : Bool}, H a = some (cellB t xs) → SqS K H a xs
  | false, h => .inl (sq_lst h)
  | true, h => .inr (sq_tup h)
theorem PapV.at {K : PySem.W.Frag} {t : Bool} {H : Hp} {a : Addr} {pap : List (List Int)} {as : List Addr} (h : PapV t H a pap as) : PapAt K H a pap := by
  obtain ⟨h1, h2, h3⟩ := h
  refine ⟨as, sq_cell h1, h2, fun i b r hi hr => ?_⟩
  have := h3 i b hi
  rw [List.getD_eq_getElem?_getD, hr] at this
  exact sq_cell this
def seqD (t : Bool) (ds : List PyData) : PyData := if t = true then .tuple ds else .list ds
theorem dp_cell {K : PySem.W.Frag} {H : Hp} {a : Addr} {xs : List V} {ds : List PyData} (d : DpAll K H xs ds) : ∀ {t : Bool}, H a = some (cellB t xs) → Dp K H (.ref a) (seqD t ds)
  | false, h => .lst (sq_lst h) d
  | true, h => .tup (sq_tup h) d
theorem okD_seq (t : Bool) (ds : List PyData) : okD (seqD t ds) = okL ds := by cases t <;> rfl
theorem szD_seq (t : Bool) (ds : List PyData) : szD (seqD t ds) = szL ds + 3 := by cases t <;> rfl
theorem depth_seq (t : Bool) (ds : List PyData) : (seqD t ds).depth = PyData.depthAll ds + 1 := by cases t <;> rfl
theorem rr_natC {K : PySem.W.Frag} {H : Hp} {q : Addr} {ns : List Nat} {t : Bool} {Q : VK} (h : ∀ n ∈ ns, n < 10 ^ 80) (l : ns.length ≤ 8000) (e : H q = some (cellB t (natV ns))) (k : Q (.str (seqD t (natD ns)).shown) H) : rRepr K [.ref q] H Q := by
  refine rr_data (dp_cell (dp_nat K H ns) e) ?_ ?_ ?_ k
  · rw [okD_seq]
    exact natD_ok (by decide) ns h
  · rw [szD_seq, natD_sz]
    omega
  · rw [depth_seq, natD_dep]
    decide
end
section
theorem momG_cell {K : PySem.W.Frag} {H : Hp} {a : Addr} {ns : List Nat} {t : Bool} (h : H a = some (cellB t (natV ns))) (hl : ns.length ≤ 10000) (hn : ns.Nodup) : MomG K H (.ref a) (some ns) := by
  cases t with
  | false => exact momG_nat (.inl h) hl hn
  | true => exact momG_nat (.inr h) hl hn
end
section
theorem short_facts {ns : List Nat} {pap : List (List Int)} {ts : List Tr} (hG : Good ns pap) (hC : Cuts ns pap 0 ns.length ts) (hl : ns.length ≤ 40) : okL_ ts ∧ nestL ts ≤ 8 ∧ momsL ts = ns ∧ pcsL ts = optN ns ∧ optN ns ≤ ns.length := by
  refine ⟨hC.1, ?_, by rw [hC.2.1, seg_all], cuts_opt hG hC, ?_⟩
  · by_cases c : 1 ≤ ns.length
    · have := nest5 (hC.2.2.2.2 c) (by omega)
      omega
    · rw [hC.2.2.1 (by omega)]
      exact Nat.zero_le _
  · by_cases c : 1 ≤ ns.length
    · have := opt_pg hG c
      have := good_bd hG (b := 0) (k := ns.length - 1) (by omega)
      omega
    · rw [List.length_eq_zero_iff.mp (show ns.length = 0 by omega), opt_nil]
      exact Nat.zero_le _
end
section
def sp_law (K : PySem.W.Frag) : Sp := fun vs H Q _ => ∃ (a : Addr) (ns : List Int), vs = [.ref a] ∧ SqL K H a (ns.map V.int) ∧ ns.length ≤ 63 ∧ ∀ H', Q (.bl true) H'
theorem ok_law {P : Program} {w : World} {K : PySem.W.Frag} {mg : Str → Option Value} {base : Heap} (T : Env K mg) {fd : FuncData} (F : FunD K "law" "law" (defArgs s_law) (defBody s_law) (defScope s_law) [] [] (He.ga K "law") fd) : Fb P w K mg base 141 (He.ga K "law") fd ["_law_script"] (sp_law K) := by
  refine fb_of F sc_law (fun vs H Q E h => ?_) (fun cdv A outer s H vs Q E hr h => ?_)
  · obtain ⟨a, ns, rfl, _⟩ := h
    rfl
  · obtain ⟨a, ns, rfl, hS, hl, q⟩ := h
    refine ⟨_, (Evl.pss_cut (ps_if (PW.pt (pw_or (pt_not (pt_val (c_call (ok__law_right T) (hr.mono (by decide)) T.g__law_right T.k__law_right takes0 (pa_cons (c_call (ok_shortest T) (hr.mono (by decide)) T.g_shortest T.k_shortest takes0 (pa_cons (pe_lst pa_nil) pa_nil)) (pa_cons (pe_lst pa_nil) pa_nil))))) (pw_or1 (pt_not (pt_val (c_call (ok__law_right T) (hr.mono (by decide)) T.g__law_right T.k__law_right takes0 (pa_cons (c_call (ok_shortest T) (hr.mono (by decide)) T.g_shortest T.k_shortest takes0 (pa_cons (pe_tup pa_nil) pa_nil)) (pa_cons (pe_lst pa_nil) pa_nil))))))))
      (pss_one (ps_ret pe_bl))
      pss_nil)
      (pss_cons (ps_for (passes_of rfl) rfl (pi_range1 (by rfl) T.n_range (pa_cons (pe_callB (call_max2 rfl) (by rfl) T.n_max (by decide +kernel) (pa_cons pe_int (pa_cons (pe_callB (call_min2 rfl) (by rfl) T.n_min (by decide +kernel) (pa_cons (pe_callB call_len (by rfl) T.n_len (by decide +kernel) (pa_cons (pv 0) pa_nil)) (pa_cons pe_int pa_nil))) pa_nil))) pa_nil)) (pg_name (i := 1) sc_law.nd rfl (Or.inl rfl))
      (pss_cons (ps_set (i := 2) sc_law.nd rfl (Or.inl rfl) (c_call (ok__law_pot T) (hr.mono (by decide)) T.g__law_pot T.k__law_pot takes0 (pa_cons (pv 0) (pa_cons (pv 1) pa_nil))))
      (pss_cons (ps_set (i := 3) sc_law.nd rfl (Or.inl rfl) (c_call (ok__law_list T) (hr.mono (by decide)) T.g__law_list T.k__law_list takes0 (pa_cons (pv 2) pa_nil)))
      (pss_cons (ps_set (i := 4) sc_law.nd rfl (Or.inl rfl) (c_call (ok__law_turned T) (hr.mono (by decide)) T.g__law_turned T.k__law_turned takes0 (pa_cons (pv 2) (pa_cons (pv 3) pa_nil))))
      (pss_cons (ps_set (i := 5) sc_law.nd rfl (Or.inl rfl) (c_call (ok__law_turned T) (hr.mono (by decide)) T.g__law_turned T.k__law_turned takes0 (pa_cons (pv 2) (pa_cons (pv 3) pa_nil))))
      (Evl.pss_cut (ps_if (pt_cmpR op_eq (c_call (ok__law_draw T) (hr.mono (by decide)) T.g__law_draw T.k__law_draw takes0 (pa_cons (pv 2) (pa_cons pe_int pa_nil))) pe_int (nomark _))
      (pss_one (ps_set (i := 5) sc_law.nd rfl (Or.inl rfl) (pe_callTy call_tuple_of (by rfl) T.n_tuple (by decide +kernel) (pa_cons (pv 5) pa_nil))))
      pss_nil)
      (pss_cons (ps_set (i := 6) sc_law.nd rfl (Or.inl rfl) (pe_callB (call_repr hr) (by rfl) T.n_repr (by decide +kernel) (pa_cons (pv 5) pa_nil)))
      (pss_cons (ps_set (i := 7) sc_law.nd rfl (Or.inl rfl) (c_call (ok_shortest T) (hr.mono (by decide)) T.g_shortest T.k_shortest takes0 (pa_cons (pv 5) pa_nil)))
      (pss_cons (ps_if (PW.pt (pw_or (pt_cmpR op_ne (pe_callB (call_repr hr) (by rfl) T.n_repr (by decide +kernel) (pa_cons (pv 5) pa_nil)) (pv 6) (nomark _)) (pw_or1 (pt_not (pt_val (c_call (ok__law_right T) (hr.mono (by decide)) T.g__law_right T.k__law_right takes0 (pa_cons (pv 7) (pa_cons (pv 3) pa_nil))))))))
      (pss_one (ps_ret pe_bl))
      pss_nil)
      (pss_cons (ps_set (i := 8) sc_law.nd rfl (Or.inl rfl) (c_meth0 (pv 7) T.c_Spread T.m_Spread_pieces (ok_Spread_pieces T) (hr.mono (by decide)) takes0))
      (Evl.pss_cut (ps_if (pt_val (pe_callB call_isi (by rfl) T.n_isinstance (by decide +kernel) (pa_cons (pv 5) (pa_cons (pe_bltn (v := .ty "list") (by rfl) T.n_list (by decide +kernel) rfl) pa_nil))))
      (pss_cons (ps_expr (pe_bm PySem.F.plainAttrs_list PySem.F.slot_list_append PySem.F.type_list_append mt_append (pv 5) (pa_cons pe_int pa_nil)))
      (pss_one (ps_expr (pe_bm0 PySem.F.plainAttrs_list PySem.F.slot_list_reverse PySem.F.type_list_reverse mt_reverse (pv 5)))))
      pss_nil)
      (pss_cons (ps_expr (c_call (ok__law_spoil T) (hr.mono (by decide)) T.g__law_spoil T.k__law_spoil takes0 (pa_cons (pv 7) pa_nil)))
      (pss_cons (ps_set (i := 9) sc_law.nd rfl (Or.inl rfl) (c_callK0 (ok_shortest_0_moments T) (hr.mono (by decide)) T.g_shortest T.k_shortest takes0 (pk_cons (pv 4) pk_nil)))
      (pss_one (ps_if (PW.pt (pw_or (pt_not (pt_val (c_call (ok__law_right T) (hr.mono (by decide)) T.g__law_right T.k__law_right takes0 (pa_cons (pv 9) (pa_cons (pv 3) pa_nil))))) (pw_or (pt_cmpR op_ne (c_meth0 (pv 9) T.c_Spread T.m_Spread_pieces (ok_Spread_pieces T) (hr.mono (by decide)) takes0) (pv 8) (nomark _)) (pw_or1 (pt_not (pt_val (c_call (ok__law_right T) (hr.mono (by decide)) T.g__law_right T.k__law_right takes0 (pa_cons (pv 7) (pa_cons (pv 3) pa_nil)))))))))
      (pss_one (ps_ret pe_bl))
      pss_nil)))))))))))))))
      (pss_one (ps_ret pe_bl)))), ?_⟩
    have ew : ∀ {G : Hp} {e : Addr}, ((G e = some (.lst [])) ∨ G e = some (.tup [])) → MomG K G (.ref e) (some []) := fun h => momG_nat (ns := []) h (by decide) List.nodup_nil
    have sn : srtN [] = [] := List.length_eq_zero_iff.mp (srtN_len [])
    refine ⟨fun σ G => Ex H G ∧ σ = [some (.ref a), none, none, none, none, none, none, none, none, none], ?_, ?_⟩
    · refine ⟨by show 0 ≤ sizeLine; decide, fun e1 ne1 => ?_⟩
      have Y1 := ex_new (o := .lst []) ne1
      refine ⟨_, some [], rfl, ew (.inl upd_same), fun ns e => by cases e; decide, fun ns e y ts pap H1 X1 ny hSp hHe hG hC => ?_, fun e => nomatch e⟩
      cases e
      rw [sn] at hG hC
      obtain ⟨hok, hn8, hm, hpc, hop⟩ := short_facts hG hC (by decide)
      refine ⟨by show 0 ≤ sizeLine; decide, fun e2 ne2 => ?_⟩
      have Y2 := ex_new (o := .lst []) ne2
      refine ⟨y, e2, ts, rfl, hSp.mono Y2, by rw [hm]; exact upd_same, hok, hn8, by rw [hm]; exact .nil, by rw [hm]; decide, (fun n hn => by rw [hm] at hn; cases hn), by rw [hpc, hm]; exact hop, fun H3 X3 => ⟨true, rfl, iteF ?_⟩⟩
      refine ⟨by show 0 ≤ sizeLine; decide, fun e4 ne4 => ?_⟩
      have Y4 := ex_new (o := .tup []) ne4
      refine ⟨_, some [], rfl, ew (.inr upd_same), fun ns e => by cases e; decide, fun ns e y5 ts5 pap5 H5 X5 ny5 hSp5 hHe5 hG5 hC5 => ?_, fun e => nomatch e⟩
      cases e
      rw [sn] at hG5 hC5
      obtain ⟨hok5, hn5, hm5, hpc5, hop5⟩ := short_facts hG5 hC5 (by decide)
      refine ⟨by show 0 ≤ sizeLine; decide, fun e6 ne6 => ?_⟩
      have Y6 := ex_new (o := .lst []) ne6
      refine ⟨y5, e6, ts5, rfl, hSp5.mono Y6, by rw [hm5]; exact upd_same, hok5, hn5, by rw [hm5]; exact .nil, by rw [hm5]; decide, (fun n hn => by rw [hm5] at hn; cases hn), by rw [hpc5, hm5]; exact hop5, fun H7 X7 => ⟨true, rfl, iteF ?_⟩⟩
      exact ⟨((((((Y1.trans X1).trans Y2).trans X3).trans Y4).trans X5).trans Y6).trans X7, rfl⟩
    rintro σ H0 ⟨X0, rfl⟩
    have hS0 := ex_sql X0 hS
    refine ⟨_, rfl, _, _, rfl, .inl ⟨_, hS0, rfl⟩, _, _, rfl, _, _, rfl, _, rfl, (turns_lo 4 _ (by decide)), (turns_hi 4 _ (by decide)), for_range (fun i σ H' => Ex H0 H' ∧ ∃ v : Nat → Option V, σ = [some (.ref a), v 1, v 2, v 3, v 4, v 5, v 6, v 7, v 8, v 9]) ⟨.refl H0, fun _ => none, rfl⟩ ?_ ?_⟩
    · rintro i σ H1 hi ⟨X1, v, rfl⟩
      have i1 : i < 1000 := turns_lt 4 _ (by decide) hi
      refine ⟨_, rfl, _, rfl, a, ns, _, rfl, ex_sql X1 hS0, by omega, by omega, fun p H2 np P2 K2 => ?_⟩
      have X2 : Ex H0 H2 := fun b o e => by rw [K2 b (ne_of_none (X1 b o e) np)]; exact X1 b o e
      have hp0 : H0 p = none := ex_fresh X1 np
      have nq : ∀ b G, PotOn H2 G p → G b = none → b ≠ p := fun b G P nb z => by
        obtain ⟨x, y, e, _⟩ := P.1
        rw [z, e] at nb
        cases nb
      refine ⟨_, rfl, p, rfl, P2, fun r rw_ H4 nr hr4 pw lw bw P4 => ?_⟩
      have rp := nq r _ (.refl P2) nr
      refine ⟨_, rfl, _, rfl, p, r, rw_, rfl, P4.1, rp, hr4, lw, fun o os H5 no ho5 po P5 => ?_⟩
      have P5' := P4.trans P5
      have op := nq o _ P4 no
      have hr5 := P5.2 _ _ rp hr4
      refine ⟨_, rfl, _, rfl, p, r, rw_, rfl, P5'.1, rp, hr5, lw, fun h ms H6 nh hh6 pm P6 => ?_⟩
      have P6' := P5'.trans P6
      have hp := nq h _ P5' nh
      have hr6 := P6.2 _ _ rp hr5
      have ho6 := P6.2 _ _ op ho5
      have nh0 : H0 h = none := (PotOn.ex X2 hp0 P5').free nh
      have hr : h ≠ r := fun z => by
        rw [z, hr5] at nh
        cases nh
      have ho : h ≠ o := fun z => by
        rw [z, ho5] at nh
        cases nh
      refine ⟨fun σ G => PotOn H2 G p ∧ G r = some (.lst (natV rw_)) ∧ G o = some (.lst (natV os)) ∧ ∃ t h, G h = some (cellB t (natV ms)) ∧ h ≠ r ∧ h ≠ o ∧ h ≠ p ∧ H2 h = none ∧ σ = [some (.ref a), some (.int (0 + (i : Nat))), some (.ref p), some (.ref r), some (.ref o), some (.ref h), v 6, v 7, v 8, v 9], ?_, ?_⟩
      · refine ⟨_, rfl, p, 2, rfl, P6'.1, by decide, by decide, fun d H7 d0 d1 P7 => ⟨rfl, _, rfl, ite2 (fun c => ?_) (fun c => ?_)⟩⟩
        · refine ⟨_, rfl, h, _, rfl, .inl ⟨sq_lst (P7.2 _ _ hp hh6), fun l nl => ?_⟩⟩
          have P67 := P6'.trans P7
          have X8 := ex_new (o := .tup (natV ms)) nl
          exact ⟨P67.ex2 X8, X8 _ _ (P7.2 _ _ rp hr6), X8 _ _ (P7.2 _ _ op ho6), true, l, upd_same, (fun z => by rw [z, P7.2 _ _ rp hr6] at nl; cases nl), (fun z => by rw [z, P7.2 _ _ op ho6] at nl; cases nl), nq l _ P67 nl, P67.fresh nl, rfl⟩
        · exact ⟨P6'.trans P7, P7.2 _ _ rp hr6, P7.2 _ _ op ho6, false, h, P7.2 _ _ hp hh6, hr, ho, hp, P5'.fresh nh, rfl⟩
      clear hr4 hr5 hr6 ho5 ho6 hh6 P4 P5 P5' P6 P6' nh no nr hp hr ho nh0
      rintro σ G ⟨PG, hr, ho, t, h', hh, nhr, nho, nhp, fh, rfl⟩
      have XG : Ex H0 G := PotOn.ex X2 hp0 PG
      have bm : ∀ n ∈ ms, n < 10 ^ 80 := fun n hn => Nat.lt_trans (bw n (pm.subset hn)) (by decide)
      have lm : ms.length ≤ 40 := by rw [pm.length_eq]; exact lw
      have lo : os.length ≤ 40 := by rw [po.length_eq]; exact lw
      have rD : rw_.Nodup := pw.imp fun {a b} (z : a < b) => Nat.ne_of_lt z
      have mD : ms.Nodup := pm.nodup_iff.mpr rD
      have oD : os.Nodup := po.nodup_iff.mpr rD
      have sm : srtN ms = rw_ := sorted_ext (srtN_lt mD) pw fun x => (srtN_mem x ms).trans pm.mem_iff
      have so : srtN os = rw_ := sorted_ext (srtN_lt oD) pw fun x => (srtN_mem x os).trans po.mem_iff
      refine ⟨_, rfl, rr_natC bm (by omega) hh ?_⟩
      obtain ⟨S, hS_⟩ : ∃ S, S = (seqD t (natD ms)).shown := ⟨_, rfl⟩
      rw [← hS_]
      refine ⟨_, rfl, _, some ms, rfl, momG_cell hh (by omega) mD, fun ns e => by cases e; omega, fun ns e y ts pap G1 X1' ny hSp hHe hG hC => ?_, fun e => nomatch e⟩
      cases e
      rw [sm] at hG
      rw [sm, pm.length_eq] at hC
      obtain ⟨hok, hn8, hm, hpc, hop⟩ := short_facts hG hC lw
      refine ⟨_, rfl, rr_natC bm (by omega) (X1' _ _ hh) ?_⟩
      rw [← hS_]
      refine ⟨_, rfl, rfl, _, rfl, ?_⟩
      try dsimp only [tNil]
      rw [decide_eq_true rfl]
      refine iteF ?_
      have hm' := hm
      have bd : ∀ n ∈ momsL ts, n < 10 ^ 60 := fun n hn => bw n (by rw [← hm]; exact hn)
      have X3 := XG.trans X1'
      have hr1 := X1' _ _ hr
      have ho1 := X1' _ _ ho
      have hh1 := X1' _ _ hh
      refine ⟨_, rfl, _, rfl, y, r, ts, rfl, hSp, by rw [hm]; exact hr1, hok, hn8, by rw [hm]; exact pw, by rw [hm]; exact lw, bd, by rw [hpc, hm]; exact hop, fun G2 X2' => ⟨true, rfl, iteF ?_⟩⟩
      have hS2 := hSp.mono X2'
      have hH2 := hHe.ex hSp fun o e => X2' _ _ e
      obtain ⟨dx2, kp2, hd2, as2, hx2, _⟩ := id hS2
      refine ⟨_, rfl, y, dx2, _, rfl, hx2, rfl, y, ts, rfl, hS2, hn8, hok, by rw [hm]; omega, fun G3 X3' => ?_⟩
      have hS3 := hS2.mono X3'
      have hH3 := hH2.ex hS2 fun o e => X3' _ _ e
      have X23 := X2'.trans X3'
      have hr3 := X23 _ _ hr1
      have ho3 := X23 _ _ ho1
      have hh3 := X23 _ _ hh1
      have X03 := X3.trans X23
      have nG : ∀ b, G b = none → b ≠ h' := fun b nb z => by rw [z, hh] at nb; cases nb
      clear hS2 hH2 hSp hHe hr1 ho1 hh1 X2' X3' X23 X3 X1' hx2
      refine ⟨fun σ G' => Ex H0 G' ∧ G' r = some (.lst (natV rw_)) ∧ G' o = some (.lst (natV os)) ∧ SprAt K G' y ts ∧ σ = [some (.ref a), some (.int (0 + (i : Nat))), some (.ref p), some (.ref r), some (.ref o), some (.ref h'), some (.str S), some (.ref y), some (.int (pcsL ts : Nat)), v 9], ?_, ?_⟩
      · cases t with
        | false =>
          have hh3 : G3 h' = some (.lst (natV ms)) := hh3
          refine ⟨_, rfl, _, _, _, _, true, rfl, .ty _, .base (.lst hh3), (kit_ty (r := true) (by decide +kernel)), _, rfl, iteT ?_⟩
          refine ⟨_, rfl, .inl ⟨rfl, _, sq_lst hh3⟩, h', _, _, rfl, rfl, hh3, sz_lt (by rw [natV_len]; omega), ?_⟩
          obtain ⟨hS4, hH4⟩ := hS3.put (ys := natV ms ++ [V.int 0]) hH3 nG hh3
          have h4 : upd G3 h' (.lst (natV ms ++ [V.int 0])) h' = some (.lst (natV ms ++ [V.int 0])) := upd_same
          have hr4 : upd G3 h' (.lst (natV ms ++ [V.int 0])) r = some (.lst (natV rw_)) := by rw [upd_ne (Ne.symm nhr)]; exact hr3
          have ho4 : upd G3 h' (.lst (natV ms ++ [V.int 0])) o = some (.lst (natV os)) := by rw [upd_ne (Ne.symm nho)]; exact ho3
          have X04 : Ex H0 (upd G3 h' (.lst (natV ms ++ [V.int 0]))) := ex_mut X03 (ex_fresh X2 fh)
          generalize upd G3 h' (.lst (natV ms ++ [V.int 0])) = G4 at hS4 hH4 h4 hr4 ho4 X04 ⊢
          refine ⟨_, rfl, (.inl ⟨rfl, ⟨_, (sq_lst h4)⟩⟩), _, _, rfl, rfl, h4, ?_⟩
          exact ⟨ex_mut X04 (ex_fresh X2 fh), by rw [upd_ne (Ne.symm nhr)]; exact hr4, by rw [upd_ne (Ne.symm nho)]; exact ho4, (hS4.put (ys := (natV ms ++ [V.int 0]).reverse) hH4 nG h4).1, rfl⟩
        | true =>
          have hh3 : G3 h' = some (.tup (natV ms)) := hh3
          exact ⟨_, rfl, _, _, _, _, false, rfl, .ty _, .base (.tup hh3), (kit_ty (r := false) (by decide +kernel)), _, rfl, iteF ⟨X03, hr3, ho3, hS3, rfl⟩⟩
      · rintro σ G4 ⟨X04, hr4, ho4, hS4, rfl⟩
        refine ⟨_, rfl, y, ts, rfl, hS4, hok, hn8, by rw [hm]; omega, fun G5 X5 => ?_⟩
        have hS5 := hS4.mono X5
        have hr5 := X5 _ _ hr4
        have ho5 := X5 _ _ ho4
        have X05 := X04.trans X5
        refine ⟨_, rfl, rfl, rfl, _, some os, rfl, momG_nat (.inl ho5) (by omega) oD, fun ns e => by cases e; omega, fun ns e z us qap G6 X6 nz hSz _ hGz hCz => ?_, fun e => nomatch e⟩
        cases e
        rw [so] at hGz
        rw [so, po.length_eq] at hCz
        obtain ⟨hokz, hnz, hmz, hpcz, _⟩ := short_facts hGz hCz lw
        have bdz : ∀ n ∈ momsL us, n < 10 ^ 60 := fun n hn => bw n (by rw [← hmz]; exact hn)
        refine ⟨_, rfl, _, rfl, z, r, us, rfl, hSz, by rw [hmz]; exact X6 _ _ hr5, hokz, hnz, by rw [hmz]; exact pw, by rw [hmz]; exact lw, bdz, by rw [hpcz, hmz]; exact hop, fun G7 X7 => ⟨true, rfl, iteF ?_⟩⟩
        have hSz7 := hSz.mono X7
        obtain ⟨dx7, kp7, hd7, as7, hx7, _⟩ := id hSz7
        refine ⟨_, rfl, z, dx7, _, rfl, hx7, rfl, z, us, rfl, hSz7, hnz, hokz, by rw [hmz]; omega, fun G8 X8 => ⟨_, rfl, rfl, _, rfl, ?_⟩⟩
        rw [hpcz, hpc, decide_eq_true rfl]
        refine iteF ?_
        have X58 := (X6.trans X7).trans X8
        refine ⟨_, rfl, _, rfl, y, r, ts, rfl, hS5.mono X58, by rw [hm]; exact X58 _ _ hr5, hok, hn8, by rw [hm]; exact pw, by rw [hm]; exact lw, bd, by rw [hpc, hm]; exact hop, fun G9 X9 => ⟨true, rfl, iteF ?_⟩⟩
        exact ⟨(X05.trans X58).trans X9, fun n => ([some (.ref a), some (.int (0 + (i : Nat))), some (.ref p), some (.ref r), some (.ref o), some (.ref h'), some (.str S), some (.ref y), some (.int (optN rw_ : Nat)), some (.ref z)].getD n none), rfl⟩
    · rintro σ H1 ⟨_, _, rfl⟩
      exact q _
end
end Toy
namespace Toy
open PySem PySem.Spec PyProof.Rows L2 L3
def xf1 : List Fx := [fun K => (He.Fa.glo "is_minute").ok K,
  fun K => (He.Fa.glo "in_rising_order").ok K,
  fun K => (He.Fa.glo "is_over").ok K,
  fun K => (He.Fa.glo "first_parts").ok K,
  fun K => (He.Fa.glo "most_number").ok K,
  fun K => (He.Fa.glo "numbers_of").ok K,
  fun K => (He.Fa.glo "is_whole").ok K,
  fun K => (He.Fa.glo "is_moment").ok K,
  fun K => (He.Fa.glo "want_moment").ok K,
  fun K => (He.Fa.glo "clock_of").ok K,
  fun K => (He.Fa.glo "show_moment").ok K,
  fun K => (He.Fa.glo "is_number").ok K,
  fun K => (He.Fa.glo "all_rising").ok K,
  fun K => (He.Fa.glo "shorts_in").ok K,
  fun K => (He.Fa.glo "row_moments").ok K,
  fun K => (He.Fa.glo "row_many").ok K,
  fun K => (He.Fa.glo "row_pieces").ok K,
  fun K => (He.Fa.glo "row_text").ok K,
  fun K => (He.Fa.glo "first_size").ok K,
  fun K => (He.Fa.glo "over_part").ok K,
  fun K => (He.Fa.glo "short_of").ok K,
  fun K => (He.Fa.glo "shorts_of").ok K,
  fun K => (He.Fa.glo "shortest").ok K,
  fun K => (He.Fa.glo "_law_pot").ok K,
  fun K => (He.Fa.glo "_law_draw").ok K,
  fun K => (He.Fa.glo "_law_gap").ok K,
  fun K => (He.Fa.glo "_law_means").ok K,
  fun K => (He.Fa.glo "_law_moved").ok K,
  fun K => (He.Fa.glo "_law_part").ok K,
  fun K => (He.Fa.glo "_law_parts").ok K,
  fun K => (He.Fa.glo "_law_tree").ok K,
  fun K => (He.Fa.glo "_law_list").ok K,
  fun K => (He.Fa.glo "_law_turned").ok K,
  fun K => (He.Fa.glo "_law_whole").ok K,
  fun K => (He.Fa.glo "_law_over_walked").ok K,
  fun K => (He.Fa.glo "_law_walked").ok K,
  fun K => (He.Fa.glo "_law_equal").ok K,
  fun K => (He.Fa.glo "_law_spoil").ok K,
  fun K => (He.Fa.glo "_law_right").ok K,
  fun K => (He.Fa.glo "law").ok K,
  fun K => (He.Fa.int "HOUR" (60)).ok K,
  fun K => (He.Fa.int "DAY" (1440)).ok K,
  fun K => (He.Fa.str "COLON" ":").ok K,
  fun K => (He.Fa.str "BLANK" " ").ok K,
  fun K => (He.Fa.int "MOST_MOMENTS" (1440)).ok K,
  fun K => (He.Fa.int "MOST_NESTED" (8)).ok K,
  fun K => (He.Fa.str "NO_PARTS" "-").ok K,
  fun K => (He.Fa.free "all").ok K,
  fun K => (He.Fa.free "any").ok K,
  fun K => (He.Fa.free "bool").ok K,
  fun K => (He.Fa.free "divmod").ok K,
  fun K => (He.Fa.free "int").ok K,
  fun K => (He.Fa.free "isinstance").ok K,
  fun K => (He.Fa.free "len").ok K,
  fun K => (He.Fa.free "list").ok K,
  fun K => (He.Fa.free "max").ok K,
  fun K => (He.Fa.free "min").ok K,
  fun K => (He.Fa.free "range").ok K,
  fun K => (He.Fa.free "repr").ok K,
  fun K => (He.Fa.free "sorted").ok K,
  fun K => (He.Fa.free "str").ok K,
  fun K => (He.Fa.free "sum").ok K,
  fun K => (He.Fa.free "tuple").ok K,
  fun K => (He.Fa.free "zip").ok K,
  fun K => (He.Fa.glo "GoingError").ok K,
  exoB bmV "ValueError.__new__" "GoingError",
  fun K => (He.Fa.glo "NoTime").ok K,
  exoB bmV "ValueError.__new__" "NoTime",
  fun K => (He.Fa.glo "NoPiece").ok K,
  exoB bmV "ValueError.__new__" "NoPiece",
  fun K => (He.Fa.glo "Short").ok K,
  fun K => (He.Fa.glo "At").ok K,
  fun K => (He.Fa.glo "Over").ok K,
  fun K => (He.Fa.glo "Spread").ok K,
  sysB,
  fun K => (He.Fa.cls "Short").ok K,
  insB "Short",
  fun K => (He.Fa.meth "Short" "moments").ok K,
  fun K => (He.Fa.meth "Short" "pieces").ok K,
  fun K => (He.Fa.meth "Short" "begins").ok K,
  fun K => (He.Fa.meth "Short" "ends").ok K,
  fun K => (He.Fa.meth "Short" "means_many").ok K,
  fun K => (He.Fa.meth "Short" "nested").ok K,
  kitF "Short" "Short" true,
  kitF "Short" "Spread" false,
  kitF "Short" "At" false,
  kitF "Short" "Over" false,
  kitFT "Short" "int" false,
  kitFT "Short" "bool" false,
  kitFT "Short" "list" false,
  kitFT "Short" "tuple" false,
  fun K => (He.Fa.cls "At").ok K]
def xf2 : List Fx := [insB "At",
  fun K => (He.Fa.noat "At" "moment").ok K,
  fun K => (He.Fa.meth "At" "__init__").ok K,
  fun K => (He.Fa.meth "At" "moments").ok K,
  fun K => (He.Fa.meth "At" "pieces").ok K,
  fun K => (He.Fa.meth "At" "begins").ok K,
  fun K => (He.Fa.meth "At" "ends").ok K,
  fun K => (He.Fa.meth "At" "means_many").ok K,
  fun K => (He.Fa.meth "At" "nested").ok K,
  fun K => (He.Fa.meth "At" "__str__").ok K,
  fun K => (He.Fa.mkr "At").ok K,
  kitF "At" "Short" true,
  kitF "At" "Spread" false,
  kitF "At" "At" true,
  kitF "At" "Over" false,
  kitFT "At" "int" false,
  kitFT "At" "bool" false,
  kitFT "At" "list" false,
  kitFT "At" "tuple" false,
  fun K => (He.Fa.cls "Over").ok K,
  insB "Over",
  fun K => (He.Fa.noat "Over" "kept").ok K,
  fun K => (He.Fa.noat "Over" "many").ok K,
  fun K => (He.Fa.noat "Over" "step").ok K,
  fun K => (He.Fa.meth "Over" "__init__").ok K,
  fun K => (He.Fa.meth "Over" "parts").ok K,
  fun K => (He.Fa.meth "Over" "moments").ok K,
  fun K => (He.Fa.meth "Over" "pieces").ok K,
  fun K => (He.Fa.meth "Over" "begins").ok K,
  fun K => (He.Fa.meth "Over" "ends").ok K,
  fun K => (He.Fa.meth "Over" "means_many").ok K,
  fun K => (He.Fa.meth "Over" "nested").ok K,
  fun K => (He.Fa.meth "Over" "__str__").ok K,
  fun K => (He.Fa.mkr "Over").ok K,
  kitF "Over" "Short" true,
  kitF "Over" "Spread" false,
  kitF "Over" "At" false,
  kitF "Over" "Over" true,
  kitFT "Over" "int" false,
  kitFT "Over" "bool" false,
  kitFT "Over" "list" false,
  kitFT "Over" "tuple" false,
  fun K => (He.Fa.cls "Spread").ok K,
  insB "Spread",
  fun K => (He.Fa.noat "Spread" "kept").ok K,
  fun K => (He.Fa.noat "Spread" "held").ok K,
  fun K => (He.Fa.meth "Spread" "__init__").ok K,
  fun K => (He.Fa.meth "Spread" "parts").ok K,
  fun K => (He.Fa.meth "Spread" "moments").ok K,
  fun K => (He.Fa.meth "Spread" "pieces").ok K,
  fun K => (He.Fa.meth "Spread" "__eq__").ok K,
  fun K => (He.Fa.meth "Spread" "__len__").ok K,
  fun K => (He.Fa.meth "Spread" "__str__").ok K,
  fun K => (He.Fa.meth "Spread" "__repr__").ok K,
  fun K => (He.Fa.mkr "Spread").ok K,
  noBaseF "Spread",
  kitF "Spread" "Short" false,
  kitF "Spread" "Spread" true,
  kitF "Spread" "At" false,
  kitF "Spread" "Over" false,
  kitFT "Spread" "int" false,
  kitFT "Spread" "bool" false,
  kitFT "Spread" "list" false,
  kitFT "Spread" "tuple" false,
  kitBF "int" "Short" false,
  kitBF "bool" "Short" false,
  kitBF "str" "Short" false,
  kitBF "NoneType" "Short" false,
  kitBF "list" "Short" false,
  kitBF "tuple" "Short" false,
  kitBF "dict" "Short" false,
  kitBF "int" "Spread" false,
  kitBF "bool" "Spread" false,
  kitBF "str" "Spread" false,
  kitBF "NoneType" "Spread" false,
  kitBF "list" "Spread" false,
  kitBF "tuple" "Spread" false,
  kitBF "dict" "Spread" false,
  kitBF "int" "At" false,
  kitBF "bool" "At" false,
  kitBF "str" "At" false,
  kitBF "NoneType" "At" false,
  kitBF "list" "At" false,
  kitBF "tuple" "At" false,
  kitBF "dict" "At" false,
  kitBF "int" "Over" false,
  kitBF "bool" "Over" false,
  kitBF "str" "Over" false,
  kitBF "NoneType" "Over" false,
  kitBF "list" "Over" false,
  kitBF "tuple" "Over" false,
  kitBF "dict" "Over" false]
def xf : List Fx := xf1 ++ xf2
def d_is_minute : He.DefD := ⟨("is_minute", none), "is_minute", "is_minute", defArgs s_is_minute, defBody s_is_minute, defScope s_is_minute, [], []⟩
def d_in_rising_order : He.DefD := ⟨("in_rising_order", none), "in_rising_order", "in_rising_order", defArgs s_in_rising_order, defBody s_in_rising_order, defScope s_in_rising_order, [], []⟩
def d_is_over : He.DefD := ⟨("is_over", none), "is_over", "is_over", defArgs s_is_over, defBody s_is_over, defScope s_is_over, [], []⟩
def d_first_parts : He.DefD := ⟨("first_parts", none), "first_parts", "first_parts", defArgs s_first_parts, defBody s_first_parts, defScope s_first_parts, [], []⟩
def d_most_number : He.DefD := ⟨("most_number", none), "most_number", "most_number", defArgs s_most_number, defBody s_most_number, defScope s_most_number, [], []⟩
def d_numbers_of : He.DefD := ⟨("numbers_of", none), "numbers_of", "numbers_of", defArgs s_numbers_of, defBody s_numbers_of, defScope s_numbers_of, [], []⟩
def d_is_whole : He.DefD := ⟨("is_whole", none), "is_whole", "is_whole", defArgs s_is_whole, defBody s_is_whole, defScope s_is_whole, [], []⟩
def d_is_moment : He.DefD := ⟨("is_moment", none), "is_moment", "is_moment", defArgs s_is_moment, defBody s_is_moment, defScope s_is_moment, [], []⟩
def d_want_moment : He.DefD := ⟨("want_moment", none), "want_moment", "want_moment", defArgs s_want_moment, defBody s_want_moment, defScope s_want_moment, [], []⟩
def d_clock_of : He.DefD := ⟨("clock_of", none), "clock_of", "clock_of", defArgs s_clock_of, defBody s_clock_of, defScope s_clock_of, [], []⟩
def d_show_moment : He.DefD := ⟨("show_moment", none), "show_moment", "show_moment", defArgs s_show_moment, defBody s_show_moment, defScope s_show_moment, [], []⟩
def d_is_number : He.DefD := ⟨("is_number", none), "is_number", "is_number", defArgs s_is_number, defBody s_is_number, defScope s_is_number, [], []⟩
def d_Short_moments : He.DefD := ⟨("Short", some "moments"), "moments", "Short.moments", defArgs s_Short_moments, defBody s_Short_moments, defScope s_Short_moments, [], []⟩
def d_Short_pieces : He.DefD := ⟨("Short", some "pieces"), "pieces", "Short.pieces", defArgs s_Short_pieces, defBody s_Short_pieces, defScope s_Short_pieces, [], []⟩
def d_Short_begins : He.DefD := ⟨("Short", some "begins"), "begins", "Short.begins", defArgs s_Short_begins, defBody s_Short_begins, defScope s_Short_begins, [], []⟩
def d_Short_ends : He.DefD := ⟨("Short", some "ends"), "ends", "Short.ends", defArgs s_Short_ends, defBody s_Short_ends, defScope s_Short_ends, [], []⟩
def d_Short_means_many : He.DefD := ⟨("Short", some "means_many"), "means_many", "Short.means_many", defArgs s_Short_means_many, defBody s_Short_means_many, defScope s_Short_means_many, [], []⟩
def d_Short_nested : He.DefD := ⟨("Short", some "nested"), "nested", "Short.nested", defArgs s_Short_nested, defBody s_Short_nested, defScope s_Short_nested, [], []⟩
def d_all_rising : He.DefD := ⟨("all_rising", none), "all_rising", "all_rising", defArgs s_all_rising, defBody s_all_rising, defScope s_all_rising, [], []⟩
def d_shorts_in : He.DefD := ⟨("shorts_in", none), "shorts_in", "shorts_in", defArgs s_shorts_in, defBody s_shorts_in, defScope s_shorts_in, [], []⟩
def d_row_moments : He.DefD := ⟨("row_moments", none), "row_moments", "row_moments", defArgs s_row_moments, defBody s_row_moments, defScope s_row_moments, [], []⟩
def d_row_many : He.DefD := ⟨("row_many", none), "row_many", "row_many", defArgs s_row_many, defBody s_row_many, defScope s_row_many, [], []⟩
def d_row_pieces : He.DefD := ⟨("row_pieces", none), "row_pieces", "row_pieces", defArgs s_row_pieces, defBody s_row_pieces, defScope s_row_pieces, [], []⟩
def d_row_text : He.DefD := ⟨("row_text", none), "row_text", "row_text", defArgs s_row_text, defBody s_row_text, defScope s_row_text, [], []⟩
def d_At_init : He.DefD := ⟨("At", some "__init__"), "__init__", "At.__init__", defArgs s_At_init, defBody s_At_init, defScope s_At_init, [], []⟩
def d_At_moments : He.DefD := ⟨("At", some "moments"), "moments", "At.moments", defArgs s_At_moments, defBody s_At_moments, defScope s_At_moments, [], []⟩
def d_At_pieces : He.DefD := ⟨("At", some "pieces"), "pieces", "At.pieces", defArgs s_At_pieces, defBody s_At_pieces, defScope s_At_pieces, [], []⟩
def d_At_begins : He.DefD := ⟨("At", some "begins"), "begins", "At.begins", defArgs s_At_begins, defBody s_At_begins, defScope s_At_begins, [], []⟩
def d_At_ends : He.DefD := ⟨("At", some "ends"), "ends", "At.ends", defArgs s_At_ends, defBody s_At_ends, defScope s_At_ends, [], []⟩
def d_At_means_many : He.DefD := ⟨("At", some "means_many"), "means_many", "At.means_many", defArgs s_At_means_many, defBody s_At_means_many, defScope s_At_means_many, [], []⟩
def d_At_nested : He.DefD := ⟨("At", some "nested"), "nested", "At.nested", defArgs s_At_nested, defBody s_At_nested, defScope s_At_nested, [], []⟩
def d_At_str : He.DefD := ⟨("At", some "__str__"), "__str__", "At.__str__", defArgs s_At_str, defBody s_At_str, defScope s_At_str, [], []⟩
def d_Over_init : He.DefD := ⟨("Over", some "__init__"), "__init__", "Over.__init__", defArgs s_Over_init, defBody s_Over_init, defScope s_Over_init, [.int (2), .int (60)], []⟩
def d_Over_parts : He.DefD := ⟨("Over", some "parts"), "parts", "Over.parts", defArgs s_Over_parts, defBody s_Over_parts, defScope s_Over_parts, [], []⟩
def d_Over_moments : He.DefD := ⟨("Over", some "moments"), "moments", "Over.moments", defArgs s_Over_moments, defBody s_Over_moments, defScope s_Over_moments, [], []⟩
def d_Over_pieces : He.DefD := ⟨("Over", some "pieces"), "pieces", "Over.pieces", defArgs s_Over_pieces, defBody s_Over_pieces, defScope s_Over_pieces, [], []⟩
def d_Over_begins : He.DefD := ⟨("Over", some "begins"), "begins", "Over.begins", defArgs s_Over_begins, defBody s_Over_begins, defScope s_Over_begins, [], []⟩
def d_Over_ends : He.DefD := ⟨("Over", some "ends"), "ends", "Over.ends", defArgs s_Over_ends, defBody s_Over_ends, defScope s_Over_ends, [], []⟩
def d_Over_means_many : He.DefD := ⟨("Over", some "means_many"), "means_many", "Over.means_many", defArgs s_Over_means_many, defBody s_Over_means_many, defScope s_Over_means_many, [], []⟩
def d_Over_nested : He.DefD := ⟨("Over", some "nested"), "nested", "Over.nested", defArgs s_Over_nested, defBody s_Over_nested, defScope s_Over_nested, [], []⟩
def d_Over_str : He.DefD := ⟨("Over", some "__str__"), "__str__", "Over.__str__", defArgs s_Over_str, defBody s_Over_str, defScope s_Over_str, [], []⟩
def d_Spread_init : He.DefD := ⟨("Spread", some "__init__"), "__init__", "Spread.__init__", defArgs s_Spread_init, defBody s_Spread_init, defScope s_Spread_init, [], []⟩
def d_Spread_parts : He.DefD := ⟨("Spread", some "parts"), "parts", "Spread.parts", defArgs s_Spread_parts, defBody s_Spread_parts, defScope s_Spread_parts, [], []⟩
def d_Spread_moments : He.DefD := ⟨("Spread", some "moments"), "moments", "Spread.moments", defArgs s_Spread_moments, defBody s_Spread_moments, defScope s_Spread_moments, [], []⟩
def d_Spread_pieces : He.DefD := ⟨("Spread", some "pieces"), "pieces", "Spread.pieces", defArgs s_Spread_pieces, defBody s_Spread_pieces, defScope s_Spread_pieces, [], []⟩
def d_Spread_eq : He.DefD := ⟨("Spread", some "__eq__"), "__eq__", "Spread.__eq__", defArgs s_Spread_eq, defBody s_Spread_eq, defScope s_Spread_eq, [], []⟩
def d_Spread_len : He.DefD := ⟨("Spread", some "__len__"), "__len__", "Spread.__len__", defArgs s_Spread_len, defBody s_Spread_len, defScope s_Spread_len, [], []⟩
def d_Spread_str : He.DefD := ⟨("Spread", some "__str__"), "__str__", "Spread.__str__", defArgs s_Spread_str, defBody s_Spread_str, defScope s_Spread_str, [], []⟩
def d_Spread_repr : He.DefD := ⟨("Spread", some "__repr__"), "__repr__", "Spread.__repr__", defArgs s_Spread_repr, defBody s_Spread_repr, defScope s_Spread_repr, [], []⟩
def d_first_size : He.DefD := ⟨("first_size", none), "first_size", "first_size", defArgs s_first_size, defBody s_first_size, defScope s_first_size, [], []⟩
def d_over_part : He.DefD := ⟨("over_part", none), "over_part", "over_part", defArgs s_over_part, defBody s_over_part, defScope s_over_part, [], []⟩
def d_short_of : He.DefD := ⟨("short_of", none), "short_of", "short_of", defArgs s_short_of, defBody s_short_of, defScope s_short_of, [], []⟩
def d_shorts_of : He.DefD := ⟨("shorts_of", none), "shorts_of", "shorts_of", defArgs s_shorts_of, defBody s_shorts_of, defScope s_shorts_of, [], []⟩
def d_shortest : He.DefD := ⟨("shortest", none), "shortest", "shortest", defArgs s_shortest, defBody s_shortest, defScope s_shortest, [], []⟩
def d__law_pot : He.DefD := ⟨("_law_pot", none), "_law_pot", "_law_pot", defArgs s__law_pot, defBody s__law_pot, defScope s__law_pot, [], []⟩
def d__law_draw : He.DefD := ⟨("_law_draw", none), "_law_draw", "_law_draw", defArgs s__law_draw, defBody s__law_draw, defScope s__law_draw, [], []⟩
def d__law_gap : He.DefD := ⟨("_law_gap", none), "_law_gap", "_law_gap", defArgs s__law_gap, defBody s__law_gap, defScope s__law_gap, [], []⟩
def d__law_means : He.DefD := ⟨("_law_means", none), "_law_means", "_law_means", defArgs s__law_means, defBody s__law_means, defScope s__law_means, [], []⟩
def d__law_moved : He.DefD := ⟨("_law_moved", none), "_law_moved", "_law_moved", defArgs s__law_moved, defBody s__law_moved, defScope s__law_moved, [], []⟩
def d__law_part : He.DefD := ⟨("_law_part", none), "_law_part", "_law_part", defArgs s__law_part, defBody s__law_part, defScope s__law_part, [], []⟩
def d__law_parts : He.DefD := ⟨("_law_parts", none), "_law_parts", "_law_parts", defArgs s__law_parts, defBody s__law_parts, defScope s__law_parts, [], []⟩
def d__law_tree : He.DefD := ⟨("_law_tree", none), "_law_tree", "_law_tree", defArgs s__law_tree, defBody s__law_tree, defScope s__law_tree, [], []⟩
def d__law_list : He.DefD := ⟨("_law_list", none), "_law_list", "_law_list", defArgs s__law_list, defBody s__law_list, defScope s__law_list, [], []⟩
def d__law_turned : He.DefD := ⟨("_law_turned", none), "_law_turned", "_law_turned", defArgs s__law_turned, defBody s__law_turned, defScope s__law_turned, [], []⟩
def d__law_whole : He.DefD := ⟨("_law_whole", none), "_law_whole", "_law_whole", defArgs s__law_whole, defBody s__law_whole, defScope s__law_whole, [], []⟩
def d__law_over_walked : He.DefD := ⟨("_law_over_walked", none), "_law_over_walked", "_law_over_walked", defArgs s__law_over_walked, defBody s__law_over_walked, defScope s__law_over_walked, [], []⟩
def d__law_walked : He.DefD := ⟨("_law_walked", none), "_law_walked", "_law_walked", defArgs s__law_walked, defBody s__law_walked, defScope s__law_walked, [], []⟩
def d__law_equal : He.DefD := ⟨("_law_equal", none), "_law_equal", "_law_equal", defArgs s__law_equal, defBody s__law_equal, defScope s__law_equal, [], []⟩
def d__law_spoil : He.DefD := ⟨("_law_spoil", none), "_law_spoil", "_law_spoil", defArgs s__law_spoil, defBody s__law_spoil, defScope s__law_spoil, [], []⟩
def d__law_right : He.DefD := ⟨("_law_right", none), "_law_right", "_law_right", defArgs s__law_right, defBody s__law_right, defScope s__law_right, [], []⟩
def d_law : He.DefD := ⟨("law", none), "law", "law", defArgs s_law, defBody s_law, defScope s_law, [], []⟩
def fn : List He.DefD := [d_is_minute, d_in_rising_order, d_is_over, d_first_parts, d_most_number, d_numbers_of, d_is_whole, d_is_moment, d_want_moment, d_clock_of, d_show_moment, d_is_number, d_Short_moments, d_Short_pieces, d_Short_begins, d_Short_ends, d_Short_means_many, d_Short_nested, d_all_rising, d_shorts_in, d_row_moments, d_row_many, d_row_pieces, d_row_text, d_At_init, d_At_moments, d_At_pieces, d_At_begins, d_At_ends, d_At_means_many, d_At_nested, d_At_str, d_Over_init, d_Over_parts, d_Over_moments, d_Over_pieces, d_Over_begins, d_Over_ends, d_Over_means_many, d_Over_nested, d_Over_str, d_Spread_init, d_Spread_parts, d_Spread_moments, d_Spread_pieces, d_Spread_eq, d_Spread_len, d_Spread_str, d_Spread_repr, d_first_size, d_over_part, d_short_of, d_shorts_of, d_shortest, d__law_pot, d__law_draw, d__law_gap, d__law_means, d__law_moved, d__law_part, d__law_parts, d__law_tree, d__law_list, d__law_turned, d__law_whole, d__law_over_walked, d__law_walked, d__law_equal, d__law_spoil, d__law_right, d_law]
abbrev R : PySem.W.OpenRow := PySem.W.OpenLaw.row PySem.Challenge.rw_shortgoings_k31_shortest_is_the_list
def adr0 : List Addr := [3, 351, 177, 419, 279, 350, 176, 418, 278, 24, 23, 227, 296, 367, 139, 146, 153, 160, 167, 174, 234, 241, 248, 255, 262, 269, 276, 303, 308, 315]
def adr1 : List Addr := [322, 329, 336, 341, 348, 374, 381, 388, 395, 402, 409, 416, 1, 37, 49, 58, 63, 68, 73, 78, 83, 90, 97, 104, 111, 118, 125, 186, 191, 198]
def adr2 : List Addr := [203, 208, 213, 430, 435, 442, 449, 456, 463, 470, 477, 482, 487, 494, 501, 506, 513, 520, 527, 532, 539, 544, 551, 556, 563, 36, 48, 57, 62, 67]
def adr3 : List Addr := [72, 77, 82, 89, 96, 103, 110, 117, 124, 185, 190, 197, 202, 207, 212, 429, 434, 441, 448, 455, 462, 469, 476, 481, 486, 493, 500, 505, 512, 519]
def adr4 : List Addr := [526, 531, 538, 543, 550, 555, 562, 138, 145, 152, 159, 166, 173, 226, 233, 240, 247, 254, 261, 268, 275, 295, 289, 302, 307, 314, 321, 328, 335, 340]
def adr5 : List Addr := [347, 366, 373, 380, 387, 394, 401, 408, 415]
def adr : List Addr := adr0 ++ adr1 ++ adr2 ++ adr3 ++ adr4 ++ adr5
abbrev hk : PySem.W.Hook := hookA adr xf fn
def ob (s : PySem.W.SharedT) : He.AlD := obsA adr xf fn (HandSHeadRun.getT s)
theorem ob_eq (s : PySem.W.SharedT) : ob s = hk.obs s.abs := obsA_eq (HandSHeadRun.getT_eq s)
def ns0 : List PySem.Str := ["GoingError", "NoTime", "NoPiece", "is_minute", "in_rising_order", "is_over", "first_parts", "most_number", "numbers_of", "HOUR", "DAY", "COLON", "BLANK", "is_whole", "is_moment", "want_moment", "clock_of", "show_moment", "MOST_MOMENTS", "MOST_NESTED", "NO_PARTS", "is_number", "Short", "all_rising", "shorts_in", "row_moments", "row_many", "row_pieces", "row_text", "At"]
def ns1 : List PySem.Str := ["Over", "Spread", "first_size", "over_part", "short_of", "shorts_of", "shortest", "_law_pot", "_law_draw", "_law_gap", "_law_means", "_law_moved", "_law_part", "_law_parts", "_law_tree", "_law_list", "_law_turned", "_law_whole", "_law_over_walked", "_law_walked", "_law_equal", "_law_spoil", "_law_right"]
def nss : List PySem.Str := ns0 ++ ns1
theorem run_a (w : World) : HandSHeadRun.RunA R (PySem.W.view R.prog [60]) 8000 nss w := by
  intro os
  kernel_rfl
theorem run_b (w : World) : HandSHeadRun.RunB R 8000 (fun s => xf1.all fun p => p (He.frG (HandSHeadRun.getT s) adr)) w := by
  intro os
  kernel_rfl
theorem run_c (w : World) : HandSHeadRun.RunB R 8000 (fun s => xf2.all fun p => p (He.frG (HandSHeadRun.getT s) adr)) w := by
  intro os
  kernel_rfl
theorem run_d (w : World) : ∀ os : OsState, (HandSHeadRun.endR R 8000 w os).map (fun s => (fn.all fun d => d.ok (He.frG (HandSHeadRun.getT s) adr), fn.map fun d => He.fnW (He.frG (HandSHeadRun.getT s) adr) d.at_)) = some (true, fn.map He.DefD.val) := by
  intro os
  kernel_rfl
theorem run (w : World) : HandSHeadRun.RunEq R (PySem.W.view R.prog [60]) hk ob 8000 nss w := HandSHeadRun.runEq_of (run_a w) (runC_of rfl (run_b w) (run_c w) (run_d w))
theorem env_of {K : PySem.W.Frag} {h : Heap} {mg : Str → Option Value} (X : K.In h) (G : h.Ns mainGlobals mg) (c : SaysX xf fn K) : Env K mg :=
  ⟨He.glo_ok X G (c.fact 0 (f := fun K => (He.Fa.glo "is_minute").ok K) rfl),
  He.glo_ok X G (c.fact 1 (f := fun K => (He.Fa.glo "in_rising_order").ok K) rfl),
  He.glo_ok X G (c.fact 2 (f := fun K => (He.Fa.glo "is_over").ok K) rfl),
  He.glo_ok X G (c.fact 3 (f := fun K => (He.Fa.glo "first_parts").ok K) rfl),
  He.glo_ok X G (c.fact 4 (f := fun K => (He.Fa.glo "most_number").ok K) rfl),
  He.glo_ok X G (c.fact 5 (f := fun K => (He.Fa.glo "numbers_of").ok K) rfl),
  He.glo_ok X G (c.fact 6 (f := fun K => (He.Fa.glo "is_whole").ok K) rfl),
  He.glo_ok X G (c.fact 7 (f := fun K => (He.Fa.glo "is_moment").ok K) rfl),
  He.glo_ok X G (c.fact 8 (f := fun K => (He.Fa.glo "want_moment").ok K) rfl),
  He.glo_ok X G (c.fact 9 (f := fun K => (He.Fa.glo "clock_of").ok K) rfl),
  He.glo_ok X G (c.fact 10 (f := fun K => (He.Fa.glo "show_moment").ok K) rfl),
  He.glo_ok X G (c.fact 11 (f := fun K => (He.Fa.glo "is_number").ok K) rfl),
  He.glo_ok X G (c.fact 12 (f := fun K => (He.Fa.glo "all_rising").ok K) rfl),
  He.glo_ok X G (c.fact 13 (f := fun K => (He.Fa.glo "shorts_in").ok K) rfl),
  He.glo_ok X G (c.fact 14 (f := fun K => (He.Fa.glo "row_moments").ok K) rfl),
  He.glo_ok X G (c.fact 15 (f := fun K => (He.Fa.glo "row_many").ok K) rfl),
  He.glo_ok X G (c.fact 16 (f := fun K => (He.Fa.glo "row_pieces").ok K) rfl),
  He.glo_ok X G (c.fact 17 (f := fun K => (He.Fa.glo "row_text").ok K) rfl),
  He.glo_ok X G (c.fact 18 (f := fun K => (He.Fa.glo "first_size").ok K) rfl),
  He.glo_ok X G (c.fact 19 (f := fun K => (He.Fa.glo "over_part").ok K) rfl),
  He.glo_ok X G (c.fact 20 (f := fun K => (He.Fa.glo "short_of").ok K) rfl),
  He.glo_ok X G (c.fact 21 (f := fun K => (He.Fa.glo "shorts_of").ok K) rfl),
  He.glo_ok X G (c.fact 22 (f := fun K => (He.Fa.glo "shortest").ok K) rfl),
  He.glo_ok X G (c.fact 23 (f := fun K => (He.Fa.glo "_law_pot").ok K) rfl),
  He.glo_ok X G (c.fact 24 (f := fun K => (He.Fa.glo "_law_draw").ok K) rfl),
  He.glo_ok X G (c.fact 25 (f := fun K => (He.Fa.glo "_law_gap").ok K) rfl),
  He.glo_ok X G (c.fact 26 (f := fun K => (He.Fa.glo "_law_means").ok K) rfl),
  He.glo_ok X G (c.fact 27 (f := fun K => (He.Fa.glo "_law_moved").ok K) rfl),
  He.glo_ok X G (c.fact 28 (f := fun K => (He.Fa.glo "_law_part").ok K) rfl),
  He.glo_ok X G (c.fact 29 (f := fun K => (He.Fa.glo "_law_parts").ok K) rfl),
  He.glo_ok X G (c.fact 30 (f := fun K => (He.Fa.glo "_law_tree").ok K) rfl),
  He.glo_ok X G (c.fact 31 (f := fun K => (He.Fa.glo "_law_list").ok K) rfl),
  He.glo_ok X G (c.fact 32 (f := fun K => (He.Fa.glo "_law_turned").ok K) rfl),
  He.glo_ok X G (c.fact 33 (f := fun K => (He.Fa.glo "_law_whole").ok K) rfl),
  He.glo_ok X G (c.fact 34 (f := fun K => (He.Fa.glo "_law_over_walked").ok K) rfl),
  He.glo_ok X G (c.fact 35 (f := fun K => (He.Fa.glo "_law_walked").ok K) rfl),
  He.glo_ok X G (c.fact 36 (f := fun K => (He.Fa.glo "_law_equal").ok K) rfl),
  He.glo_ok X G (c.fact 37 (f := fun K => (He.Fa.glo "_law_spoil").ok K) rfl),
  He.glo_ok X G (c.fact 38 (f := fun K => (He.Fa.glo "_law_right").ok K) rfl),
  He.glo_ok X G (c.fact 39 (f := fun K => (He.Fa.glo "law").ok K) rfl),
  gint_of X G (c.fact 40 (f := fun K => (He.Fa.int "HOUR" (60)).ok K) rfl),
  gint_of X G (c.fact 41 (f := fun K => (He.Fa.int "DAY" (1440)).ok K) rfl),
  gstr_of X G (c.fact 42 (f := fun K => (He.Fa.str "COLON" ":").ok K) rfl),
  gstr_of X G (c.fact 43 (f := fun K => (He.Fa.str "BLANK" " ").ok K) rfl),
  gint_of X G (c.fact 44 (f := fun K => (He.Fa.int "MOST_MOMENTS" (1440)).ok K) rfl),
  gint_of X G (c.fact 45 (f := fun K => (He.Fa.int "MOST_NESTED" (8)).ok K) rfl),
  gstr_of X G (c.fact 46 (f := fun K => (He.Fa.str "NO_PARTS" "-").ok K) rfl),
  He.free_ok X G (c.fact 47 (f := fun K => (He.Fa.free "all").ok K) rfl),
  He.free_ok X G (c.fact 48 (f := fun K => (He.Fa.free "any").ok K) rfl),
  He.free_ok X G (c.fact 49 (f := fun K => (He.Fa.free "bool").ok K) rfl),
  He.free_ok X G (c.fact 50 (f := fun K => (He.Fa.free "divmod").ok K) rfl),
  He.free_ok X G (c.fact 51 (f := fun K => (He.Fa.free "int").ok K) rfl),
  He.free_ok X G (c.fact 52 (f := fun K => (He.Fa.free "isinstance").ok K) rfl),
  He.free_ok X G (c.fact 53 (f := fun K => (He.Fa.free "len").ok K) rfl),
  He.free_ok X G (c.fact 54 (f := fun K => (He.Fa.free "list").ok K) rfl),
  He.free_ok X G (c.fact 55 (f := fun K => (He.Fa.free "max").ok K) rfl),
  He.free_ok X G (c.fact 56 (f := fun K => (He.Fa.free "min").ok K) rfl),
  He.free_ok X G (c.fact 57 (f := fun K => (He.Fa.free "range").ok K) rfl),
  He.free_ok X G (c.fact 58 (f := fun K => (He.Fa.free "repr").ok K) rfl),
  He.free_ok X G (c.fact 59 (f := fun K => (He.Fa.free "sorted").ok K) rfl),
  He.free_ok X G (c.fact 60 (f := fun K => (He.Fa.free "str").ok K) rfl),
  He.free_ok X G (c.fact 61 (f := fun K => (He.Fa.free "sum").ok K) rfl),
  He.free_ok X G (c.fact 62 (f := fun K => (He.Fa.free "tuple").ok K) rfl),
  He.free_ok X G (c.fact 63 (f := fun K => (He.Fa.free "zip").ok K) rfl),
  He.glo_ok X G (c.fact 64 (f := fun K => (He.Fa.glo "GoingError").ok K) rfl),
  exo_of (c.fact 65 (f := exoB bmV "ValueError.__new__" "GoingError") rfl),
  He.glo_ok X G (c.fact 66 (f := fun K => (He.Fa.glo "NoTime").ok K) rfl),
  exo_of (c.fact 67 (f := exoB bmV "ValueError.__new__" "NoTime") rfl),
  He.glo_ok X G (c.fact 68 (f := fun K => (He.Fa.glo "NoPiece").ok K) rfl),
  exo_of (c.fact 69 (f := exoB bmV "ValueError.__new__" "NoPiece") rfl),
  He.glo_ok X G (c.fact 70 (f := fun K => (He.Fa.glo "Short").ok K) rfl),
  He.glo_ok X G (c.fact 71 (f := fun K => (He.Fa.glo "At").ok K) rfl),
  He.glo_ok X G (c.fact 72 (f := fun K => (He.Fa.glo "Over").ok K) rfl),
  He.glo_ok X G (c.fact 73 (f := fun K => (He.Fa.glo "Spread").ok K) rfl),
  sys_of (c.fact 74 (f := sysB) rfl),
  He.cls_ok (c.fact 75 (f := fun K => (He.Fa.cls "Short").ok K) rfl),
  insC_of (c.fact 76 (f := insB "Short") rfl),
  He.meth_ok (c.fact 77 (f := fun K => (He.Fa.meth "Short" "moments").ok K) rfl),
  He.meth_ok (c.fact 78 (f := fun K => (He.Fa.meth "Short" "pieces").ok K) rfl),
  He.meth_ok (c.fact 79 (f := fun K => (He.Fa.meth "Short" "begins").ok K) rfl),
  He.meth_ok (c.fact 80 (f := fun K => (He.Fa.meth "Short" "ends").ok K) rfl),
  He.meth_ok (c.fact 81 (f := fun K => (He.Fa.meth "Short" "means_many").ok K) rfl),
  He.meth_ok (c.fact 82 (f := fun K => (He.Fa.meth "Short" "nested").ok K) rfl),
  of_decide_eq_true (c.fact 83 (f := kitF "Short" "Short" true) rfl),
  of_decide_eq_true (c.fact 84 (f := kitF "Short" "Spread" false) rfl),
  of_decide_eq_true (c.fact 85 (f := kitF "Short" "At" false) rfl),
  of_decide_eq_true (c.fact 86 (f := kitF "Short" "Over" false) rfl),
  of_decide_eq_true (c.fact 87 (f := kitFT "Short" "int" false) rfl),
  of_decide_eq_true (c.fact 88 (f := kitFT "Short" "bool" false) rfl),
  of_decide_eq_true (c.fact 89 (f := kitFT "Short" "list" false) rfl),
  of_decide_eq_true (c.fact 90 (f := kitFT "Short" "tuple" false) rfl),
  He.cls_ok (c.fact 91 (f := fun K => (He.Fa.cls "At").ok K) rfl),
  insC_of (c.fact 92 (f := insB "At") rfl),
  He.noat_ok (c.fact 93 (f := fun K => (He.Fa.noat "At" "moment").ok K) rfl),
  He.meth_ok (c.fact 94 (f := fun K => (He.Fa.meth "At" "__init__").ok K) rfl),
  He.meth_ok (c.fact 95 (f := fun K => (He.Fa.meth "At" "moments").ok K) rfl),
  He.meth_ok (c.fact 96 (f := fun K => (He.Fa.meth "At" "pieces").ok K) rfl),
  He.meth_ok (c.fact 97 (f := fun K => (He.Fa.meth "At" "begins").ok K) rfl),
  He.meth_ok (c.fact 98 (f := fun K => (He.Fa.meth "At" "ends").ok K) rfl),
  He.meth_ok (c.fact 99 (f := fun K => (He.Fa.meth "At" "means_many").ok K) rfl),
  He.meth_ok (c.fact 100 (f := fun K => (He.Fa.meth "At" "nested").ok K) rfl),
  He.meth_ok (c.fact 101 (f := fun K => (He.Fa.meth "At" "__str__").ok K) rfl),
  He.mkr_ok (c.fact 102 (f := fun K => (He.Fa.mkr "At").ok K) rfl),
  of_decide_eq_true (c.fact 103 (f := kitF "At" "Short" true) rfl),
  of_decide_eq_true (c.fact 104 (f := kitF "At" "Spread" false) rfl),
  of_decide_eq_true (c.fact 105 (f := kitF "At" "At" true) rfl),
  of_decide_eq_true (c.fact 106 (f := kitF "At" "Over" false) rfl),
  of_decide_eq_true (c.fact 107 (f := kitFT "At" "int" false) rfl),
  of_decide_eq_true (c.fact 108 (f := kitFT "At" "bool" false) rfl),
  of_decide_eq_true (c.fact 109 (f := kitFT "At" "list" false) rfl),
  of_decide_eq_true (c.fact 110 (f := kitFT "At" "tuple" false) rfl),
  He.cls_ok (c.fact 111 (f := fun K => (He.Fa.cls "Over").ok K) rfl),
  insC_of (c.fact 112 (f := insB "Over") rfl),
  He.noat_ok (c.fact 113 (f := fun K => (He.Fa.noat "Over" "kept").ok K) rfl),
  He.noat_ok (c.fact 114 (f := fun K => (He.Fa.noat "Over" "many").ok K) rfl),
  He.noat_ok (c.fact 115 (f := fun K => (He.Fa.noat "Over" "step").ok K) rfl),
  He.meth_ok (c.fact 116 (f := fun K => (He.Fa.meth "Over" "__init__").ok K) rfl),
  He.meth_ok (c.fact 117 (f := fun K => (He.Fa.meth "Over" "parts").ok K) rfl),
  He.meth_ok (c.fact 118 (f := fun K => (He.Fa.meth "Over" "moments").ok K) rfl),
  He.meth_ok (c.fact 119 (f := fun K => (He.Fa.meth "Over" "pieces").ok K) rfl),
  He.meth_ok (c.fact 120 (f := fun K => (He.Fa.meth "Over" "begins").ok K) rfl),
  He.meth_ok (c.fact 121 (f := fun K => (He.Fa.meth "Over" "ends").ok K) rfl),
  He.meth_ok (c.fact 122 (f := fun K => (He.Fa.meth "Over" "means_many").ok K) rfl),
  He.meth_ok (c.fact 123 (f := fun K => (He.Fa.meth "Over" "nested").ok K) rfl),
  He.meth_ok (c.fact 124 (f := fun K => (He.Fa.meth "Over" "__str__").ok K) rfl),
  He.mkr_ok (c.fact 125 (f := fun K => (He.Fa.mkr "Over").ok K) rfl),
  of_decide_eq_true (c.fact 126 (f := kitF "Over" "Short" true) rfl),
  of_decide_eq_true (c.fact 127 (f := kitF "Over" "Spread" false) rfl),
  of_decide_eq_true (c.fact 128 (f := kitF "Over" "At" false) rfl),
  of_decide_eq_true (c.fact 129 (f := kitF "Over" "Over" true) rfl),
  of_decide_eq_true (c.fact 130 (f := kitFT "Over" "int" false) rfl),
  of_decide_eq_true (c.fact 131 (f := kitFT "Over" "bool" false) rfl),
  of_decide_eq_true (c.fact 132 (f := kitFT "Over" "list" false) rfl),
  of_decide_eq_true (c.fact 133 (f := kitFT "Over" "tuple" false) rfl),
  He.cls_ok (c.fact 134 (f := fun K => (He.Fa.cls "Spread").ok K) rfl),
  insC_of (c.fact 135 (f := insB "Spread") rfl),
  He.noat_ok (c.fact 136 (f := fun K => (He.Fa.noat "Spread" "kept").ok K) rfl),
  He.noat_ok (c.fact 137 (f := fun K => (He.Fa.noat "Spread" "held").ok K) rfl),
  He.meth_ok (c.fact 138 (f := fun K => (He.Fa.meth "Spread" "__init__").ok K) rfl),
  He.meth_ok (c.fact 139 (f := fun K => (He.Fa.meth "Spread" "parts").ok K) rfl),
  He.meth_ok (c.fact 140 (f := fun K => (He.Fa.meth "Spread" "moments").ok K) rfl),
  He.meth_ok (c.fact 141 (f := fun K => (He.Fa.meth "Spread" "pieces").ok K) rfl),
  He.meth_ok (c.fact 142 (f := fun K => (He.Fa.meth "Spread" "__eq__").ok K) rfl),
  He.meth_ok (c.fact 143 (f := fun K => (He.Fa.meth "Spread" "__len__").ok K) rfl),
  He.meth_ok (c.fact 144 (f := fun K => (He.Fa.meth "Spread" "__str__").ok K) rfl),
  He.meth_ok (c.fact 145 (f := fun K => (He.Fa.meth "Spread" "__repr__").ok K) rfl),
  He.mkr_ok (c.fact 146 (f := fun K => (He.Fa.mkr "Spread").ok K) rfl),
  noBase_of (c.fact 147 (f := noBaseF "Spread") rfl),
  of_decide_eq_true (c.fact 148 (f := kitF "Spread" "Short" false) rfl),
  of_decide_eq_true (c.fact 149 (f := kitF "Spread" "Spread" true) rfl),
  of_decide_eq_true (c.fact 150 (f := kitF "Spread" "At" false) rfl),
  of_decide_eq_true (c.fact 151 (f := kitF "Spread" "Over" false) rfl),
  of_decide_eq_true (c.fact 152 (f := kitFT "Spread" "int" false) rfl),
  of_decide_eq_true (c.fact 153 (f := kitFT "Spread" "bool" false) rfl),
  of_decide_eq_true (c.fact 154 (f := kitFT "Spread" "list" false) rfl),
  of_decide_eq_true (c.fact 155 (f := kitFT "Spread" "tuple" false) rfl),
  of_decide_eq_true (c.fact 156 (f := kitBF "int" "Short" false) rfl),
  of_decide_eq_true (c.fact 157 (f := kitBF "bool" "Short" false) rfl),
  of_decide_eq_true (c.fact 158 (f := kitBF "str" "Short" false) rfl),
  of_decide_eq_true (c.fact 159 (f := kitBF "NoneType" "Short" false) rfl),
  of_decide_eq_true (c.fact 160 (f := kitBF "list" "Short" false) rfl),
  of_decide_eq_true (c.fact 161 (f := kitBF "tuple" "Short" false) rfl),
  of_decide_eq_true (c.fact 162 (f := kitBF "dict" "Short" false) rfl),
  of_decide_eq_true (c.fact 163 (f := kitBF "int" "Spread" false) rfl),
  of_decide_eq_true (c.fact 164 (f := kitBF "bool" "Spread" false) rfl),
  of_decide_eq_true (c.fact 165 (f := kitBF "str" "Spread" false) rfl),
  of_decide_eq_true (c.fact 166 (f := kitBF "NoneType" "Spread" false) rfl),
  of_decide_eq_true (c.fact 167 (f := kitBF "list" "Spread" false) rfl),
  of_decide_eq_true (c.fact 168 (f := kitBF "tuple" "Spread" false) rfl),
  of_decide_eq_true (c.fact 169 (f := kitBF "dict" "Spread" false) rfl),
  of_decide_eq_true (c.fact 170 (f := kitBF "int" "At" false) rfl),
  of_decide_eq_true (c.fact 171 (f := kitBF "bool" "At" false) rfl),
  of_decide_eq_true (c.fact 172 (f := kitBF "str" "At" false) rfl),
  of_decide_eq_true (c.fact 173 (f := kitBF "NoneType" "At" false) rfl),
  of_decide_eq_true (c.fact 174 (f := kitBF "list" "At" false) rfl),
  of_decide_eq_true (c.fact 175 (f := kitBF "tuple" "At" false) rfl),
  of_decide_eq_true (c.fact 176 (f := kitBF "dict" "At" false) rfl),
  of_decide_eq_true (c.fact 177 (f := kitBF "int" "Over" false) rfl),
  of_decide_eq_true (c.fact 178 (f := kitBF "bool" "Over" false) rfl),
  of_decide_eq_true (c.fact 179 (f := kitBF "str" "Over" false) rfl),
  of_decide_eq_true (c.fact 180 (f := kitBF "NoneType" "Over" false) rfl),
  of_decide_eq_true (c.fact 181 (f := kitBF "list" "Over" false) rfl),
  of_decide_eq_true (c.fact 182 (f := kitBF "tuple" "Over" false) rfl),
  of_decide_eq_true (c.fact 183 (f := kitBF "dict" "Over" false) rfl),
  c.def_ 0 (d := d_is_minute) rfl,
  c.def_ 1 (d := d_in_rising_order) rfl,
  c.def_ 2 (d := d_is_over) rfl,
  c.def_ 3 (d := d_first_parts) rfl,
  c.def_ 4 (d := d_most_number) rfl,
  c.def_ 5 (d := d_numbers_of) rfl,
  c.def_ 6 (d := d_is_whole) rfl,
  c.def_ 7 (d := d_is_moment) rfl,
  c.def_ 8 (d := d_want_moment) rfl,
  c.def_ 9 (d := d_clock_of) rfl,
  c.def_ 10 (d := d_show_moment) rfl,
  c.def_ 11 (d := d_is_number) rfl,
  c.def_ 12 (d := d_Short_moments) rfl,
  c.def_ 13 (d := d_Short_pieces) rfl,
  c.def_ 14 (d := d_Short_begins) rfl,
  c.def_ 15 (d := d_Short_ends) rfl,
  c.def_ 16 (d := d_Short_means_many) rfl,
  c.def_ 17 (d := d_Short_nested) rfl,
  c.def_ 18 (d := d_all_rising) rfl,
  c.def_ 19 (d := d_shorts_in) rfl,
  c.def_ 20 (d := d_row_moments) rfl,
  c.def_ 21 (d := d_row_many) rfl,
  c.def_ 22 (d := d_row_pieces) rfl,
  c.def_ 23 (d := d_row_text) rfl,
  c.def_ 24 (d := d_At_init) rfl,
  c.def_ 25 (d := d_At_moments) rfl,
  c.def_ 26 (d := d_At_pieces) rfl,
  c.def_ 27 (d := d_At_begins) rfl,
  c.def_ 28 (d := d_At_ends) rfl,
  c.def_ 29 (d := d_At_means_many) rfl,
  c.def_ 30 (d := d_At_nested) rfl,
  c.def_ 31 (d := d_At_str) rfl,
  c.def_ 32 (d := d_Over_init) rfl,
  c.def_ 33 (d := d_Over_parts) rfl,
  c.def_ 34 (d := d_Over_moments) rfl,
  c.def_ 35 (d := d_Over_pieces) rfl,
  c.def_ 36 (d := d_Over_begins) rfl,
  c.def_ 37 (d := d_Over_ends) rfl,
  c.def_ 38 (d := d_Over_means_many) rfl,
  c.def_ 39 (d := d_Over_nested) rfl,
  c.def_ 40 (d := d_Over_str) rfl,
  c.def_ 41 (d := d_Spread_init) rfl,
  c.def_ 42 (d := d_Spread_parts) rfl,
  c.def_ 43 (d := d_Spread_moments) rfl,
  c.def_ 44 (d := d_Spread_pieces) rfl,
  c.def_ 45 (d := d_Spread_eq) rfl,
  c.def_ 46 (d := d_Spread_len) rfl,
  c.def_ 47 (d := d_Spread_str) rfl,
  c.def_ 48 (d := d_Spread_repr) rfl,
  c.def_ 49 (d := d_first_size) rfl,
  c.def_ 50 (d := d_over_part) rfl,
  c.def_ 51 (d := d_short_of) rfl,
  c.def_ 52 (d := d_shorts_of) rfl,
  c.def_ 53 (d := d_shortest) rfl,
  c.def_ 54 (d := d__law_pot) rfl,
  c.def_ 55 (d := d__law_draw) rfl,
  c.def_ 56 (d := d__law_gap) rfl,
  c.def_ 57 (d := d__law_means) rfl,
  c.def_ 58 (d := d__law_moved) rfl,
  c.def_ 59 (d := d__law_part) rfl,
  c.def_ 60 (d := d__law_parts) rfl,
  c.def_ 61 (d := d__law_tree) rfl,
  c.def_ 62 (d := d__law_list) rfl,
  c.def_ 63 (d := d__law_turned) rfl,
  c.def_ 64 (d := d__law_whole) rfl,
  c.def_ 65 (d := d__law_over_walked) rfl,
  c.def_ 66 (d := d__law_walked) rfl,
  c.def_ 67 (d := d__law_equal) rfl,
  c.def_ 68 (d := d__law_spoil) rfl,
  c.def_ 69 (d := d__law_right) rfl,
  c.def_ 70 (d := d_law) rfl⟩
end Toy
open PySem PySem.W PySem.Calls PyProof.Rows
set_option maxRecDepth 100000 in
set_option maxHeartbeats 0 in
theorem PySem.Challenge.cw_shortgoings_k31_shortest_is_the_list_holds : PySem.Challenge.rw_shortgoings_k31_shortest_is_the_list.Holds := by
  w_on; o_law
  refine HandSHeadRun.head_any (r := OpenLaw.row PySem.Challenge.rw_shortgoings_k31_shortest_is_the_list) (q := view (OpenLaw.row PySem.Challenge.rw_shortgoings_k31_shortest_is_the_list).prog [60]) (H := Toy.hk) (ob := Toy.ob) (M := 8000) (loose := Toy.nss) (d := HandSHeadRun.topDef (OpenLaw.row PySem.Challenge.rw_shortgoings_k31_shortest_is_the_list).prog 60) (kwd := []) Toy.ob_eq
    (by kernel_rfl) (fun s => by kernel_rfl) Toy.run (by kernel_rfl) (by kernel_rfl) (by kernel_rfl) (by rfl) (by first | assumption | decide +kernel) (by decide +kernel) ⟨rfl, rfl, rfl, rfl, rfl, by decide +kernel⟩ ?hw ?hc
  case hw => w_witness2
  case hc =>
    refine L3.walk_end (l := PySem.Challenge.rw_shortgoings_k31_shortest_is_the_list) (n := 63) (k := 141) (x := "_law_script") rfl (by decide) (by kernel_rfl) (L3.rm_caller.mono (by decide)) ?F
    intro w mg fa h Y G hmg0
    obtain ⟨K, KX, c⟩ := Y
    have hmg : mg ("law" : PySem.Str) = some (.ref fa) := by
      have e : (HandSHeadRun.topDef (OpenLaw.row PySem.Challenge.rw_shortgoings_k31_shortest_is_the_list).prog 60).name = ("law" : PySem.Str) := by kernel_rfl
      rw [← e]
      exact hmg0
    have T := Toy.env_of KX G c
    have e := hmg.symm.trans T.g_law
    cases e
    obtain ⟨fd, F⟩ := T.f_law
    have b := L2.FunD.bindsA (ps := ["_law_script"]) F fun _ _ _ _ _ _ us hl => match us, hl with | [_], _ => rfl
    exact ⟨K, fd, Toy.sp_law K, KX, fun s v => b s [v] rfl, fun H a ns hl hS => ⟨a, ns, rfl, hS, hl, fun _ => rfl⟩, fun base _ _ => Toy.ok_law T F⟩
