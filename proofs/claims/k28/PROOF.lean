import PyProof.Rows.All
import Wide.All
import OpenK.AllK
import Wide.FinOn
import PyProof.EqAt
import PyProof.EqKinds
import PyProof.TupleCall
import HandS.ForMost
import HandS.ForExc
import HandS.Defaults
import HandS.MakeKwOnly
import HandS.WideBits
import HandS.IsInst
import HandS.Flow
import HandS.Style
import HandS.Evl
import HandS.StrMore
import HandS.TupAny
import HandS.SortInts
import HandS.RaiseMore
import HandS.Zip
import HandS.Head0
import HandS.Head1
import HandS.Head2
import HandS.HeadEnd
import HandS.HeadHook1
import HandS.HeadHook2
import HandS.Walk
import PyProof.Rows.StrJoinRep
import PyProof.StrLawsLast
import HandS.Codes
import HandS.ExcIs
import KE.KTryMore
import KE.KFmtOwn
import PyProof.InstSpecial
import HandS.TryOnly
import HandS.FStr
import HandS.Conv
import HandS.SetFor
import HandS.Strs
import HandS.OwnEq
import HandS.Deep
import HandS.RaiseFrom
import HandS.SuiteRaise
import HandS.Exc
import KE.GoesMore
import HandS.HotCalls
import HandS.ExcField
import HandS.More
import PySem.Challenge.RW_shortgoings_k28_handed_and_shared
set_option Elab.async false
set_option linter.all false
set_option maxRecDepth 100000
set_option maxHeartbeats 4000000
namespace L3
open PySem PySem.Spec PyProof.Rows L2
structure Rm (k : Nat) (A : Around) : Prop where
  rm : Room k A
  gd : A.guards = some []
theorem Rm.mono {j k : Nat} {A : Around} (r : Rm k A) (h : j ≤ k) : Rm j A := ⟨r.rm.mono h, r.gd⟩
theorem Rm.deeper {k : Nat} {A : Around} (r : Rm (k + 1) A) (env : Env) : Rm k (A.deeper env) := ⟨r.rm.deeper env, r.gd⟩
theorem make_guards {A : Around} {C : Addr} {us : List Value} {kw : List (Str × Value)} : (A.under (.builtin "type.__call__" ⟨.ref C :: us, kw⟩)).guards = A.guards := by
  have e : Code.guards (.builtin "type.__call__" ⟨.ref C :: us, kw⟩) = [] := by
    first | rfl | simp [Code.guards, Code.isGuard, guardIds]
  show pushGuards (Code.guards (.builtin "type.__call__" ⟨.ref C :: us, kw⟩)) A.guards = A.guards
  rw [e]
  cases A.guards <;> rfl
theorem Rm.make {k : Nat} {A : Around} (r : Rm (k + 1) A) (C : Addr) (us : List Value) (kw : List (Str × Value)) : Rm k (A.under (.builtin "type.__call__" ⟨.ref C :: us, kw⟩)) :=
  ⟨r.rm.make C us kw, make_guards.trans r.gd⟩
structure Fb (P : Program) (w : World) (K : PySem.W.Frag) (mg : Str → Option Value) (base : Heap) (k : Nat) (f : Addr) (fd : FuncData) (ps : List Str) (sp : Sp) : Prop where
  len : ∀ vs H Q E, sp vs H Q E → vs.length = ps.length
  run : ∀ (A : Around) (outer : List Env) (s : Shared) (H : Hp) (args : Args) (us : List Value) (vs : List V) (Q : VK) (E : XK), Rm k A → Env0 P w K mg base A outer s H → BindsTo s fd args (ps.zip us) → Vals vs us → sp vs H Q E →
    codeAny (model P w) A (.call (.ref f) args) (CR (L2.CX P w) outer P w H s Q E) s
section
variable {P : Program} {w : World} {K : PySem.W.Frag} {mg : Str → Option Value} {base : Heap} {x qual : Str} {params : Arguments} {body : List Stmt} {scope : Scope} {dvs : List V} {kws : List (Str × V)} {f : Addr} {fd : FuncData} {k : Nat} {ps N : List Str} {sp : Sp}
theorem fb_of (F : FunD K x qual params body scope dvs kws f fd) (S : FnScope N ps scope) (len : ∀ vs H Q E, sp vs H Q E → vs.length = ps.length)
    (hbody : ∀ (cdv : Value) (A : Around) (outer : List Env) (s : Shared) (H : Hp) (vs : List V) (Q : VK) (E : XK), Rm k (A.deeper (envOfC qual scope s.heap.objs.size f cdv)) → sp vs H Q E →
      ∃ t, PSs (cxOf (L2.CX P w) P w K mg base N qual scope f cdv A outer s H E) body t ∧ t { nx := fun _ H' => Q .non H', rt := Q } (start N vs) H) : Fb P w K mg base (k + 1) f fd ps sp := by
  obtain ⟨oc, od, dV, kV, doc, pm, an, cdv, ct, osl, rfl, lk, hcd, _, _⟩ := F.ex
  refine ⟨len, fun A outer s H args us vs Q E hr e0 hb r hsp => ?_⟩
  have hl := len _ _ _ _ hsp
  have KX : K.In s.heap := e0.mod.kin.keeps fun b o e => (e0.bs b o e).1
  have lim : s.heap.NoLimit := e0.mod.nolimit.keeps fun b o e => (e0.bs b o e).1
  have hkind : ∀ y ∈ ps.zip us, scope.names.lookup y.1 = some .local ∨ (scope.names.lookup y.1 = some .cell ∧ ((cellsFrom (s.heap.objs.size + 1) scope.names []).lookup y.1).isSome = true) := fun ⟨n, v⟩ hy => by
    rcases S.par n (List.of_mem_zip hy).1 with q | q
    · exact .inl q
    · exact .inr ⟨q, PySem.W.cellsFrom_some _ _ _ (.inl q)⟩
  refine codeAny_call_function hr.rm.depth (KX _ _ lk) rfl S.co S.gen rfl (PySem.W.codeRec_of KX hcd) (hb _ _ _ _ ?_)
  refine wpAny_newFunctionEnv_cells S.kind hkind fun env he s1 x => ?_
  subst he
  refine ⟨lim.keeps x.toInCall.keep, codeAny_func ?_⟩
  obtain ⟨t, ht, hq⟩ := hbody cdv A outer s H vs Q E (hr.deeper _) hsp
  have I : Inv (cxOf (L2.CX P w) P w K mg base N qual scope f cdv A outer s H E) [] (start N vs) H s1 := inv_start S hr.rm.hd e0 hl r x
  refine wpAny_mono (ht.run [] s1 (start N vs) H _ I hq) (fun fl s' hs => ?_) fun e s' hs => hs
  have fin : ∀ {σ' : L2.St} {H' : Hp} {v : V} {u : Value}, Inv (cxOf (L2.CX P w) P w K mg base N qual scope f cdv A outer s H E) [] σ' H' s' → RelV v u → Q v H' → CE outer P w H s Q u s' :=
    fun {σ' H' v u} J rv q => ⟨v, H', J.os, J.bare, J.base, J.hok, rv, q⟩
  cases fl with
  | ret u =>
    obtain ⟨v, σ', H', J, rv, q⟩ := hs
    exact fin J rv q
  | next =>
    obtain ⟨σ', H', J, q⟩ := hs
    exact fin (v := V.non) (u := Value.none) J rfl q
  | brk =>
    obtain ⟨_, _, _, q⟩ := hs
    exact False.elim q
  | cont =>
    obtain ⟨_, _, _, q⟩ := hs
    exact False.elim q
theorem Fb.mono {j : Nat} (F : Fb P w K mg base j f fd ps sp) (h : j ≤ k) : Fb P w K mg base k f fd ps sp := ⟨F.len, fun A outer s H args us vs Q E hr => F.run A outer s H args us vs Q E (hr.mono h)⟩
theorem Fb.imp {sp' : Sp} (F : Fb P w K mg base k f fd ps sp) (h : ∀ vs H Q E, sp' vs H Q E → sp vs H Q E) : Fb P w K mg base k f fd ps sp' :=
  ⟨fun vs H Q E q => F.len vs H Q E (h _ _ _ _ q), fun A outer s H args us vs Q E hr he hb hv hs => F.run A outer s H args us vs Q E hr he hb hv (h _ _ _ _ hs)⟩
def Fc (P : Program) (w : World) (K : PySem.W.Frag) (mg : Str → Option Value) (base : Heap) (k : Nat) (f : Addr) (ks : List Str) (sp : Sp) : Prop :=
  ∀ (A : Around) (outer : List Env) (s : Shared) (H : Hp) (us ws : List Value) (vs : List V) (Q : VK) (E : XK), Rm k A → Env0 P w K mg base A outer s H → Vals vs (us ++ ws) → ws.length = ks.length → sp vs H Q E →
    codeAny (model P w) A (.call (.ref f) ⟨us, ks.zip ws⟩) (CR (L2.CX P w) outer P w H s Q E) s
theorem Fc.mono {j : Nat} {ks : List Str} (F : Fc P w K mg base j f ks sp) (h : j ≤ k) : Fc P w K mg base k f ks sp := fun A outer s H us ws vs Q E hr => F A outer s H us ws vs Q E (hr.mono h)
theorem Fc.imp {sp' : Sp} {ks : List Str} (F : Fc P w K mg base k f ks sp) (h : ∀ vs H Q E, sp' vs H Q E → sp vs H Q E) : Fc P w K mg base k f ks sp' :=
  fun A outer s H us ws vs Q E hr he hv hl hs => F A outer s H us ws vs Q E hr he hv hl (h _ _ _ _ hs)
/-- every parameter is given by place -/
theorem Fb.all (F : Fb P w K mg base k f fd ps sp) (hb : Binds K fd ps []) : Fc P w K mg base k f [] sp := fun A outer s H us ws vs Q E hr e0 r hl h => by
  cases ws with
  | cons w ws => cases hl
  | nil =>
    rw [List.append_nil] at r
    have KX : K.In s.heap := e0.mod.kin.keeps fun b o e => (e0.bs b o e).1
    have l2 : us.length = ps.length := by rw [← r.length]; exact F.len _ _ _ _ h
    have b := hb s us KX (by rw [List.append_nil]; exact l2)
    rw [List.append_nil] at b
    exact F.run A outer s H ⟨us, []⟩ us vs Q E hr e0 b r h
/-- some by place, some by name, some left out: g puts the given ones and the defaults into the parameters' order -/
theorem Fb.shape (D : FunD K x qual params body scope dvs kws f fd) (F : Fb P w K mg base k f fd ps sp) (n : Nat) (ks : List Str) (g : {α : Type} → List α → List α → List α) (hd : dvs ≠ [])
    (hrel : ∀ {vs ds : List V} {us its : List Value}, Vals vs us → Vals ds its → Vals (g vs ds) (g us its))
    (h : ∀ (T : Addr) (kV doc pm : Value) (an : Option Addr) (cdv ct : Value) (us ws its : List Value), us.length = n → ws.length = ks.length → its.length = dvs.length →
      ∃ k, bindArgs (PySem.W.fnOf x qual params body scope (.ref T) kV doc pm an cdv ct) ⟨us, ks.zip ws⟩ = seqItems? (.ref T) >>= k ∧ k (some its.toArray) = pure (ps.zip (g (us ++ ws) its))) :
    Fc P w K mg base k f ks (fun vs H Q E => vs.length = n + ks.length ∧ sp (g vs dvs) H Q E) := by
  obtain ⟨oc, od, dV, kV, doc, pm, an, cdv, ct, osl, rfl, lk, hcd, hD, hK⟩ := D.ex
  rcases hD with ⟨e, _⟩ | ⟨_, T, o, its, m, rfl, lT, oT, rT⟩
  · exact absurd e hd
  · intro A outer s H us ws vs Q E hr e0 r hl hsp
    have KX : K.In s.heap := e0.mod.kin.keeps fun b o e => (e0.bs b o e).1
    have l1 : its.length = dvs.length := rT.length.symm
    have l2 : us.length = n := by
      have e := r.length
      rw [hsp.1, List.length_append, hl] at e
      omega
    obtain ⟨k, e1, e2⟩ := h T kV doc pm an cdv ct us ws its l2 hl l1
    refine F.run A outer s H ⟨us, ks.zip ws⟩ (g (us ++ ws) its) (g vs dvs) Q E hr e0 (BindsTo.of_looks fun M => ?_) (hrel r rT) hsp.2
    rw [e1]
    exact looks_items KX lT oT (.of_pure e2)
/-- all parameters given, some by name, no defaults -/
theorem Fb.names (D : FunD K x qual params body scope [] kws f fd) (F : Fb P w K mg base k f fd ps sp) (n : Nat) (ks : List Str) (g : {α : Type} → List α → List α)
    (hrel : ∀ {vs : List V} {us : List Value}, Vals vs us → Vals (g vs) (g us))
    (h : ∀ (kV doc pm : Value) (an : Option Addr) (cdv ct : Value) (us ws : List Value), us.length = n → ws.length = ks.length →
      bindArgs (PySem.W.fnOf x qual params body scope .none kV doc pm an cdv ct) ⟨us, ks.zip ws⟩ = pure (ps.zip (g (us ++ ws)))) :
    Fc P w K mg base k f ks (fun vs H Q E => vs.length = n + ks.length ∧ sp (g vs) H Q E) := by
  obtain ⟨oc, od, dV, kV, doc, pm, an, cdv, ct, osl, rfl, lk, hcd, hD, hK⟩ := D.ex
  rcases hD with ⟨_, rfl⟩ | ⟨e, _⟩
  · intro A outer s H us ws vs Q E hr e0 r hl hsp
    have l2 : us.length = n := by
      have e := r.length
      rw [hsp.1, List.length_append, hl] at e
      omega
    exact F.run A outer s H ⟨us, ks.zip ws⟩ (g (us ++ ws)) (g vs) Q E hr e0 (.of_eq (h kV doc pm an cdv ct us ws l2 hl)) (hrel r) hsp.2
  · exact absurd rfl e
end
def tFc (sp : Sp) (W : WX) (t : TA) : TE := fun σ H Q => t σ H fun vs H1 => sp vs H1 Q (WE W σ)
section
variable {X : Cx} {k : Nat} {f C : Addr} {ks : List Str} {sp : Sp} {W : WX} {x m : Str} {p pos apos : Pos} {e o : Expr} {es : List Expr} {kws : List Keyword} {ta : TE} {t tk : TA}
theorem run_fc {pins : List (Addr × Obj)} {σ : L2.St} {H : Hp} {s : Shared} {Q : VK} {us ws : List Value} {vs : List V} (F : Fc X.prog X.w X.K X.mg X.base k f ks sp) (hr : Rm k X.A) (hx : Takes X W)
    (I : Inv X pins σ H s) (r : Vals vs (us ++ ws)) (hl : ws.length = ks.length) (h : sp vs H Q (WE W σ)) : wpAny (model X.prog X.w) X.A (call (.ref f) us (ks.zip ws)) (EP X pins σ Q) X.xe s := by
  refine wpAny_call (codeAny_mono (F X.A X.stack s H us ws vs Q (WE W σ) hr I.env0 r hl h) fun r s' hq => ?_)
  cases r with
  | error e => exact passAt hx σ pins H s e s' I hq
  | ok fl =>
    cases fl with
    | ret u => exact I.after hq
    | next => exact False.elim hq
    | brk => exact False.elim hq
    | cont => exact False.elim hq
/-- f(e, ..) -/
theorem c_call (F : Fc X.prog X.w X.K X.mg X.base k f [] sp) (hr : Rm k X.A) (hm : X.mg x = some (.ref f)) (hk : PySem.W.keepIn X.K (.ref f) = true) (hx : Takes X W)
    (ha : PA X (e :: es) t) (hg : Gl X x := by rfl) (hdb : (x == ("__debug__" : Str)) = false := by decide) (he : starEach (e :: es) X.env = (false, eval e X.env) :: starEach es X.env := by rfl) (hpl : (backTo pos (starEach es X.env)).any (·.1) = false := by rfl) :
    PE X (.Call (.Name x p) (e :: es) [] pos) (tFc sp W t) := by
  refine ⟨fun pins s σ H Q I h => ?_⟩
  refine wpAny_Call_Name_kw (ld_glob I hg hm ?_ hdb)
  refine PySem.W.callWith_K (h₀ := X.base) I.ok.mod.kin hk (thn (ha.run pos pins s σ H _ I h) fun us s1 ⟨vs, H1, I1, r, q⟩ => ⟨I1.kIn, ?_⟩) he hpl
  exact run_fc (ws := []) F hr hx I1 (by rw [List.append_nil]; exact r) rfl q
end
@[irreducible] def rRepr (K : PySem.W.Frag) : List V → Hp → VK → Prop := fun xs H Q => ∃ (a : Addr) (d : PyData), xs = [.ref a] ∧ Dp K H (.ref a) d ∧ d.hasDict = false ∧ d.showable = true ∧ d.depth ≤ 60 ∧ d.shown.length ≤ sizeLine ∧ Q (.str d.shown) H
theorem call_repr {X : Cx} {k : Nat} (hr : Rm k X.A) : CallR X (.builtin "repr") (rRepr X.K) := by
  intro pins s σ H xs us Q I r h
  unfold rRepr at h
  obtain ⟨a, d, rfl, hd, hnd, hs, hdp, hsz, q⟩ := h
  cases r with
  | cons r1 r2 =>
    cases r2
    obtain ⟨as, rd⟩ := Dp.reads I d (.ref a) _ hd r1
    obtain rfl : _ = Value.ref a := r1
    refine repr_of_reads' rd hs (PyData.noDict_hsm hnd) hr.gd (by have := hr.rm.un; omega) (fun _ _ e => e) (fun h' u tk hk => ?_) hsz
    exact ⟨.str d.shown, H, I.kept hk, ⟨u, rfl⟩, q⟩
theorem rm_caller : Rm 230 callerA := ⟨⟨rfl, by decide, by decide⟩, rfl⟩
section
variable {P : Program} {w : World} {K : PySem.W.Frag} {mg mb : Str → Option Value} {k : Nat} {fa a : Addr} {fd : FuncData} {x : Str} {sp : Sp} {s₁ : Shared} {vs : List Value} {ns : List Int}
/-- the law's call over one abstract heap, in which at most the script is tracked -/
theorem law_core (H : Hp) (KX : K.In s₁.heap) (hns : s₁.heap.Ns mainGlobals mg) (hb : s₁.heap.Ns builtinsNs mb) (hbb : ∀ x : Str, x ≠ "__name__" → mb x = bootBuiltins x) (hlim : s₁.heap.NoLimit) (hg : s₁.gens = #[])
    (ha : s₁.heap.get? a = some { cls := .type "list", data := .seq vs.toArray }) (hr : Rm k callerA)
    (F : ∀ base : Heap, K.In base → base.Ns mainGlobals mg → Fb P w K mg base k fa fd [x] sp) (hbind : ∀ (s : Shared) (u : Value), BindsTo s fd ⟨[u], []⟩ [(x, u)])
    (hO : Only H) (hsp : sp [.ref a] H (fun v _ => v = .bl true) fun _ _ _ => False) (hok : HOk P w H s₁.heap) (hA : ∀ b, H b ≠ none → b = a) (hK : H a ≠ none → K.lookup a = none) :
    codeAny (model P w) callerA (.call (.ref fa) ⟨[.ref a], []⟩) (fun r s' => r = .ok (.ret (.bool true)) ∧ OldK s₁.heap s'.heap ∧ s'.os = s₁.os ∧ AllBare s'.gens) s₁ := by
  have isA : ∀ {b : Addr} {u : HO}, H b = some u → b = a := fun {b u} q => hA b (fun z => nomatch (q.symm.trans z))
  have free : ∀ {b : Addr} {o : Obj} {es : Array DictEntry} {ep : Nat}, s₁.heap.get? b = some o → o.data = .dict es ep → H b = none := fun {b o es ep} e d => by
    cases q : H b with
    | none => rfl
    | some u =>
      have eb := isA q
      subst eb
      rw [ha] at e
      cases e
      cases (show Data.seq vs.toArray _ = Data.dict es ep from d)
  have nsK : ∀ {b : Addr} {m : Str → Option Value}, s₁.heap.Ns b m → (hidT s₁.heap H).Ns b m := fun {b m} ⟨o, es, ep, e, d, r⟩ => ⟨o, es, ep, hidT_get e (free e d), d, r⟩
  have inK : K.In (hidT s₁.heap H) := fun b o e => hidT_get (KX b o e) (by
    cases q : H b with
    | none => rfl
    | some u =>
      have eb := isA q
      subst eb
      rw [hK (fun z => nomatch (q.symm.trans z))] at e
      cases e)
  have hM : Mod K mg (hidT s₁.heap H) := ⟨inK, nsK hns, ⟨mb, nsK hb, hbb⟩, let ⟨mc, h1, h2⟩ := hlim; ⟨mc, nsK h1, h2⟩⟩
  have e0 : Env0 P w K mg (hidT s₁.heap H) callerA [] s₁ H := ⟨rfl, hM, fun b o e => of_hidT e, Nat.le_of_eq (hidT_size _ _), trivial, (fun b z => nomatch (show b ∈ ([] : List Addr) from z)), hok, .of_eq hg⟩
  refine codeAny_mono ((F _ inK (nsK hns)).run callerA [] s₁ H ⟨[.ref a], []⟩ [.ref a] [.ref a] _ _ hr e0 (hbind s₁ (.ref a)) (.cons rfl .nil) hsp) fun r s' h => ?_
  cases r with
  | error e =>
    obtain ⟨_, _, _, _, _, _, _, _, _, _, _, _, z⟩ := h
    exact z.elim
  | ok fl =>
    cases fl with
    | next => exact h.elim
    | brk => exact h.elim
    | cont => exact h.elim
    | ret u =>
      obtain ⟨v, H', os, bare, un, hok2, rv, rfl⟩ := h
      obtain rfl : u = Value.bool true := rv
      refine ⟨rfl, OldK.of_keep fun b o e => ?_, os, bare⟩
      cases q : H b with
      | none => exact un.keep b o e q (fun z => nomatch (show b ∈ ([] : List Addr) from z)) (fun z => nomatch z)
      | some u =>
        rcases hO b with z | ⟨ob, xs, z⟩
        · exact nomatch (q.symm.trans z)
        · have e1 := (hok b _ z).1
          have e2 := (hok2 b _ (un.frzs b ob _ z)).1
          rw [e] at e1
          cases e1
          exact e2
theorem law_end (KX : K.In s₁.heap) (hns : s₁.heap.Ns mainGlobals mg) (hb : s₁.heap.Ns builtinsNs mb) (hbb : ∀ x : Str, x ≠ "__name__" → mb x = bootBuiltins x) (hlim : s₁.heap.NoLimit) (hg : s₁.gens = #[])
    (ha : s₁.heap.get? a = some { cls := .type "list", data := .seq vs.toArray }) (hi : IntsAre vs ns) (hl : ns.length ≤ sizeLine) (hr : Rm k callerA)
    (F : ∀ base : Heap, K.In base → base.Ns mainGlobals mg → Fb P w K mg base k fa fd [x] sp) (hbind : ∀ (s : Shared) (u : Value), BindsTo s fd ⟨[u], []⟩ [(x, u)])
    (hsp : ∀ H : Hp, SqL K H a (ns.map V.int) → sp [.ref a] H (fun v _ => v = .bl true) fun _ _ _ => False) :
    codeAny (model P w) callerA (.call (.ref fa) ⟨[.ref a], []⟩) (fun r s' => r = .ok (.ret (.bool true)) ∧ OldK s₁.heap s'.heap ∧ s'.os = s₁.os ∧ AllBare s'.gens) s₁ := by
  have rv := vals_ints hi
  cases hk : K.lookup a with
  | some o =>
    have e := KX a o hk
    rw [ha] at e
    cases e
    have sq : SqL K (fun _ => none) a (ns.map V.int) := .inr ⟨_, vs.toArray, _, hk, rfl, rfl, rfl, by rw [List.size_toArray, hi.length]; exact hl, by simpa using rv⟩
    exact law_core (fun _ => none) KX hns hb hbb hlim hg ha hr F hbind (fun _ => .inl rfl) (hsp _ sq) (fun b u z => nomatch (show (none : Option HO) = some u from z)) (fun b z => absurd rfl z) fun z => absurd rfl z
  | none =>
    have h1 : ∀ b, b ≠ a → (upd (fun _ => none) a (.frz { cls := .type "list", data := .seq vs.toArray } (.lst (ns.map V.int)))) b = none := fun b n => upd_ne n
    refine law_core (upd (fun _ => none) a (.frz { cls := .type "list", data := .seq vs.toArray } (.lst (ns.map V.int)))) KX hns hb hbb hlim hg ha hr F hbind (fun b => ?_) (hsp _ (.inl (.inr ⟨_, upd_same⟩))) (fun b u z => ?_) (fun b z => ?_) fun _ => hk
    · by_cases n : b = a
      · subst n
        exact .inr ⟨_, _, upd_same⟩
      · exact .inl (h1 b n)
    · by_cases n : b = a
      · subst n
        rw [upd_same] at z
        cases z
        exact ⟨ha, by rw [List.length_map]; exact hl, vs, _, rv, ha⟩
      · rw [h1 b n] at z
        cases z
    · by_cases n : b = a
      · exact n
      · exact absurd (h1 b n) z
end
theorem walk_end {l : PySem.W.OpenLaw} {n k : Nat} {q : Program} {loose : List Str} {XP : (Str → Option Value) → Heap → Prop} {YP : World → Heap → Prop} {d : DefRec} {x : Str}
    (hn : l.most = some n) (hn2 : n ≤ sizeLine) (hdf : d.params.defaults = []) (hr : Rm k callerA)
    (F : ∀ (w : World) (mg : Str → Option Value) (fa : Addr) (h : Heap), YP w h → h.Ns mainGlobals mg → mg d.name = some (.ref fa) →
      ∃ (K : PySem.W.Frag) (fd : FuncData) (sp : Sp), K.In h ∧ (∀ (s : Shared) (u : Value), BindsTo s fd ⟨[u], []⟩ [(x, u)]) ∧
        (∀ (H : Hp) (a : Addr) (ns : List Int), ns.length ≤ n → SqL K H a (ns.map V.int) → sp [.ref a] H (fun v _ => v = .bl true) fun _ _ _ => False) ∧
        ∀ base : Heap, K.In base → base.Ns mainGlobals mg → Fb l.prog w K mg base k fa fd [x] sp) :
    PySem.W.WalkO q loose XP YP l.row.toRowW d [] (fun f vs => PySem.call f vs) := by
  refine Att.attach_call hn hdf fun w s₀ s₁ mg mb fa o pm cd doc a vs ns G Y ho hd hcd hmg hobj hints hlen hg => ?_
  obtain ⟨K, fd, sp, KX, hb, hsp, hF⟩ := F w mg fa _ Y G.T.g hmg
  exact law_end KX G.T.g G.T.b G.T.builtins G.T.nolimit hg hobj hints (Nat.le_trans hlen hn2) hr hF hb (fun H hS => hsp H a ns hlen hS)
end L3
set_option Elab.async false
set_option linter.all false
set_option maxRecDepth 100000
set_option maxHeartbeats 4000000
namespace L3
open PySem PySem.Spec PyProof.Rows L2
abbrev Fx := PySem.W.Frag → Bool
def obsX (xf : List Fx) (fn : List He.DefD) (K : PySem.W.Frag) : He.AlD := ((xf.all fun p => p K) && fn.all fun d => d.ok K, fn.map fun d => He.fnW K d.at_)
def SaysX (xf : List Fx) (fn : List He.DefD) (K : PySem.W.Frag) : Prop := obsX xf fn K = He.valD fn
section
variable {xf : List Fx} {fn : List He.DefD} {K : PySem.W.Frag}
theorem SaysX.fact (c : SaysX xf fn K) (i : Nat) {f : Fx} (h : xf[i]? = some f := by rfl) : f K = true := by
  have c1 := (He.ba (show ((xf.all fun f => f K) && fn.all fun d => d.ok K) = true from congrArg (fun z : He.AlD => z.1) c)).1
  exact List.all_eq_true.mp c1 f (List.mem_of_getElem? h)
theorem SaysX.def_ (c : SaysX xf fn K) (i : Nat) {d : He.DefD} (h : fn[i]? = some d := by rfl) : ∃ fd, FunD K d.name d.qual d.params d.body d.scope (d.dvs K) (d.kws K) (He.fAd K d.at_) fd := by
  have c2 := (He.ba (show ((xf.all fun f => f K) && fn.all fun d => d.ok K) = true from congrArg (fun z : He.AlD => z.1) c)).2
  have e : fn.map (fun d => He.fnW K d.at_) = fn.map He.DefD.val := congrArg (fun z : He.AlD => z.2) c
  have e2 : (fn.map fun d => He.fnW K d.at_)[i]? = (fn.map He.DefD.val)[i]? := by rw [e]
  rw [List.getElem?_map, List.getElem?_map, h] at e2
  exact He.DefD.funD (Option.some.inj e2) (List.all_eq_true.mp c2 d (List.mem_of_getElem? h))
end
structure Exo (K : PySem.W.Frag) (C : Addr) (bmB : List Value) (newId : String) : Prop where
  x : PySem.W.excIn K C bmB newId = true
  kp : PySem.W.keepIn K (.ref C) = true
  sub : PySem.W.subIn K (.ref C) (.type "BaseException") = some true
  ty : PySem.W.typeIn K (.ref C) = some (.type "type")
abbrev bmV : List Value := [.type "ValueError", .type "Exception", .type "BaseException", .type "object"]
def exoB (bmB : List Value) (newId : String) (x : Str) : Fx := fun K => PySem.W.excIn K (He.ga K x) bmB newId && (PySem.W.keepIn K (.ref (He.ga K x)) && (decide (PySem.W.subIn K (.ref (He.ga K x)) (.type "BaseException") = some true) && decide (PySem.W.typeIn K (.ref (He.ga K x)) = some (.type "type"))))
theorem exo_of {bmB : List Value} {newId : String} {x : Str} {K : PySem.W.Frag} (h : exoB bmB newId x K = true) : Exo K (He.ga K x) bmB newId := by
  obtain ⟨h1, h⟩ := He.ba h
  obtain ⟨h2, h⟩ := He.ba h
  obtain ⟨h3, h4⟩ := He.ba h
  exact ⟨h1, h2, of_decide_eq_true h3, of_decide_eq_true h4⟩
section
variable {K : PySem.W.Frag} {h : Heap} {mg : Str → Option Value}
theorem gint_of (X : K.In h) (G : h.Ns mainGlobals mg) {x : Str} {i : Int} (c : (He.Fa.int x i).ok K = true) : ∃ u, mg x = some u ∧ RelV (.int i) u := by
  obtain ⟨t, e⟩ := He.int_ok X G c
  exact ⟨_, e, ⟨t, rfl⟩⟩
theorem gstr_of (X : K.In h) (G : h.Ns mainGlobals mg) {x z : Str} (c : (He.Fa.str x z).ok K = true) : ∃ u, mg x = some u ∧ RelV (.str z) u := by
  obtain ⟨t, e⟩ := He.str_ok X G c
  exact ⟨_, e, ⟨t, rfl⟩⟩
end
/-- a module's constant -/
theorem pe_k {X : Cx} {x : Str} {v : V} {pos : Pos} (h : ∃ u, X.mg x = some u ∧ RelV v u) (hg : Gl X x := by rfl) (hdb : (x == ("__debug__" : Str)) = false := by decide) : PE X (.Name x pos) (tC v) := by
  obtain ⟨u, e, r⟩ := h
  exact pe_glob hg e r hdb
end L3
set_option Elab.async false
set_option linter.all false
set_option maxRecDepth 100000
set_option maxHeartbeats 4000000
namespace L3
open PySem PySem.Spec PyProof.Rows L2
abbrev Ex (H H' : Hp) : Prop := Same H H'
theorem ex_new {H : Hp} {p : Addr} {o : HO} (h : H p = none) : Ex H (upd H p o) := fun a u e => by
  rw [upd_ne (ne_of_none e h)]
  exact e
/-- an object that H does not know may change -/
theorem ex_mut {H H' : Hp} {p : Addr} {o : HO} (e : Ex H H') (h : H p = none) : Ex H (upd H' p o) := fun a u ha => by
  rw [upd_ne (ne_of_none ha h)]
  exact e a u ha
theorem ex_sql {K : PySem.W.Frag} {H H' : Hp} {a : Addr} {xs : List V} (e : Ex H H') (h : SqL K H a xs) : SqL K H' a xs := Same.seq e h
theorem ex_sqt {K : PySem.W.Frag} {H H' : Hp} {a : Addr} {xs : List V} (e : Ex H H') (h : SqT K H a xs) : SqT K H' a xs := by
  rcases h with (h | ⟨o, h⟩) | h
  · exact .inl (.inl (e _ _ h))
  · exact .inl (.inr ⟨o, e _ _ h⟩)
  · exact .inr h
theorem ex_fresh {H H' : Hp} {p : Addr} (e : Ex H H') (h : H' p = none) : H p = none := Same.free e h
theorem sq_lst {K : PySem.W.Frag} {H : Hp} {a : Addr} {xs : List V} (h : H a = some (.lst xs)) : SqL K H a xs := .inl (.inl h)
theorem sq_tup {K : PySem.W.Frag} {H : Hp} {a : Addr} {xs : List V} (h : H a = some (.tup xs)) : SqT K H a xs := .inl (.inl h)
/-- a value of a known type -/
def isW : V → Bool
  | .int _ => true
  | _ => false
def isM : V → Bool
  | .int i => decide (0 ≤ i)
  | _ => false
def Cl (K : PySem.W.Frag) (H : Hp) (x : V) : Prop := ∃ t b c, TyX K H x t ∧ PySem.W.kitOne K t (.type "int") = some b ∧ PySem.W.kitOne K t (.type "bool") = some c ∧ isW x = (b && !c)
section
variable {K : PySem.W.Frag} {H : Hp}
theorem cl_int (i : Int) : Cl K H (.int i) := ⟨_, true, false, .base (.int i), kit_ty (by decide +kernel), kit_ty (by decide +kernel), rfl⟩
end
theorem isM_w {x : V} (h : isM x = true) : ∃ i, x = .int i ∧ 0 ≤ i := by
  cases x with
  | int i => exact ⟨i, rfl, of_decide_eq_true h⟩
  | _ => cases h
/-- given values and defaults in the parameters' order -/
def pick {α : Type} (ix : List (Sum Nat Nat)) (us its : List α) : List α := ix.filterMap fun j => match j with
  | .inl i => us[i]?
  | .inr i => its[i]?
theorem pick_vals {vs ds : List V} {us its : List Value} (ix : List (Sum Nat Nat)) (r1 : Vals vs us) (r2 : Vals ds its) : Vals (pick ix vs ds) (pick ix us its) := by
  have one : ∀ {vs : List V} {us : List Value} (i : Nat), Vals vs us → (∃ v u, vs[i]? = some v ∧ us[i]? = some u ∧ RelV v u) ∨ (vs[i]? = none ∧ us[i]? = none) := fun {vs us} i r => by
    cases e : vs[i]? with
    | none => exact .inr ⟨rfl, r.none_of e⟩
    | some v =>
      obtain ⟨u, h1, h2⟩ := r.get e
      exact .inl ⟨v, u, rfl, h1, h2⟩
  induction ix with
  | nil => exact .nil
  | cons j ix ih =>
    unfold pick at ih ⊢
    cases j with
    | inl i =>
      rcases one i r1 with ⟨v, u, h1, h2, h3⟩ | ⟨h1, h2⟩
      · simp only [List.filterMap_cons, h1, h2]
        exact .cons h3 ih
      · simp only [List.filterMap_cons, h1, h2]
        exact ih
    | inr i =>
      rcases one i r2 with ⟨v, u, h1, h2, h3⟩ | ⟨h1, h2⟩
      · simp only [List.filterMap_cons, h1, h2]
        exact .cons h3 ih
      · simp only [List.filterMap_cons, h1, h2]
        exact ih
end L3
namespace L3
open PySem PySem.Spec PyProof.Rows L2
theorem log_of {n : Nat} (h : n < 10 ^ 200) : n.log2 < 1920 := PySem.Flt.log2_lt_of (by decide) (Nat.lt_trans h (by decide +kernel))
/-- data that repr shows, without dicts: whole numbers of at most 500 figures, texts of any signs -/
def okI (i : Int) : Bool := decide (i.natAbs < 10 ^ 200)
def okT (x : Str) : Bool := x.cps.toList.all fun c => decide (c < 16 ^ 8)
mutual
def okD : PyData → Bool
  | .none => true
  | .bool _ => true
  | .int i => okI i
  | .str x => okT x
  | .list xs => okL xs
  | .tuple xs => okL xs
  | .dict _ => false
def okL : List PyData → Bool
  | [] => true
  | x :: xs => okD x && okL xs
end
mutual
def szD : PyData → Nat
  | .none => 4
  | .bool _ => 5
  | .int _ => 1921
  | .str x => 10 * x.length + 2
  | .list xs => szL xs + 3
  | .tuple xs => szL xs + 3
  | .dict _ => 0
def szL : List PyData → Nat
  | [] => 0
  | x :: xs => szD x + 2 + szL xs
end
mutual
theorem okD_tells : ∀ d : PyData, okD d = true → d.hasDict = false ∧ d.showable = true ∧ d.shown.length ≤ szD d
  | .none, _ => ⟨rfl, rfl, Nat.le_refl _⟩
  | .bool b, _ => ⟨rfl, rfl, by cases b <;> decide⟩
  | .int i, h => by
    have h1 : i.natAbs < 10 ^ 200 := of_decide_eq_true (show decide (i.natAbs < 10 ^ 200) = true from h)
    exact ⟨rfl, decide_eq_true (log_of h1), int_text_len_1921 (log_of h1)⟩
  | .str x, h => by
    have h1 : ∀ c ∈ x.cps.toList, c < 16 ^ 8 := fun c hc => of_decide_eq_true (List.all_eq_true.mp h c hc)
    exact ⟨rfl, rfl, StrLaws.reprText_len x h1⟩
  | .list xs, h => by
    obtain ⟨h1, h2, h3⟩ := okL_tells xs h
    refine ⟨h1, h2, Nat.le_trans (listText_len_le (PyData.shownAll xs)) ?_⟩
    have e := PyData.shownAll_length xs
    show _ ≤ szL xs + 3
    omega
  | .tuple xs, h => by
    obtain ⟨h1, h2, h3⟩ := okL_tells xs h
    refine ⟨h1, h2, Nat.le_trans (tupleText_len_le (PyData.shownAll xs)) ?_⟩
    have e := PyData.shownAll_length xs
    show _ ≤ szL xs + 3
    omega
  | .dict _, h => by cases h
theorem okL_tells : ∀ xs : List PyData, okL xs = true → PyData.hasDictAll xs = false ∧ PyData.showableAll xs = true ∧ ((PyData.shownAll xs).map (·.length)).sum + 2 * xs.length ≤ szL xs
  | [], _ => ⟨rfl, rfl, Nat.le_refl _⟩
  | x :: xs, h => by
    obtain ⟨g1, g2⟩ := He.ba (show (okD x && okL xs) = true from h)
    obtain ⟨h1, h2, h3⟩ := okD_tells x g1
    obtain ⟨k1, k2, k3⟩ := okL_tells xs g2
    refine ⟨?_, ?_, ?_⟩
    · show (x.hasDict || PyData.hasDictAll xs) = false
      rw [h1, k1]
      rfl
    · show (x.showable && PyData.showableAll xs) = true
      rw [h2, k2]
      rfl
    · show (x.shown.length + ((PyData.shownAll xs).map (·.length)).sum) + 2 * (xs.length + 1) ≤ szD x + 2 + szL xs
      omega
end
/-- repr of a list, a tuple -/
theorem rr_data {K : PySem.W.Frag} {H : Hp} {a : Addr} {d : PyData} {Q : VK} (h : Dp K H (.ref a) d) (ho : okD d = true) (hz : szD d ≤ 16000000) (hd : d.depth ≤ 60) (q : Q (.str d.shown) H) : rRepr K [.ref a] H Q := by
  obtain ⟨h1, h2, h3⟩ := okD_tells d ho
  unfold rRepr
  exact ⟨a, d, rfl, h, h1, h2, hd, Nat.le_trans h3 (Nat.le_trans hz (by rw [sizeLine_eq]; decide)), q⟩
end L3
namespace L3
open PySem PySem.Spec PyProof.Rows L2
section
variable {K : PySem.W.Frag} {a : Addr} {xs : List V} {g : TG} {tt : TT} {te : TE} {vs : List Nat} {σ : L2.St} {H1 : Hp} {D : Addr} {Qd : Hp → Prop}
theorem small_len {n : Nat} (h : n ≤ 100000) : n < sizeLine := Nat.lt_of_le_of_lt h (by rw [sizeLine_eq]; decide)
abbrev Turn (g : TG) (tt : TT) (te : TE) (vs : List Nat) (σ : L2.St) (D : Addr) (x : V) (H : Hp) (N : Hp → Prop) : Prop :=
  g x (wipe σ vs) H fun σ2 H2 => wipe σ2 vs = wipe σ vs ∧ tt σ2 H2 fun b H3 => if b = true then te σ2 H3 fun y H4 => ∃ acc, H4 D = some (.lst acc) ∧ acc.length < sizeLine ∧ N (upd H4 D (.lst (acc ++ [y]))) else N H3
end
end L3
namespace L3
open PySem PySem.Spec PyProof.Rows L2
abbrev turns (most : Int) (n : Nat) : Int := if (if most < (n : Int) then most else (n : Int)) > (1 : Int) then (if most < (n : Int) then most else (n : Int)) else (1 : Int)
theorem turns_lo (most : Int) (n : Nat) (h : 0 < most ∧ most ≤ 63) : -(2 ^ 62) ≤ turns most n := by
  unfold turns
  split <;> split <;> omega
theorem turns_hi (most : Int) (n : Nat) (h : 0 < most ∧ most ≤ 63) : turns most n < 2 ^ 62 := by
  unfold turns
  split <;> split <;> omega
theorem turns_lt {i : Nat} (most : Int) (n : Nat) (h : 0 < most ∧ most ≤ 63) (hi : i < (turns most n).toNat) : i < 1000 := by
  unfold turns at hi
  split at hi <;> split at hi <;> omega
end L3
set_option Elab.async false
set_option linter.all false
set_option maxRecDepth 100000
set_option maxHeartbeats 4000000
namespace L3
open PySem PySem.Spec PyProof.Rows L2 TL
section
variable {J : It} {n : Nat} {G : Hp → Prop} {Y : Nat → Hp → V → Hp → Prop} {g : TG} {tt : TT} {te : TE} {vs : List Nat} {σ : L2.St} {H1 : Hp} {D : Addr} {Qd : Hp → Prop}
theorem range_fm_succ (fm : Nat → Option V) (i : Nat) : (List.range (i + 1)).filterMap fm = match fm i with
    | some y => (List.range i).filterMap fm ++ [y]
    | none => (List.range i).filterMap fm := by
  rw [List.range_succ, List.filterMap_append]
  cases e : fm i with
  | none => simp [e]
  | some y => simp [e]
theorem fm_len (fm : Nat → Option V) (i : Nat) : ((List.range i).filterMap fm).length ≤ i := by
  have := List.length_filterMap_le fm (List.range i)
  rwa [List.length_range] at this
theorem lc_fm (w : L2.Walk J n G Y) (fm : Nat → Option V) (I : Hp → Prop) (hI : ∀ H l, I H → I (upd H D (.lst l))) (i0 : I H1) (hn : n ≤ 100000) (hG : ∀ H, I H → G H)
    (hs : ∀ (i : Nat) (x : V) (H H' : Hp) (acc : List V) (N : Hp → Prop), i < n → I H → H D = some (.lst acc) → acc.length < sizeLine → Y i H x H' →
      (∀ H4, I H4 → H4 D = some (.lst acc) → match fm i with | some y => N (upd H4 D (.lst (acc ++ [y]))) | none => N H4) → Turn g tt te vs σ D x H' N)
    (hd : ∀ H, I H → H D = some (.lst ((List.range n).filterMap fm)) → Qd H) :
    ∃ W : Nat → Nat → Hp → Prop, (∃ m, W 0 m (upd H1 D (.lst []))) ∧ ∀ i m H, W i m H →
      (J.stop i H ∧ Qd H) ∨ (J.go i H ∧ ∃ Nx : Hp → Prop, (∀ H', Nx H' → ∃ m', m' < m ∧ W (i + 1) m' H') ∧ ∀ x H', J.yld i H x H' → Turn g tt te vs σ D x H' Nx) := by
  refine L2.lc_it w (fun i H => I H ∧ i ≤ n ∧ H D = some (.lst ((List.range i).filterMap fm))) ⟨hI _ _ i0, Nat.zero_le _, upd_same⟩ (fun i H _ p => hG H p.1) ?_ (fun H p => hd H p.1 p.2.2)
  rintro i x H H' hi ⟨p1, p2, p3⟩ y
  refine hs i x H H' _ _ hi p1 p3 (small_len (Nat.le_trans (fm_len fm i) (by omega))) y fun H4 i4 d4 => ?_
  have e := range_fm_succ fm i
  cases q : fm i with
  | none =>
    rw [q] at e
    exact ⟨i4, hi, by rw [e]; exact d4⟩
  | some y =>
    rw [q] at e
    exact ⟨hI _ _ i4, hi, by rw [upd_same, e]⟩
end
end L3
set_option Elab.async false
set_option linter.all false
set_option maxRecDepth 100000
set_option maxHeartbeats 4000000
namespace Mo
open PySem TL
def val (l : List Nat) : Nat := NumText.digitsVal l
def two (m : Nat) : List Nat := [48 + m / 10, 48 + m % 10]
def clk (m : Nat) : List Nat := numL (m % 1440 / 60) ++ 58 :: two (m % 60)
def shw (m : Nat) : List Nat := if m / 1440 = 0 then clk m else numL (m / 1440) ++ 32 :: clk m
theorem shw_len {m k : Nat} (hk : 0 < k) (h : m < 10 ^ k) : (shw m).length ≤ k + 8 := by
  have h1 : (numL (m % 1440 / 60)).length ≤ 2 := numL_len (by decide) (by omega)
  have h2 : (numL (m / 1440)).length ≤ k := numL_len hk (Nat.lt_of_le_of_lt (Nat.div_le_self _ _) h)
  unfold shw clk two
  split <;> simp <;> omega
end Mo
set_option Elab.async false
set_option linter.all false
set_option maxRecDepth 100000
set_option maxHeartbeats 4000000
namespace L3
open PySem PySem.Spec PyProof.Rows L2
def kitF (x y : Str) (b : Bool) : Fx := fun K => decide (PySem.W.kitOne K (.ref (He.ga K x)) (.ref (He.ga K y)) = some b)
def kitFT (x : Str) (y : String) (b : Bool) : Fx := fun K => decide (PySem.W.kitOne K (.ref (He.ga K x)) (.type y) = some b)
end L3
set_option Elab.async false
set_option linter.all false
set_option maxRecDepth 100000
set_option maxHeartbeats 4000000
namespace L3
open PySem PySem.Spec PyProof.Rows L2
def keyD : Key → PyData
  | .inl i => .int i
  | .inr x => .str x
def zipK : List (Key × V) → List PyData → List (PyData × PyData)
  | (k, _) :: r, d :: ds => (keyD k, d) :: zipK r ds
  | _, _ => []
inductive Dq (K : PySem.W.Frag) (H : Hp) : V → PyData → Prop
  | non : Dq K H .non .none
  | bl (b : Bool) : Dq K H (.bl b) (.bool b)
  | int (i : Int) : Dq K H (.int i) (.int i)
  | str (x : Str) : Dq K H (.str x) (.str x)
  | lst {a : Addr} {xs : List V} {ds : List PyData} : SqL K H a xs → xs.length = ds.length → (∀ (i : Nat) (x : V) (d : PyData), xs[i]? = some x → ds[i]? = some d → Dq K H x d) → Dq K H (.ref a) (.list ds)
  | tup {a : Addr} {xs : List V} {ds : List PyData} : SqT K H a xs → xs.length = ds.length → (∀ (i : Nat) (x : V) (d : PyData), xs[i]? = some x → ds[i]? = some d → Dq K H x d) → Dq K H (.ref a) (.tuple ds)
  | dct {a : Addr} {kvs : List (Key × V)} {ds : List PyData} : H a = some (.dK kvs) → kvs.length = ds.length → (∀ (i : Nat) (k : Key) (x : V) (d : PyData), kvs[i]? = some (k, x) → ds[i]? = some d → Dq K H x d) → Dq K H (.ref a) (.dict (zipK kvs ds))
theorem Dq.mono {K : PySem.W.Frag} {H H' : Hp} {x : V} {d : PyData} (e : Ex H H') (h : Dq K H x d) : Dq K H' x d := by
  induction h with
  | non => exact .non
  | bl b => exact .bl b
  | int i => exact .int i
  | str x => exact .str x
  | lst s l _ ih => exact .lst (ex_sql e s) l ih
  | tup s l _ ih => exact .tup (ex_sqt e s) l ih
  | dct s l _ ih => exact .dct (e _ _ s) l ih
theorem all_reads {h : Heap} : ∀ (xs : List V) (ds : List PyData) (us : List Value), xs.length = ds.length → Vals xs us → (∀ (i : Nat) (x : V) (d : PyData), xs[i]? = some x → ds[i]? = some d → ∀ u, RelV x u → ∃ as, Reads h u d as ∧ sysModules ∉ as) → ∃ as, ReadsAll h us ds as ∧ sysModules ∉ as
  | [], [], _, _, r, _ => by
    cases r
    exact ⟨_, .nil, by simp⟩
  | x :: xs, d :: ds, _, l, r, h => by
    cases r with
    | cons r1 r2 =>
      obtain ⟨as, q1, n1⟩ := h 0 x d rfl rfl _ r1
      obtain ⟨bs, q2, n2⟩ := all_reads xs ds _ (by simpa using l) r2 fun i y e h1 h2 => h (i + 1) y e (by simpa using h1) (by simpa using h2)
      refine ⟨_, .cons q1 q2, fun z => ?_⟩
      rcases List.mem_append.mp z with z | z
      · exact n1 z
      · exact n2 z
theorem key_reads {h : Heap} {k : Key} {v : Value} (e : keyIs k v = true) : Reads h v (keyD k) [] := by
  rcases keyIs_shape e with ⟨i, t, rfl, rfl⟩ | ⟨x, t, rfl, rfl⟩
  · exact .int i t
  · exact .str x t
theorem kv_reads {P : Program} {w : World} {h : Heap} : ∀ (kvs : List (Key × V)) (ds : List PyData) (es : List DictEntry) (vs : List (Key × Value)), kvs.length = ds.length → KV kvs vs → Pairs (mixKind P w) es vs →
    (∀ (i : Nat) (k : Key) (x : V) (d : PyData), kvs[i]? = some (k, x) → ds[i]? = some d → ∀ u, RelV x u → ∃ as, Reads h u d as ∧ sysModules ∉ as) →
    ReadsAll h (es.map (·.key)) ((zipK kvs ds).map (·.1)) [] ∧ ∃ bs, ReadsAll h (es.map (·.val)) ((zipK kvs ds).map (·.2)) bs ∧ sysModules ∉ bs
  | [], [], es, vs, _, r, p, _ => by
    cases r
    cases p
    exact ⟨.nil, _, .nil, by simp⟩
  | (k, x) :: kvs, d :: ds, es, vs, l, r, p, h => by
    cases r with
    | cons r1 r2 =>
      cases p with
      | cons p1 p2 p3 =>
        obtain ⟨as, q1, n1⟩ := h 0 k x d rfl rfl _ r1.2
        obtain ⟨h1, bs, q2, n2⟩ := kv_reads kvs ds _ _ (by simpa using l) r2 p3 fun i k' y e h1 h2 => h (i + 1) k' y e (by simpa using h1) (by simpa using h2)
        refine ⟨ReadsAll.cons (as := []) (bs := []) (key_reads (by have e : k = _ := r1.1; subst e; exact p1)) h1, as ++ bs, ReadsAll.cons (by rw [← p2] at q1; exact q1) q2, fun z => ?_⟩
        rcases List.mem_append.mp z with z | z
        · exact n1 z
        · exact n2 z
/-- the part that is written holds sys.modules: a dict -/
def SysK (K : PySem.W.Frag) : Prop := ∃ o, K.lookup sysModules = some o ∧ o.cls = .type "dict"
def sysB : Fx := fun K => match K.lookup sysModules with
  | some o => match o.cls with
    | .type n => n == "dict"
    | _ => false
  | none => false
theorem sys_of {K : PySem.W.Frag} (h : sysB K = true) : SysK K := by
  unfold sysB at h
  split at h
  · rename_i o e
    split at h
    · rename_i n c
      have : n = "dict" := by simpa using h
      exact ⟨o, e, by rw [c, this]⟩
    · cases h
  · cases h
theorem Dq.reads {X : Cx} {pins : List (Addr × Obj)} {σ : L2.St} {H : Hp} {s : Shared} (I : Inv X pins σ H s) (S : SysK X.K) {x : V} {d : PyData} (h : Dq X.K H x d) : ∀ u, RelV x u → ∃ as, Reads s.heap u d as ∧ sysModules ∉ as := by
  obtain ⟨o1, k1, c1⟩ := S
  have g1 := I.kIn _ _ k1
  induction h with
  | non =>
    intro u r
    cases r
    exact ⟨_, .none, by simp⟩
  | bl b =>
    intro u r
    cases r
    exact ⟨_, .bool b, by simp⟩
  | int i =>
    rintro u ⟨t, rfl⟩
    exact ⟨_, .int i t, by simp⟩
  | str x =>
    rintro u ⟨t, rfl⟩
    exact ⟨_, .str x t, by simp⟩
  | @lst a xs ds hs l _ ih =>
    intro u r
    cases r
    obtain ⟨its, rv, ⟨o, n, ho, hc, _, hd⟩, _⟩ := I.list hs
    obtain ⟨as, hr, hn⟩ := all_reads xs ds its l rv ih
    refine ⟨_, .list ho hc hd hr, fun z => ?_⟩
    rcases List.mem_cons.mp z with z | z
    · rw [← z, g1] at ho
      cases ho
      rw [c1] at hc
      injection hc with z2
      exact absurd z2 (by decide)
    · exact hn z
  | @tup a xs ds hs l _ ih =>
    intro u r
    cases r
    obtain ⟨its, rv, ⟨o, ho, hc, n, hd⟩, _⟩ := I.tuple hs
    obtain ⟨as, hr, hn⟩ := all_reads xs ds its l rv ih
    exact ⟨_, .tuple ho hc hd hr, hn⟩
  | @dct a kvs ds hs l _ ih =>
    intro u r
    cases r
    obtain ⟨_, ns, vs, rk, o, es, ep, ho, ⟨hc, _, _⟩, hd, _, hp, _⟩ := dk_of I.hok hs
    obtain ⟨h1, bs, h2, hn⟩ := kv_reads kvs ds es.toList vs l rk hp ih
    refine ⟨_, .dict ho hc hd h1 h2, fun z => ?_⟩
    rcases List.mem_cons.mp z with z | z
    · rw [← z] at ns
      simp at ns
    · exact hn (by simpa using z)
end L3
set_option Elab.async false
set_option linter.all false
set_option maxRecDepth 100000
set_option maxHeartbeats 4000000
namespace L3
open PySem PySem.Spec PyProof.Rows L2
theorem Rm.in1 {k : Nat} {A : Around} (r : Rm (k + 1) A) : Rm k A.in1 := ⟨r.rm.in1, r.gd⟩
section
variable {X : Cx} {k : Nat} {f C : Addr} {ks : List Str} {sp : Sp} {W : WX} {x m : Str} {p pos apos : Pos} {e o : Expr} {es : List Expr} {kws : List Keyword} {ta : TE} {t tk : TA}
/-- a def that runs somewhere below the body -/
theorem run_fcA {A : Around} {pins : List (Addr × Obj)} {σ : L2.St} {H : Hp} {s : Shared} {Q : VK} {us ws : List Value} {vs : List V} (F : Fc X.prog X.w X.K X.mg X.base k f ks sp) (hr : Rm k A) (hf : A.frames = X.A.frames) (hx : Takes X W)
    (I : Inv X pins σ H s) (r : Vals vs (us ++ ws)) (hl : ws.length = ks.length) (h : sp vs H Q (WE W σ)) : wpAny (model X.prog X.w) A (call (.ref f) us (ks.zip ws)) (EP X pins σ Q) X.xe s := by
  have e0 : Env0 X.prog X.w X.K X.mg X.base A X.stack s H := by
    have e := I.env0
    exact ⟨by rw [hf]; exact e.frames, e.mod, e.bs, e.bsz, e.funs, e.frf, e.hok, e.bare⟩
  refine wpAny_call (codeAny_mono (F A X.stack s H us ws vs Q (WE W σ) hr e0 r hl h) fun r s' hq => ?_)
  cases r with
  | error e => exact passAt hx σ pins H s e s' I hq
  | ok fl =>
    cases fl with
    | ret u => exact I.after hq
    | next => exact False.elim hq
    | brk => exact False.elim hq
    | cont => exact False.elim hq
/-- o.m(e, ..) of an instance of the class at C -/
def tMt (C : Addr) (m : Str) (sp : Sp) (W : WX) (ta : TE) (t : TA) : TE := fun σ H Q => ta σ H fun x H1 => ∃ a dx fs, x = .ref a ∧ H1 a = some (.ins C dx fs) ∧ fs.lookup m = none ∧ t σ H1 fun vs H2 => sp (x :: vs) H2 Q (WE W σ)
theorem c_meth0 {pl : Sem Bool} (he : PE X o ta) (c : Cls X.K C) (hm : Meth X.K C m f) (F : Fc X.prog X.w X.K X.mg X.base k f [] sp) (hr : Rm k X.A) (hx : Takes X W)
    (ht : eval (.Call (.Attribute o m apos) [] [] pos) X.env = (do
      let ov ← eval o X.env
      standAt apos.atName
      let (f, first) ← holding [ov] (getMethod ov m pl)
      callWith pos f first (backTo pos (starEach [] X.env)) (backToKw pos (keywordEach [] X.env))) := by rfl) :
    PE X (.Call (.Attribute o m apos) [] [] pos) (tMt C m sp W ta tNil) := by
  refine ⟨fun pins s σ H Q I h => ?_⟩
  refine PySem.W.methodCall_KW (pl := pl) (thn (he.run pins s σ H _ I h) fun u s1 ⟨x, H1, I1, rx, a, dx, fs, ex, ea, l, q⟩ => ?_) ht
  subst ex
  obtain rfl : u = Value.ref a := rx
  refine getmeth_ok I1 ea c hm l ?_
  exact PySem.W.callWith_K0 (first := [.ref a]) I1.kIn hm.kp (run_fc (us := [.ref a]) (ws := []) (vs := [.ref a]) F hr hx I1 (.cons rfl .nil) rfl q)
theorem run_mk {pins : List (Addr × Obj)} {σ : L2.St} {H : Hp} {s : Shared} {Q : VK} {us ws : List Value} {vs : List V} (M : Mk X.K C f) (F : Fc X.prog X.w X.K X.mg X.base k f ks sp) (hr : Rm (k + 1) X.A) (hx : Takes X W)
    (I : Inv X pins σ H s) (r : Vals vs (us ++ ws)) (hl : ws.length = ks.length)
    (h : ∀ x dx, H x = none → H dx = none → dx ≠ x → sp (.ref x :: vs) (upd (upd H dx (.own x)) x (.ins C dx [])) (fun v H2 => v = .non ∧ Q (.ref x) H2) (WE W σ)) :
    wpAny (model X.prog X.w) X.A (call (.ref C) us (ks.zip ws)) (EP X pins σ Q) X.xe s := by
  have hq := h (s.heap.objs.size + 1) s.heap.objs.size (I.hok.fresh (Nat.le_succ _)) (I.hok.fresh (Nat.le_refl _)) (Nat.ne_of_lt (Nat.lt_succ_self _))
  have I2 := Inv.made (C := C) I
  refine wpAny_call (make_map (f := f) I.kIn M.makes M.init (beq_iff_eq.mp M.fn) (codeAny_mono (F _ X.stack _ _ (Value.ref (s.heap.objs.size + 1) :: us) ws (V.ref (s.heap.objs.size + 1) :: vs) _ (WE W σ) (hr.make C us (ks.zip ws))
    (I2.env0.make C us (ks.zip ws)) (.cons rfl r) hl hq) fun r s' hq' => ?_))
  cases r with
  | error e => exact passAt hx σ pins _ _ e s' I2 hq'
  | ok fl =>
    cases fl with
    | ret u =>
      obtain ⟨v, H', I3, rv, ev, q3⟩ := I2.after hq'
      subst ev
      exact ⟨rv, ⟨V.ref (s.heap.objs.size + 1), H', I3, rfl, q3⟩⟩
    | next => exact False.elim hq'
    | brk => exact False.elim hq'
    | cont => exact False.elim hq'
def tMk (C : Addr) (sp : Sp) (W : WX) (t : TA) : TE := fun σ H Q => t σ H fun vs H1 => ∀ x dx, H1 x = none → H1 dx = none → dx ≠ x →
  sp (.ref x :: vs) (upd (upd H1 dx (.own x)) x (.ins C dx [])) (fun v H2 => v = .non ∧ Q (.ref x) H2) (WE W σ)
theorem c_make (M : Mk X.K C f) (F : Fc X.prog X.w X.K X.mg X.base k f [] sp) (hr : Rm (k + 1) X.A) (hm : X.mg x = some (.ref C)) (hx : Takes X W)
    (ha : PA X (e :: es) t) (hg : Gl X x := by rfl) (hdb : (x == ("__debug__" : Str)) = false := by decide) (he : starEach (e :: es) X.env = (false, eval e X.env) :: starEach es X.env := by rfl) (hpl : (backTo pos (starEach es X.env)).any (·.1) = false := by rfl) :
    PE X (.Call (.Name x p) (e :: es) [] pos) (tMk C sp W t) := by
  refine ⟨fun pins s σ H Q I h => ?_⟩
  refine wpAny_Call_Name_kw (ld_glob I hg hm ?_ hdb)
  refine PySem.W.callWith_K (h₀ := X.base) I.ok.mod.kin M.kp (thn (ha.run pos pins s σ H _ I h) fun us s1 ⟨vs, H1, I1, r, q⟩ => ⟨I1.kIn, ?_⟩) he hpl
  exact run_mk (ws := []) M F hr hx I1 (by rw [List.append_nil]; exact r) rfl q
/-- xs is one instance of C; the promise of its method, at it -/
def rOwn (C : Addr) (sp : Sp) (G : V → Prop) : List V → Hp → VK → Prop := fun xs H Q => ∃ a dx fs, xs = [.ref a] ∧ H a = some (.ins C dx fs) ∧ sp [.ref a] H (fun v H' => G v ∧ Q v H') (fun _ _ _ => False)
def isLen : V → Prop
  | .int n => 0 ≤ n ∧ n < 2 ^ 63
  | _ => False
def isTxt : V → Prop
  | .str _ => True
  | _ => False
end
section
variable {X : Cx} {k : Nat} {f C : Addr} {sp : Sp}
theorem call_lenO (hm : Meth X.K C "__len__" f) (F : Fc X.prog X.w X.K X.mg X.base k f [] sp) (hr : Rm (k + 1) X.A) :
    CallR X (.builtin "len") (rOwn C sp isLen) := by
  intro pins s σ H xs us Q I r h
  obtain ⟨a, dx, fs, rfl, ha, hsp⟩ := h
  obtain ⟨u, rfl, ru⟩ := vals1 r
  obtain rfl : u = Value.ref a := ru
  obtain ⟨mA, J, _⟩ := ins_get I.hok ha
  obtain ⟨od, J, _⟩ := J.look
  refine Calls.call_function_entry kind_len plain_len entry_len (args_len1 _) ?_
  unfold Builtin.«len»
  refine wpAny_bind (m := oneArg "len" _) (wpAny_pure ?_)
  have run := run_fcA (A := X.A.in1) (W := fun _ _ _ _ => False) (us := [.ref a]) (ws := []) (vs := [.ref a]) (σ := σ) F hr.in1 rfl takes0 I (.cons rfl .nil) rfl hsp
  refine wpAny_bind (m := callSpecial? (.ref a) (Str.ofString "__len__")) (PySem.W.special_fn I.kIn J hm.at_ (beq_iff_eq.mp hm.fn) (wpAny_mono run (fun v s' hv => ?_) fun _ _ y => y))
  obtain ⟨z, H', I', rz, gz, q⟩ := hv
  cases z with
  | int n =>
    obtain ⟨t, rfl⟩ := rz
    obtain ⟨h0, h1⟩ : 0 ≤ n ∧ n < 2 ^ 63 := gz
    refine wpAny_bind (wpAny_holding (wpAny_pure ?_))
    refine wpAny_bind (wpAny_letGo ?_)
    show wpAny _ _ (if n < 0 then _ else _) _ _ _
    rw [if_neg (by omega)]
    show wpAny _ _ (if n ≥ 2 ^ 63 then _ else _) _ _ _
    rw [if_neg (by omega)]
    exact wpAny_bind (wpAny_mkInt (wpAny_pure ⟨_, rfl, ⟨.int n, H', I'.tok _, ⟨_, rfl⟩, q⟩⟩))
  | _ => exact gz.elim
theorem call_strO (hm : Meth X.K C "__str__" f) (F : Fc X.prog X.w X.K X.mg X.base k f [] sp) (hr : Rm (k + 2) X.A) :
    CallR X (.type "str") (rOwn C sp isTxt) := by
  intro pins s σ H xs us Q I r h
  obtain ⟨a, dx, fs, rfl, ha, hsp⟩ := h
  obtain ⟨u, rfl, ru⟩ := vals1 r
  obtain rfl : u = Value.ref a := ru
  obtain ⟨mA, J, _⟩ := ins_get I.hok ha
  obtain ⟨od, J, _⟩ := J.look
  have run := run_fcA (A := X.A.in1.in1) (W := fun _ _ _ _ => False) (us := [.ref a]) (ws := []) (vs := [.ref a]) (σ := σ) F hr.in1.in1 rfl takes0 I (.cons rfl .nil) rfl hsp
  refine PySem.W.kso_call (by have := hr.in1.in1.rm.un; omega) I.kIn J hm.at_ hm.fn (wpAny_mono run (fun v s' hv => ?_) fun _ _ y => y)
  obtain ⟨z, H', I', rz, gz, q⟩ := hv
  cases z with
  | str y =>
    obtain ⟨t, rfl⟩ := rz
    exact ⟨.str y, H', I', ⟨t, rfl⟩, q⟩
  | _ => exact gz.elim
end
structure InsC (K : PySem.W.Frag) (C : Addr) : Prop where
  ha : PySem.W.findIn K (.ref C) "__class__" = some (some (.builtin "object.__class__"))
  hn : PySem.W.specialIn K (.builtin "object.__class__") "__get__" = some (some (.builtin "getset_descriptor.__get__"))
  ht : PySem.W.takesIn K (.builtin "object.__class__") = some true
  hm : PySem.W.mroIn K C (.type "object") = some true
def insB (x : Str) : Fx := fun K => He.eqO (PySem.W.findIn K (.ref (He.ga K x)) "__class__") (some (some (.builtin "object.__class__"))) && (He.eqO (PySem.W.specialIn K (.builtin "object.__class__") "__get__") (some (some (.builtin "getset_descriptor.__get__"))) &&
  (decide (PySem.W.takesIn K (.builtin "object.__class__") = some true) && decide (PySem.W.mroIn K (He.ga K x) (.type "object") = some true)))
theorem insC_of {x : Str} {K : PySem.W.Frag} (h : insB x K = true) : InsC K (He.ga K x) := by
  obtain ⟨h1, h⟩ := He.ba h
  obtain ⟨h2, h⟩ := He.ba h
  obtain ⟨h3, h4⟩ := He.ba h
  exact ⟨He.eqO_ok h1, He.eqO_ok h2, of_decide_eq_true h3, of_decide_eq_true h4⟩
theorem ty_ins {K : PySem.W.Frag} {H : Hp} {a C dx : Addr} {fs : List (Str × V)} (i : InsC K C) (c : Cls K C) (e : H a = some (.ins C dx fs)) : TyX K H (.ref a) (.ref C) := .base (.ins e c i.ha i.hn i.ht i.hm)
def kitBF (y : String) (x : Str) (b : Bool) : Fx := fun K => decide (PySem.W.kitOne K (.type y) (.ref (He.ga K x)) = some b)
section
variable {X : Cx} {K : PySem.W.Frag}
theorem ix_tupK (K : PySem.W.Frag) (h : X.K = K := by rfl) : IxR X (rIxT K) := h ▸ ix_tup
theorem pe_fldK (K : PySem.W.Frag) {e : Expr} {f : Str} {pos : Pos} {ta : TE} (he : PE X e ta) (hb : attributeBase e f X.env (eval e X.env) = eval e X.env) (h : X.K = K := by rfl) : PE X (.Attribute e f pos) (tFld K ta f) := h ▸ pe_fld he hb
end
end L3
set_option Elab.async false
set_option linter.all false
set_option maxRecDepth 100000
set_option maxHeartbeats 4000000
namespace L3
open PySem PySem.Spec PyProof.Rows L2
section
variable {J : It} {n : Nat} {G : Hp → Prop} {Y : Nat → Hp → V → Hp → Prop} {g : TG} {tt : TT} {te : TE} {vs : List Nat} {σ : L2.St} {H1 : Hp} {D : Addr} {Qd : Hp → Prop}
theorem lc_any (w : L2.Walk J n G Y) (I : Nat → List V → Hp → Prop) (hI : ∀ i acc H l, I i acc H → I i acc (upd H D (.lst l))) (i0 : I 0 [] H1) (hn : n ≤ 100000) (hl : ∀ i acc H, I i acc H → acc.length ≤ i) (hG : ∀ i acc H, I i acc H → G H)
    (hs : ∀ (i : Nat) (x : V) (H H' : Hp) (acc : List V) (N : Hp → Prop), i < n → I i acc H → H D = some (.lst acc) → acc.length < sizeLine → Y i H x H' →
      (∀ y H4, H4 D = some (.lst acc) → I (i + 1) (acc ++ [y]) H4 → N (upd H4 D (.lst (acc ++ [y])))) → (∀ H4, H4 D = some (.lst acc) → I (i + 1) acc H4 → N H4) → Turn g tt te vs σ D x H' N)
    (hd : ∀ acc H, I n acc H → H D = some (.lst acc) → Qd H) :
    ∃ W : Nat → Nat → Hp → Prop, (∃ m, W 0 m (upd H1 D (.lst []))) ∧ ∀ i m H, W i m H →
      (J.stop i H ∧ Qd H) ∨ (J.go i H ∧ ∃ Nx : Hp → Prop, (∀ H', Nx H' → ∃ m', m' < m ∧ W (i + 1) m' H') ∧ ∀ x H', J.yld i H x H' → Turn g tt te vs σ D x H' Nx) := by
  refine L2.lc_it w (fun i H => i ≤ n ∧ ∃ acc, I i acc H ∧ H D = some (.lst acc)) ⟨Nat.zero_le _, [], hI _ _ _ _ i0, upd_same⟩ (fun i H _ p => ?_) ?_ (fun H p => ?_)
  · obtain ⟨_, acc, p, _⟩ := p
    exact hG i acc H p
  · rintro i x H H' hi ⟨p1, acc, p2, p3⟩ y
    have := hl _ _ _ p2
    refine hs i x H H' acc _ hi p2 p3 (small_len (by omega)) y (fun y H4 d4 i4 => ⟨hi, _, hI _ _ _ _ i4, upd_same⟩) fun H4 d4 i4 => ⟨hi, _, i4, d4⟩
  · obtain ⟨_, acc, p, d⟩ := p
    exact hd acc H p d
end
end L3
set_option Elab.async false
set_option linter.all false
set_option maxRecDepth 100000
set_option maxHeartbeats 4000000
namespace L3
open PySem PySem.Spec PyProof.Rows L2
/-- the numbers in order -/
def srt (ns : List Int) : List Int := ns.mergeSort (fun a b => decide (a ≤ b))
section
variable {X : Cx} {K : PySem.W.Frag}
theorem pg_tupK (K : PySem.W.Frag) {es : List Expr} {k : Nat} {t : TGs} {n : Nat} {pos : Pos} (hc : X.calm = true) (h : PGs X es t)
    (hn : (assignEach es X.env).length = n := by rfl) (hst : (assignEach es X.env).findIdx? (·.1) = none := by rfl) (hK : X.K = K := by rfl) : PG X (.Tuple es k pos) (gTup K n t) := hK ▸ pg_tup hc h hn hst
theorem walk_zipT {a b : Addr} {xs ys : List V} {n : Nat} (hn : n = min xs.length ys.length) : L2.Walk (RZ.ItzT K a b) n (fun H => SqT K H a xs ∧ SqT K H b ys) (L2.YPair (fun i => xs[i]?) (fun i => ys[i]?)) := by
  subst hn
  refine ⟨fun i _ hi q => ?_, fun _ q => ⟨xs, ys, q.1, q.2, by omega⟩, fun i H v H' _ q y => ?_⟩
  · have h1 : i < xs.length := by omega
    have h2 : i < ys.length := by omega
    exact ⟨xs, ys, xs[i], ys[i], q.1, q.2, by simp [h1], by simp [h2]⟩
  · obtain ⟨T, x, z, h1, h2, h3, h4, h5⟩ := y
    exact ⟨T, x, z, h1, h2, h3, h4 xs q.1, h5 ys q.2⟩
end
end L3
set_option Elab.async false
set_option linter.all false
set_option maxRecDepth 100000
set_option maxHeartbeats 4000000
namespace L3
open PySem PySem.Spec PyProof.Rows L2
end L3
set_option Elab.async false
set_option linter.all false
set_option maxRecDepth 100000
set_option maxHeartbeats 4000000
namespace L3
open PySem PySem.Spec PyProof.Rows L2
end L3
set_option Elab.async false
set_option linter.all false
set_option maxRecDepth 100000
set_option maxHeartbeats 4000000
namespace L3
open PySem PySem.Spec PyProof.Rows L2
theorem range_fm {α β : Type} (g : α → Option β) : ∀ l : List α, (List.range l.length).filterMap (fun i => l[i]?.bind g) = l.filterMap g
  | [] => rfl
  | x :: l => by
    rw [List.length_cons, List.range_succ_eq_map, List.filterMap_cons, List.filterMap_map, List.filterMap_cons]
    have ih := range_fm g l
    have e : ((fun i => (x :: l)[i]?.bind g) ∘ Nat.succ) = fun i => l[i]?.bind g := funext fun i => by simp
    rw [e, ih]
    simp
section
variable {J : It} {G : Hp → Prop} {g : TG} {tt : TT} {te : TE} {vs : List Nat} {σ : L2.St} {H1 : Hp} {D : Addr} {Qd : Hp → Prop}
/-- a comprehension over xs (told as values by v), each of which gives gm x, or nothing -/
theorem lc_on {α : Type} (xs : List α) (v : α → V) (w : L2.Walk J (xs.map v).length G (L2.YAt (xs.map v))) (gm : α → Option V) (I : Hp → Prop) (hI : ∀ H l, I H → I (upd H D (.lst l))) (i0 : I H1) (hn : xs.length ≤ 100000) (hG : ∀ H, I H → G H)
    (hs : ∀ (i : Nat) (x : α) (H : Hp) (acc : List V) (N : Hp → Prop), xs[i]? = some x → I H → H D = some (.lst acc) → acc.length < sizeLine →
      (∀ H4, I H4 → H4 D = some (.lst acc) → match gm x with | some y => N (upd H4 D (.lst (acc ++ [y]))) | none => N H4) → Turn g tt te vs σ D (v x) H N)
    (hd : ∀ H, I H → H D = some (.lst (xs.filterMap gm)) → Qd H) :
    ∃ W : Nat → Nat → Hp → Prop, (∃ m, W 0 m (upd H1 D (.lst []))) ∧ ∀ i m H, W i m H →
      (J.stop i H ∧ Qd H) ∨ (J.go i H ∧ ∃ Nx : Hp → Prop, (∀ H', Nx H' → ∃ m', m' < m ∧ W (i + 1) m' H') ∧ ∀ x H', J.yld i H x H' → Turn g tt te vs σ D x H' Nx) := by
  refine lc_fm w (fun i => xs[i]?.bind gm) I hI i0 (by rw [List.length_map]; exact hn) hG (fun i x H H' acc N hi p hD la y k => ?_) fun H p hD => hd H p ?_
  · obtain ⟨rfl, hx⟩ := y
    rw [List.getElem?_map] at hx
    obtain ⟨z, hz, rfl⟩ := Option.map_eq_some_iff.mp hx
    refine hs i z _ acc N hz p hD la fun H4 p4 d4 => ?_
    have := k H4 p4 d4
    simp only [hz, Option.bind_some] at this
    exact this
  · rw [hD, List.length_map, range_fm]
end
section
variable {J : It} {G : Hp → Prop} {g : TG} {tb : TS} {D : Ends} {σ : L2.St} {H : Hp}
/-- a for over xs (told as values by v) -/
theorem for_on {α : Type} (xs : List α) (v : α → V) (w : L2.Walk J (xs.map v).length G (L2.YAt (xs.map v))) (Pv : Nat → L2.St → Hp → Prop) (h0 : Pv 0 σ H) (hG : ∀ i σ H, Pv i σ H → G H)
    (hs : ∀ (i : Nat) (x : α) (σ : L2.St) (H : Hp), xs[i]? = some x → Pv i σ H → g (v x) σ H fun σ2 H2 => tb { D with nx := Pv (i + 1), ct := Pv (i + 1), bk := D.nx } σ2 H2) (hd : ∀ σ H, Pv xs.length σ H → D.nx σ H) :
    ∃ W : Nat → Nat → L2.St → Hp → Prop, (∃ m, W 0 m σ H) ∧ ∀ i m σ H, W i m σ H →
      (J.stop i H ∧ D.nx σ H) ∨ (J.go i H ∧ ∃ N : L2.St → Hp → Prop, (∀ σ' H', N σ' H' → ∃ m', m' < m ∧ W (i + 1) m' σ' H') ∧ ∀ x H', J.yld i H x H' → g x σ H' fun σ2 H2 => tb { D with nx := N, ct := N, bk := D.nx } σ2 H2) := by
  refine L2.for_it w Pv h0 (fun i σ H _ p => hG i σ H p) (fun i x σ H H' hi p y => ?_) (fun σ H p => hd σ H (by rw [List.length_map] at p; exact p))
  obtain ⟨rfl, hx⟩ := y
  rw [List.getElem?_map] at hx
  obtain ⟨z, hz, rfl⟩ := Option.map_eq_some_iff.mp hx
  exact hs i z σ _ hz p
end
theorem take_snoc {α : Type} {l : List α} {i : Nat} {x : α} (h : l[i]? = some x) : l.take (i + 1) = l.take i ++ [x] := by
  rw [List.take_add_one, h]
  rfl
/-- what stands elsewhere than at f stays -/
def Oth (f : Addr) (H H' : Hp) : Prop := ∀ b o, b ≠ f → H b = some o → H' b = some o
theorem Oth.refl (f : Addr) (H : Hp) : Oth f H H := fun _ _ _ e => e
theorem Oth.trans {f : Addr} {H H1 H2 : Hp} (a : Oth f H H1) (b : Oth f H1 H2) : Oth f H H2 := fun c o h e => b c o h (a c o h e)
theorem ex_oth {f : Addr} {H H1 : Hp} (a : Ex H H1) : Oth f H H1 := fun c o _ e => a c o e
theorem Oth.upd {f : Addr} {H H1 : Hp} {o : HO} (a : Oth f H H1) : Oth f H (L2.upd H1 f o) := fun b u nb e => by rw [upd_ne nb]; exact a b u nb e
theorem Oth.ex {f : Addr} {H0 H H1 : Hp} (x : Ex H0 H) (n : H0 f = none) (a : Oth f H H1) : Ex H0 H1 := fun b o e => a b o (ne_of_none e n) (x b o e)
theorem sz_le {n : Nat} (h : n ≤ 100000) : n ≤ sizeLine := Nat.le_of_lt (small_len h)
end L3
set_option Elab.async false
set_option linter.all false
set_option maxRecDepth 100000
set_option maxHeartbeats 4000000
namespace L3
open PySem PySem.Spec PyProof.Rows L2
theorem slA_of {K : PySem.W.Frag} {H : Hp} {a : Addr} {xs : List V} {lo hi : Option Int} {Q : VK} (ha : SqT K H a xs) (q : ∀ p H', Ex H H' → SqT K H' p (cutV xs lo hi) → Q (.ref p) H') : rSlA K (.ref a) lo hi H Q := by
  refine ⟨a, xs, rfl, ha, fun hw => q a H (.refl _) ?_, fun _ p np => q p _ (ex_new np) (sq_tup upd_same)⟩
  have e : cutV xs lo hi = xs := by
    unfold cutV
    rw [hw.1, hw.2]
    simp
  rw [e]
  exact ha
theorem tyOf_mono {K : PySem.W.Frag} {H H' : Hp} {x : V} {t : Value} (e : Ex H H') (h : TyOf K H x t) : TyOf K H' x t := by
  cases h with
  | non => exact .non
  | bl x => exact .bl x
  | int i => exact .int i
  | str x => exact .str x
  | flt x => exact .flt x
  | lst h => exact .lst (e _ _ h)
  | frz h => exact .frz (e _ _ h)
  | tup h => exact .tup (e _ _ h)
  | dK h => exact .dK (e _ _ h)
  | dT h => exact .dT (e _ _ h)
  | ins h cl ha hn htk hm => exact .ins (e _ _ h) cl ha hn htk hm
theorem tyX_mono {K : PySem.W.Frag} {H H' : Hp} {x : V} {t : Value} (e : Ex H H') (h : TyX K H x t) : TyX K H' x t := by
  cases h with
  | base h => exact .base (tyOf_mono e h)
  | byt b => exact .byt b
  | set h => exact .set (e _ _ h)
  | kList h c => exact .kList h c
  | kTuple h c => exact .kTuple h c
  | kDict h c => exact .kDict h c
  | fTuple h => exact .fTuple (e _ _ h)
  | fDict h => exact .fDict (e _ _ h)
theorem Cl.mono {K : PySem.W.Frag} {H H' : Hp} {x : V} (c : Cl K H x) (e : Ex H H') : Cl K H' x := let ⟨t, b, d, h1, h2⟩ := c; ⟨t, b, d, tyX_mono e h1, h2⟩
section
variable {J : It} {n : Nat} {G : Hp → Prop} {g : TG} {tt : TT} {te : TE} {vs : List Nat} {σ : L2.St} {H1 : Hp} {D : Addr} {Qd : Hp → Prop}
/-- a comprehension over pairs of xs and ys -/
theorem lc_zip {α β : Type} (xs : List α) (ys : List β) (v : α → V) (w : β → V) (wk : L2.Walk J n G (L2.YPair (fun i => (xs.map v)[i]?) (fun i => (ys.map w)[i]?))) (hn : n = min xs.length ys.length) (gm : α → β → Option V) (I : Hp → Prop) (hI : ∀ H l, I H → I (upd H D (.lst l))) (i0 : I H1) (hz : xs.length ≤ 100000) (hG : ∀ H, I H → G H)
    (hs : ∀ (i : Nat) (a : α) (b : β) (u : Addr) (H : Hp) (acc : List V) (N : Hp → Prop), xs[i]? = some a → ys[i]? = some b → I H → H u = none → H D = some (.lst acc) → acc.length < sizeLine →
      (∀ H4, I H4 → H4 D = some (.lst acc) → match gm a b with | some y => N (upd H4 D (.lst (acc ++ [y]))) | none => N H4) → Turn g tt te vs σ D (.ref u) (upd H u (.tup [v a, w b])) N)
    (hd : ∀ H, I H → H D = some (.lst ((xs.zip ys).filterMap fun p => gm p.1 p.2)) → Qd H) :
    ∃ W : Nat → Nat → Hp → Prop, (∃ m, W 0 m (upd H1 D (.lst []))) ∧ ∀ i m H, W i m H →
      (J.stop i H ∧ Qd H) ∨ (J.go i H ∧ ∃ Nx : Hp → Prop, (∀ H', Nx H' → ∃ m', m' < m ∧ W (i + 1) m' H') ∧ ∀ x H', J.yld i H x H' → Turn g tt te vs σ D x H' Nx) := by
  refine lc_fm wk (fun i => (xs.zip ys)[i]?.bind fun p => gm p.1 p.2) I hI i0 (by omega) hG (fun i x H H' acc N hi p hD la y k => ?_) fun H p hD => hd H p ?_
  · obtain ⟨u, x1, x2, rfl, nu, rfl, g1, g2⟩ := y
    dsimp only at g1 g2
    rw [List.getElem?_map] at g1 g2
    obtain ⟨a, ha, rfl⟩ := Option.map_eq_some_iff.mp g1
    obtain ⟨b, hb, rfl⟩ := Option.map_eq_some_iff.mp g2
    refine hs i a b u H acc N ha hb p nu hD la fun H4 p4 d4 => ?_
    have := k H4 p4 d4
    have ez : (xs.zip ys)[i]? = some (a, b) := by
      rw [List.getElem?_zip_eq_some]
      exact ⟨ha, hb⟩
    simp only [ez, Option.bind_some] at this
    exact this
  · rw [hD, hn, ← List.length_zip, range_fm]
end
end L3
set_option Elab.async false
set_option linter.all false
set_option maxRecDepth 100000
set_option maxHeartbeats 4000000
namespace L3
open PySem PySem.Spec PyProof.Rows L2 PySem.SeqAt PySem.Calls
/-- the class at C is none of the types that decline -/
structure NoBase (K : PySem.W.Frag) (C : Addr) : Prop where
  non : PySem.W.mroIn K C (.type "NoneType") = some false
  bl : PySem.W.mroIn K C (.type "bool") = some false
  int : PySem.W.mroIn K C (.type "int") = some false
  str : PySem.W.mroIn K C (.type "str") = some false
  lst : PySem.W.mroIn K C (.type "list") = some false
  tup : PySem.W.mroIn K C (.type "tuple") = some false
  dct : PySem.W.mroIn K C (.type "dict") = some false
  ne : PySem.W.findIn K (.ref C) "__ne__" = some (some (.builtin "object.__ne__"))
  ob : PySem.W.mroIn K C (.type "object") = some true
def noBaseF (x : Str) : Fx := fun K => (["NoneType", "bool", "int", "str", "list", "tuple", "dict"].all fun T => decide (PySem.W.mroIn K (He.ga K x) (.type T) = some false)) &&
  (He.eqO (PySem.W.findIn K (.ref (He.ga K x)) "__ne__") (some (some (.builtin "object.__ne__"))) && decide (PySem.W.mroIn K (He.ga K x) (.type "object") = some true))
theorem noBase_of {x : Str} {K : PySem.W.Frag} (h : noBaseF x K = true) : NoBase K (He.ga K x) := by
  obtain ⟨h1, h⟩ := He.ba h
  obtain ⟨h2, h3⟩ := He.ba h
  have g : ∀ T ∈ ["NoneType", "bool", "int", "str", "list", "tuple", "dict"], PySem.W.mroIn K (He.ga K x) (.type T) = some false := fun T hT => of_decide_eq_true (List.all_eq_true.mp h1 T hT)
  exact ⟨g _ (by decide), g _ (by decide), g _ (by decide), g _ (by decide), g _ (by decide), g _ (by decide), g _ (by decide), He.eqO_ok h2, of_decide_eq_true h3⟩
end L3
set_option Elab.async false
set_option linter.all false
set_option maxRecDepth 100000
set_option maxHeartbeats 4000000
namespace L3
open PySem PySem.Spec PyProof.Rows L2 PySem.SeqAt PySem.Calls
theorem call_isiK {X : Cx} (K : PySem.W.Frag) (h : X.K = K := by rfl) : CallR X (.builtin "isinstance") (rIsi K) := by
  subst h
  exact call_isi
end L3
set_option Elab.async false
set_option linter.all false
set_option maxRecDepth 100000
set_option maxHeartbeats 4000000
namespace L3
open PySem PySem.Spec PyProof.Rows L2 PySem.SeqAt PySem.Calls
section
variable {X : Cx} {e : Expr} {t1 t2 : TE}
def tOrE (t1 t2 : TE) : TE := fun σ H Q => t1 σ H Q ∨ t2 σ H Q
/-- one reading or the other -/
theorem pe_orE (h1 : PE X e t1) (h2 : PE X e t2) : PE X e (tOrE t1 t2) := ⟨fun pins s σ H Q I h => h.elim (h1.run pins s σ H Q I) (h2.run pins s σ H Q I)⟩
end
/-- a promise that is asked for nothing -/
theorem fc_no {P : Program} {w : World} {K : PySem.W.Frag} {mg : Str → Option Value} {base : Heap} {k : Nat} {f : Addr} {ks : List Str} {sp : Sp} (h : ∀ vs H Q E, ¬ sp vs H Q E) : Fc P w K mg base k f ks sp := fun _ _ _ _ _ _ _ _ _ _ _ _ _ z => absurd z (h _ _ _ _)
end L3
set_option Elab.async false
set_option linter.all false
set_option maxRecDepth 100000
set_option maxHeartbeats 4000000
namespace L3
open PySem PySem.Spec PyProof.Rows L2 PySem.SeqAt PySem.Calls
section
variable {prog : Program} {w : World} {A : Around} {s : Shared} {E : Value → Shared → Prop}
theorem zipM_item {z TI TO ia ib la lb : Addr} {ka kb : Nat} {xs ys : Array Value} {x y a b : Value} {Q : Value → Shared → Prop} (D : ZipApart z TI TO ia ib la lb)
    (eZ : IsZip s.heap z TI TO .none) (eI : IsPair s.heap TI (.ref ia) (.ref ib)) (eO : IsPair s.heap TO a b) (ma : s.heap.IsListIter ia la ka) (mb : s.heap.IsTupleIter ib lb kb)
    (pa : s.heap.IsList la xs) (pb : s.heap.IsTuple lb ys) (fa : xs[ka]? = some x) (fb : ys[kb]? = some y)
    (post : ∀ g, IsZip g z TI TO (rawInt s.heap.objs.size) ∧ IsPair g TO x y ∧ g.IsListIter ia la (ka + 1) ∧ g.IsTupleIter ib lb (kb + 1) ∧ IsPair g s.heap.objs.size x y ∧
      (∀ c o, c ≠ z → c ≠ TO → c ≠ ia → c ≠ ib → s.heap.get? c = some o → g.get? c = some o) → Q (.ref s.heap.objs.size) { s with heap := g }) :
    wpAny (model prog w) A (Builtin.«zip.__next__» ⟨[.ref z], []⟩) (fun f s' => ∃ v, f = .done (.ret v) ∧ Q v s') E s := by
  refine wpAny_bind (m := field (.ref z) 2) (wpAny_field eZ rfl (x := .bool false) rfl ?_)
  refine wpAny_bind (m := field (.ref z) 3) (wpAny_field eZ rfl (x := .ref TI) rfl ?_)
  refine wpAny_bind (wpAny_seqItems eI rfl (wpAny_bind (m := Builtin.SmallTypes.ownedTupleIsFree (.ref z)) ?_))
  unfold Builtin.SmallTypes.ownedTupleIsFree; refine wpAny_bind (wpAny_field eZ rfl (x := .none) rfl (wpAny_pure ?_)); simp only [if_true]
  refine wpAny_bind (wpAny_rule (wpAny_bind (wpAny_field eZ rfl (x := .ref TO) rfl (wpAny_bind (wpAny_setField_rec eZ (by simp) fun g1 (z1 : IsZip g1 z TI TO .ellipsis) b1 => ?_)))))
  refine wpAny_bind ?_; simp only [List.zipIdx_cons, List.zipIdx_nil, List.forIn_cons, List.forIn_nil]
  refine wpAny_bind (wpAny_bind (wpAny_onRaise (wpAny_bind (m := Builtin.SmallTypes.nextOf (.ref ia)) ?_)))
  refine wpAny_nextOf_list_item (ma.extBut b1.extBut D.i1z) (pa.extBut b1.extBut D.l1z) fa fun g2 m2 b2 => wpAny_pure ?_
  have o2 : IsPair g2 TO a b := b2.extBut _ _ D.TOi1 (b1.extBut _ _ D.TOz eO)
  refine wpAny_bind (wpAny_seqItems o2 rfl (wpAny_bind (wpAny_updateSeq_pair o2 fun g3 (o3 : IsPair g3 TO x b) b3 => wpAny_bind (wpAny_letGo (wpAny_pure ?_)))))
  refine wpAny_bind (wpAny_bind (wpAny_onRaise (wpAny_bind (m := Builtin.SmallTypes.nextOf (.ref ib)) ?_)))
  refine RZ.nextOf_tuple_item (((mb.extBut b1.extBut D.i2z).extBut b2.extBut D.i12.symm).extBut b3.extBut D.TOi2.symm) (((pb.extBut b1.extBut D.l2z).extBut b2.extBut D.l2i1).extBut b3.extBut D.l2TO) fb fun g4 m4 b4 => wpAny_pure ?_
  have o4 : IsPair g4 TO x b := b4.extBut _ _ D.TOi2 o3
  refine wpAny_bind (wpAny_seqItems o4 rfl (wpAny_bind (wpAny_updateSeq_pair o4 fun g5 (o5 : IsPair g5 TO x y) b5 => wpAny_bind (wpAny_letGo (wpAny_pure (wpAny_pure ?_))))))
  refine wpAny_bind (wpAny_seqItems o5 rfl (wpAny_bind (wpAny_newTuple (wpAny_bind (m := Builtin.SmallTypes.ownedTupleHandOut (.ref z) (.ref g5.objs.size)) ?_))))
  have sz : g5.objs.size = s.heap.objs.size := by rw [b5.1, b4.1, b3.1, b2.1, b1.1]
  have z5 : IsZip g5 z TI TO .ellipsis := b5.extBut _ _ D.TOz.symm (b4.extBut _ _ D.i2z.symm (b3.extBut _ _ D.TOz.symm (b2.extBut _ _ D.i1z.symm z1)))
  have k5 : ∀ c o, c ≠ z → c ≠ TO → c ≠ ia → c ≠ ib → s.heap.get? c = some o → g5.get? c = some o := fun c o c1 c2 c3 c4 e =>
    b5.extBut _ _ c2 (b4.extBut _ _ c4 (b3.extBut _ _ c2 (b2.extBut _ _ c3 (b1.extBut _ _ c1 e))))
  have ma5 : g5.IsListIter ia la (ka + 1) := ((m2.extBut b3.extBut D.TOi1.symm).extBut b4.extBut D.i12).extBut b5.extBut D.TOi1.symm
  have mb5 : g5.IsTupleIter ib lb (kb + 1) := m4.extBut b5.extBut D.TOi2.symm
  have zl : z < g5.objs.size := Heap.lt_size z5
  unfold Builtin.SmallTypes.ownedTupleHandOut; have z6 : IsZip (g5.push { cls := .type "tuple", data := .seq #[x, y] }) z TI TO .ellipsis := Heap.get?_push_of_some _ z5
  refine wpAny_bind (wpAny_setField_rec z6 (by simp) fun g7 (z7 : IsZip g7 z TI TO (rawInt g5.objs.size)) b7 => ?_)
  refine wpAny_setField_rec z7 (by simp) fun g8 (z8 : IsZip g8 z TI TO (rawInt g5.objs.size)) b8 => wpAny_pure ⟨_, rfl, ?_⟩
  have lift : ∀ c o, c ≠ z → g5.get? c = some o → g8.get? c = some o := fun c o c1 e => b8.extBut _ _ c1 (b7.extBut _ _ c1 (Heap.get?_push_of_some _ e))
  have t8 : IsPair g8 g5.objs.size x y := b8.extBut _ _ (Nat.ne_of_gt zl) (b7.extBut _ _ (Nat.ne_of_gt zl) (Heap.get?_push_size _ rfl))
  rw [sz] at z8 t8
  show Q (.ref g5.objs.size) _
  rw [sz]
  exact post g8 ⟨z8, lift _ _ D.TOz o5, ma5.at fun o e => lift _ o D.i1z e, mb5.at fun o e => lift _ o D.i2z e, t8, fun c o c1 c2 c3 c4 e => lift c o c1 (k5 c o c1 c2 c3 c4 e)⟩
theorem zipM_end {z TI TO ia ib la : Addr} {ka : Nat} {xs : Array Value} {Q : Option Value → Shared → Prop} (hh : A.handled = none) (d1 : ia ≠ z) (d2 : la ≠ z)
    (eZ : IsZip s.heap z TI TO .none) (eI : IsPair s.heap TI (.ref ia) (.ref ib)) (ma : s.heap.IsListIter ia la ka) (pa : s.heap.IsList la xs) (fa : xs[ka]? = none)
    (post : ∀ g, (∀ c o, c ≠ z → c ≠ ia → s.heap.get? c = some o → g.get? c = some o) → Q none { s with heap := g }) : wpAny (model prog w) A (pyNext (.ref z)) Q E s := by
  have ty : s.TypeIs (.ref z) "zip" := ⟨_, eZ, rfl⟩
  unfold pyNext
  refine wpAny_bind (wpAny_attempt (wpAny_callSpecial?_slot (name := Str.ofString "__next__") ty F.slot_zip_next (wpAny_call_entry F.slot_zip_next ty F.entry_zip_next ?_ (F.args_zip_next_1 _))))
  refine wpAny_bind (m := field (.ref z) 2) (wpAny_field eZ rfl (x := .bool false) rfl ?_)
  refine wpAny_bind (m := field (.ref z) 3) (wpAny_field eZ rfl (x := .ref TI) rfl ?_)
  refine wpAny_bind (wpAny_seqItems eI rfl (wpAny_bind (m := Builtin.SmallTypes.ownedTupleIsFree (.ref z)) ?_))
  unfold Builtin.SmallTypes.ownedTupleIsFree; refine wpAny_bind (wpAny_field eZ rfl (x := .none) rfl (wpAny_pure ?_)); simp only [if_true]
  refine wpAny_bind (wpAny_rule (wpAny_bind (wpAny_field eZ rfl (x := .ref TO) rfl (wpAny_bind (wpAny_setField_rec eZ (by simp) fun g1 (z1 : IsZip g1 z TI TO .ellipsis) b1 => ?_)))))
  refine wpAny_bind ?_; simp only [List.zipIdx_cons, List.zipIdx_nil, List.forIn_cons, List.forIn_nil]
  refine wpAny_bind (wpAny_bind (wpAny_onRaise (wpAny_bind (m := Builtin.SmallTypes.nextOf (.ref ia)) ?_)))
  refine wpAny_nextOf_list_end hh (ma.extBut b1.extBut d1) (pa.extBut b1.extBut d2) fa fun g2 e b2 he => ?_
  obtain ⟨oe, e1, e2⟩ := he
  have z2 : IsZip g2 z TI TO .ellipsis := b2 _ _ d1.symm z1
  have ez : e ≠ z := fun x => by subst x; rw [z2] at e1; cases e1; simp at e2
  refine wpAny_setField_rec z2 (by simp) fun g3 _ b3 => ?_
  refine wpAny_bind (wpAny_isInstance (T := "StopIteration") (b := true) ⟨oe, b3.extBut _ _ ez e1, e2⟩ isSubtype_stop (wpAny_pure (post g3 fun c o c1 c3 x => ?_)))
  exact b3.extBut _ _ c1 (b2 _ _ c3 (b1.extBut _ _ c1 x))
end
/-- the list at a beside the tuple at b -/
def ItzM (K : PySem.W.Frag) (a b : Addr) : It where
  go := fun i H => ∃ (xs ys : List V) (x y : V), (SqL K H a xs ∧ SqT K H b ys) ∧ xs[i]? = some x ∧ ys[i]? = some y
  yld := fun i H v H' => ∃ T x y, v = .ref T ∧ H T = none ∧ H' = upd H T (.tup [x, y]) ∧ (∀ xs, SqL K H a xs → xs[i]? = some x) ∧ ∀ ys, SqT K H b ys → ys[i]? = some y
  stop := fun i H => ∃ xs : List V, SqL K H a xs ∧ xs.length ≤ i
/-- how the five things of a zip stand -/
def ZipSt (a b z TI TO ia ib : Addr) (i : Nat) (h : Heap) : Prop :=
  IsZip h z TI TO .none ∧ IsPair h TI (.ref ia) (.ref ib) ∧ (∃ x y, IsPair h TO x y) ∧ h.IsListIter ia a i ∧ h.IsTupleIter ib b i
theorem turn_zipM {P : Program} {w : World} {K : PySem.W.Frag} {elts : List Expr} {kk : Nat} {tpos : Pos} {a b z TI TO ia ib : Addr} (D : ZipApart z TI TO ia ib a b) :
    L2.Turn P w K (.Tuple elts kk tpos) (ItzM K a b) [z, TI, TO, ia, ib] z (ZipSt a b z TI TO ia ib) where
  mem := List.mem_cons_self
  obj := fun i h ⟨eZ, eI, ⟨x, y, eO⟩, ⟨oa, e1, _, d1⟩, ⟨ob, e2, _, d2⟩⟩ c hc => by
    rcases List.mem_cons.mp hc with rfl | hc; · exact ⟨_, eZ, fun v q => nomatch q⟩
    rcases List.mem_cons.mp hc with rfl | hc; · exact ⟨_, eI, fun v q => nomatch q⟩
    rcases List.mem_cons.mp hc with rfl | hc; · exact ⟨_, eO, fun v q => nomatch q⟩
    rcases List.mem_cons.mp hc with rfl | hc; · exact ⟨oa, e1, fun v q => nomatch d1.symm.trans q⟩
    rcases List.mem_cons.mp hc with rfl | hc; · exact ⟨ob, e2, fun v q => nomatch d2.symm.trans q⟩
    exact absurd hc List.not_mem_nil
  keep := fun i h h' ⟨eZ, eI, ⟨x, y, eO⟩, m1, m2⟩ k => ⟨k z (by simp) _ eZ, k TI (by simp) _ eI, ⟨x, y, k TO (by simp) _ eO⟩, m1.at (k ia (by simp)), m2.at (k ib (by simp))⟩
  item := by
    rintro X rfl rfl rfl hc i pins s σ H E I hf ⟨eZ, eI, ⟨x0, y0, eO⟩, m1, m2⟩ ⟨xs, ys, x, y, ⟨qx, qy⟩, gx, gy⟩
    obtain ⟨us, rv, p, _⟩ := I.list qx
    obtain ⟨vs, rw', p2, _⟩ := I.tuple qy
    obtain ⟨u, hu, ru⟩ := rv.get gx
    obtain ⟨v, hv, rv2⟩ := rw'.get gy
    have zl : z < s.heap.objs.size := Heap.lt_size eZ
    have ty : s.TypeIs (.ref z) "zip" := ⟨_, eZ, rfl⟩
    unfold pyNext
    refine wpAny_bind (wpAny_attempt (wpAny_callSpecial?_slot (name := Str.ofString "__next__") ty F.slot_zip_next (wpAny_call_entry F.slot_zip_next ty F.entry_zip_next ?_ (F.args_zip_next_1 _))))
    refine zipM_item D eZ eI eO m1 m2 p.isList p2 (x := u) (y := v) (by simpa using hu) (by simpa using hv) fun g ⟨z1, o1, a1, b1, t1, k1⟩ => wpAny_pure ?_
    refine ⟨_, rfl, wpAny_letOwnedTupleGo_zip (s := { s with heap := g }) z1 fun g2 z2 sb => ?_⟩
    have t2 : g2.get? s.heap.objs.size = some { cls := .type "tuple", data := .seq #[u, v] } := (sb.2 _ (Nat.ne_of_gt zl)).trans t1
    have ob : ObjOk X.prog X.w (upd H s.heap.objs.size (.tup [x, y])) g2 s.heap.objs.size (.tup [x, y]) := ⟨by show 2 ≤ sizeLine; decide, [u, v], .cons ru (.cons rv2 .nil), ⟨_, t2, rfl, _, rfl⟩⟩
    have kp : ∀ c o, c ∉ [z, TI, TO, ia, ib] → s.heap.get? c = some o → g2.get? c = some o := fun c o hb q => by
      have nz : c ≠ z := fun e => hb (by simp [e])
      exact (sb.2 c nz).trans (k1 c o nz (fun e => hb (by simp [e])) (fun e => hb (by simp [e])) (fun e => hb (by simp [e])) q)
    refine ⟨.ref s.heap.objs.size, _, I.turnedNew (t' := s.toks) (ch := [z, TI, TO, ia, ib]) kp hf (Nat.le_refl _) ob, rfl, ⟨_, x, y, rfl, I.hok.fresh (Nat.le_refl _), rfl, ?_, ?_⟩, ⟨z2, ?_, ⟨u, v, ?_⟩, ?_, ?_⟩, fun c hcm => ?_⟩
    · exact fun l hl => (I.list_inj hl qx).symm ▸ gx
    · exact fun l hl => (I.tuple_inj hl qy).symm ▸ gy
    · exact (sb.2 _ D.TIz).trans (k1 _ _ D.TIz D.TITO D.TIi1 D.TIi2 eI)
    · exact (sb.2 _ D.TOz).trans o1
    · exact a1.at fun o q => (sb.2 _ D.i1z).trans q
    · exact b1.at fun o q => (sb.2 _ D.i2z).trans q
    · have lt : c < s.heap.objs.size := by
        obtain ⟨_, e1, _⟩ := m1
        obtain ⟨_, e2, _⟩ := m2
        rcases List.mem_cons.mp hcm with rfl | hcm; · exact zl
        rcases List.mem_cons.mp hcm with rfl | hcm; · exact Heap.lt_size eI
        rcases List.mem_cons.mp hcm with rfl | hcm; · exact Heap.lt_size eO
        rcases List.mem_cons.mp hcm with rfl | hcm; · exact Heap.lt_size e1
        rcases List.mem_cons.mp hcm with rfl | hcm; · exact Heap.lt_size e2
        exact absurd hcm List.not_mem_nil
      exact (upd_ne (Nat.ne_of_lt lt)).trans (hf c hcm).1
  done := by
    rintro X rfl rfl rfl hc i pins s σ H E I hf ⟨eZ, eI, _, m1, m2⟩ ⟨xs, qx, hend⟩
    obtain ⟨us, rv, p, _⟩ := I.list qx
    have l1 := rv.length
    exact zipM_end (I.ok.hd hc) D.i1z D.l1z eZ eI m1 p.isList (by simp; omega) fun g k => ⟨rfl, I.turnedL (t' := s.toks) (ch := [z, TI, TO, ia, ib]) (fun c o hb q =>
      k c o (fun e => hb (by simp [e])) (fun e => hb (by simp [e])) q) hf⟩
  self := fun _ _ _ _ _ st q => wpAny_pyIter_zip st.1 q
abbrev zm (c : String) (l : Addr) : Obj := { cls := .type c, data := .fields #[.ref l, .int 0 0] }
abbrev zmP (x y : Value) : Obj := { cls := .type "tuple", data := .seq #[x, y] }
abbrev zmH (h : Heap) (a b : Addr) : Heap :=
  ((((h.push (zm "list_iterator" a)).push (zm "tuple_iterator" b)).push (zmP (.ref h.objs.size) (.ref (h.objs.size + 1)))).push (zmP .none .none)).push
    { cls := .type "zip", data := .fields #[.none, .bool false, .bool false, .ref (h.objs.size + 2), .ref (h.objs.size + 3)] }
theorem meets_zipM (a b : Addr) (xs ys : Array Value) : Meets (Builtin.«zip.__new__» ⟨[.type "zip", .ref a, .ref b], []⟩) (fun _ R s => s.heap.IsList a xs ∧ s.heap.IsTuple b ys ∧
      R (.ok (.ret (.ref (s.heap.objs.size + 4)))) { s with heap := zmH s.heap a b }) := .of_wp fun prog w A R s ⟨p1, p2, h⟩ => by
  obtain ⟨hp, g, d, tk, os⟩ := s; have sub := sub_zip
  have q1 : Heap.IsList (Shared.heap ⟨hp, g, d, tk, os⟩) a xs := p1
  have q2 : Heap.IsTuple (Shared.heap ⟨hp.push (zm "list_iterator" a), g, d, tk, os⟩) b ys := Heap.IsTuple.push p2 _
  simp only [zmH] at h
  have z1 : ∀ (h : Heap) (o : Obj), (h.push o).objs.size = h.objs.size + 1 := fun h o => Heap.size_push ..
  wp_walk using wpAny_pyIter_list q1, wpAny_pyIter_tuple q2
  refine ⟨_, rfl, ?_⟩
  simp only [z1] at *
  exact h
def iZipM (K : PySem.W.Frag) (ta : TA) : TI := fun σ H R => ta σ H fun vs H1 => ∃ a b xs ys, vs = [.ref a, .ref b] ∧ SqL K H1 a xs ∧ SqT K H1 b ys ∧ R (ItzM K a b) H1
theorem pi_zipM {X : Cx} {e e2 : Expr} {ta : TA} {p pos tpos : Pos} {elts : List Expr} {kk : Nat} (hg : Gl X "zip") (hm : X.mg "zip" = none) (ha : PA X [e, e2] ta)
    (hs : starEach [e, e2] X.env = (false, eval e X.env) :: starEach [e2] X.env := by rfl) (hpl : (backTo pos (starEach [e2] X.env)).any (·.1) = false := by rfl) : PI X (.Tuple elts kk tpos) (.Call (.Name "zip" p) [e, e2] [] pos) (iZipM X.K ta) := by
  refine ⟨fun pins s σ H R I h => Call_ (ld_blt I hg hm PyProof.Rows.boot_zip (PyProof.Rows.callWith_type1 (thn (ha.run pos pins s σ H _ I h) fun us s1 ⟨vs, H1, I1, r1, a, b, xs, ys, ex, qx, qy, q⟩ => ?_) hs hpl))⟩
  subst ex
  obtain ⟨ua, ub, rfl, ra, rb⟩ := vals2 r1
  cases ra
  cases rb
  obtain ⟨its, rv, p1, _⟩ := I1.list qx
  obtain ⟨its2, rv2, p2, _⟩ := I1.tuple qy
  have z1 : ∀ (h : Heap) (o : Obj), (h.push o).objs.size = h.objs.size + 1 := fun h o => Heap.size_push ..
  have up : ∀ (h : Heap) (o o2 : Obj) (c : Addr), h.get? c = some o2 → (h.push o).get? c = some o2 := fun h o o2 c e => Heap.get?_push_of_some _ e
  have nw : ∀ (h : Heap) (o : Obj) (n : Nat), h.objs.size = n → o.isFreed = false → (h.push o).get? n = some o := fun h o n e f => e ▸ Heap.get?_push_size _ f
  let g := zmH s1.heap a b
  have gz : IsZip g (s1.heap.objs.size + 4) (s1.heap.objs.size + 2) (s1.heap.objs.size + 3) .none := nw _ _ _ (by simp only [z1]) rfl
  have gO : IsPair g (s1.heap.objs.size + 3) .none .none := up _ _ _ _ (nw _ _ _ (by simp only [z1]) rfl)
  have gI : IsPair g (s1.heap.objs.size + 2) (.ref s1.heap.objs.size) (.ref (s1.heap.objs.size + 1)) := up _ _ _ _ (up _ _ _ _ (nw _ _ _ (by simp only [z1]) rfl))
  have gb : g.get? (s1.heap.objs.size + 1) = some (zm "tuple_iterator" b) := up _ _ _ _ (up _ _ _ _ (up _ _ _ _ (nw _ _ _ (by simp only [z1]) rfl)))
  have ga : g.get? s1.heap.objs.size = some (zm "list_iterator" a) := up _ _ _ _ (up _ _ _ _ (up _ _ _ _ (up _ _ _ _ (nw _ _ _ rfl rfl))))
  refine callType_new F.called_zip (by decide) (F.typeCall_zip_2 _ _) (F.newCall_zip_2 _ _) (fun obj => F.args_object_init_3 obj _ _) F.entry_zip_new (meets_zipM a b _ _) ⟨p1.isList, p2, ⟨_, gz, rfl⟩, ?_⟩
  refine wpAny_pyIter_zip gz ⟨s1.heap.objs.size + 4, [s1.heap.objs.size + 4, s1.heap.objs.size + 2, s1.heap.objs.size + 3, s1.heap.objs.size, s1.heap.objs.size + 1], _, _, H1, rfl, ?_, turn_zipM (PySem.W.ktu_apart s1.heap.objs.size a b ?_ ?_), ⟨gz, gI, ⟨_, _, gO⟩, ⟨_, ga, rfl, rfl⟩, ⟨_, gb, rfl, rfl⟩⟩, fun c hc => ?_, q⟩
  · exact I1.kept (t' := s1.toks) fun c o e => up _ _ _ _ (up _ _ _ _ (up _ _ _ _ (up _ _ _ _ (up _ _ _ _ e))))
  · exact p1.lt
  · obtain ⟨_, e2, _⟩ := p2
    exact Heap.lt_size e2
  · have le : s1.heap.objs.size ≤ c := by
      rcases List.mem_cons.mp hc with rfl | hc; · exact Nat.le_add_right ..
      rcases List.mem_cons.mp hc with rfl | hc; · exact Nat.le_add_right ..
      rcases List.mem_cons.mp hc with rfl | hc; · exact Nat.le_add_right ..
      rcases List.mem_cons.mp hc with rfl | hc; · exact Nat.le_refl _
      rcases List.mem_cons.mp hc with rfl | hc; · exact Nat.le_add_right ..
      exact absurd hc List.not_mem_nil
    exact I1.fpOk le (I1.hok.fresh le)
theorem walk_zipM {K : PySem.W.Frag} {a b : Addr} {xs ys : List V} (hn : xs.length = ys.length) : L2.Walk (ItzM K a b) xs.length (fun H => SqL K H a xs ∧ SqT K H b ys) (L2.YPair (fun i => xs[i]?) (fun i => ys[i]?)) := by
  refine ⟨fun i _ hi q => ?_, fun _ q => ⟨xs, q.1, Nat.le_refl _⟩, fun i H v H' _ q y => ?_⟩
  · exact ⟨xs, ys, xs[i], ys[i]'(hn ▸ hi), q, by simp [hi], by simp [hn ▸ hi]⟩
  · exact y.elim fun T ⟨x, z, h1, h2, h3, h4, h5⟩ => ⟨T, x, z, h1, h2, h3, h4 xs q.1, h5 ys q.2⟩
end L3
set_option Elab.async false
set_option linter.all false
set_option maxRecDepth 100000
set_option maxHeartbeats 4000000
namespace L3
open PySem PySem.Spec PyProof.Rows L2
section
variable {p A B : Prop} [Decidable p]
theorem ifP (h : p) (q : A) : if decide p = true then A else B := by
  rw [decide_eq_true h]
  exact iteT q
theorem ifN (h : ¬ p) (q : B) : if decide p = true then A else B := by
  rw [decide_eq_false h]
  exact iteF q
end
theorem vint_ne {a b : Int} (h : a ≠ b) : ¬ V.int a = V.int b := fun z => by
  injection z with z
  exact h z
theorem sz_big {n : Nat} (h : n ≤ 16000000) : n ≤ sizeLine := Nat.le_trans h (by rw [sizeLine_eq]; decide)
theorem sz_lt {n : Nat} (h : n ≤ 16000000) : n < sizeLine := Nat.lt_of_le_of_lt h (by rw [sizeLine_eq]; decide)
end L3
set_option Elab.async false
set_option linter.all false
set_option maxRecDepth 100000
set_option maxHeartbeats 4000000
namespace L3
open PySem PySem.Spec PyProof.Rows L2
structure FbN (P : Program) (w : World) (K : PySem.W.Frag) (mg : Str → Option Value) (base : Heap) (k : Nat) (f : Addr) (fd : FuncData) (ps : List Str) (sp : Sp) : Prop where
  len : ∀ vs H Q E, sp vs H Q E → vs.length = ps.length
  run : ∀ (A : Around) (outer : List Env) (s : Shared) (H : Hp) (args : Args) (us : List Value) (vs : List V) (Q : VK) (E : XK), Rm k A → Env0 P w K mg base A outer s H → BindsTo s fd args (ps.zip us) → Vals vs us → sp vs H Q E →
    codeAny (model P w) A (.call (.ref f) args) (CR (L2N.CX P w) outer P w H s Q E) s
section
variable {P : Program} {w : World} {K : PySem.W.Frag} {mg : Str → Option Value} {base : Heap} {x qual : Str} {params : Arguments} {body : List Stmt} {scope : Scope} {dvs : List V} {kws : List (Str × V)} {f : Addr} {fd : FuncData} {k : Nat} {ps N : List Str} {sp : Sp}
theorem fbN_of (F : FunD K x qual params body scope dvs kws f fd) (S : FnScope N ps scope) (len : ∀ vs H Q E, sp vs H Q E → vs.length = ps.length)
    (hbody : ∀ (cdv : Value) (A : Around) (outer : List Env) (s : Shared) (H : Hp) (vs : List V) (Q : VK) (E : XK), Rm k (A.deeper (envOfC qual scope s.heap.objs.size f cdv)) → sp vs H Q E →
      ∃ t, PSs (cxOf (L2N.CX P w) P w K mg base N qual scope f cdv A outer s H E) body t ∧ t { nx := fun _ H' => Q .non H', rt := Q } (start N vs) H) : FbN P w K mg base (k + 1) f fd ps sp := by
  obtain ⟨oc, od, dV, kV, doc, pm, an, cdv, ct, osl, rfl, lk, hcd, _, _⟩ := F.ex
  refine ⟨len, fun A outer s H args us vs Q E hr e0 hb r hsp => ?_⟩
  have hl := len _ _ _ _ hsp
  have KX : K.In s.heap := e0.mod.kin.keeps fun b o e => (e0.bs b o e).1
  have lim : s.heap.NoLimit := e0.mod.nolimit.keeps fun b o e => (e0.bs b o e).1
  have hkind : ∀ y ∈ ps.zip us, scope.names.lookup y.1 = some .local ∨ (scope.names.lookup y.1 = some .cell ∧ ((cellsFrom (s.heap.objs.size + 1) scope.names []).lookup y.1).isSome = true) := fun ⟨n, v⟩ hy => by
    rcases S.par n (List.of_mem_zip hy).1 with q | q
    · exact .inl q
    · exact .inr ⟨q, PySem.W.cellsFrom_some _ _ _ (.inl q)⟩
  refine codeAny_call_function hr.rm.depth (KX _ _ lk) rfl S.co S.gen rfl (PySem.W.codeRec_of KX hcd) (hb _ _ _ _ ?_)
  refine wpAny_newFunctionEnv_cells S.kind hkind fun env he s1 x => ?_
  subst he
  refine ⟨lim.keeps x.toInCall.keep, codeAny_func ?_⟩
  obtain ⟨t, ht, hq⟩ := hbody cdv A outer s H vs Q E (hr.deeper _) hsp
  have I : Inv (cxOf (L2N.CX P w) P w K mg base N qual scope f cdv A outer s H E) [] (start N vs) H s1 := inv_start S hr.rm.hd e0 hl r x
  refine wpAny_mono (ht.run [] s1 (start N vs) H _ I hq) (fun fl s' hs => ?_) fun e s' hs => hs
  have fin : ∀ {σ' : L2.St} {H' : Hp} {v : V} {u : Value}, Inv (cxOf (L2N.CX P w) P w K mg base N qual scope f cdv A outer s H E) [] σ' H' s' → RelV v u → Q v H' → CE outer P w H s Q u s' :=
    fun {σ' H' v u} J rv q => ⟨v, H', J.os, J.bare, J.base, J.hok, rv, q⟩
  cases fl with
  | ret u =>
    obtain ⟨v, σ', H', J, rv, q⟩ := hs
    exact fin J rv q
  | next =>
    obtain ⟨σ', H', J, q⟩ := hs
    exact fin (v := V.non) (u := Value.none) J rfl q
  | brk =>
    obtain ⟨_, _, _, q⟩ := hs
    exact False.elim q
  | cont =>
    obtain ⟨_, _, _, q⟩ := hs
    exact False.elim q
theorem FbN.mono {j : Nat} (F : FbN P w K mg base j f fd ps sp) (h : j ≤ k) : FbN P w K mg base k f fd ps sp := ⟨F.len, fun A outer s H args us vs Q E hr => F.run A outer s H args us vs Q E (hr.mono h)⟩
theorem FbN.imp {sp' : Sp} (F : FbN P w K mg base k f fd ps sp) (h : ∀ vs H Q E, sp' vs H Q E → sp vs H Q E) : FbN P w K mg base k f fd ps sp' :=
  ⟨fun vs H Q E q => F.len vs H Q E (h _ _ _ _ q), fun A outer s H args us vs Q E hr he hb hv hs => F.run A outer s H args us vs Q E hr he hb hv (h _ _ _ _ hs)⟩
def FcN (P : Program) (w : World) (K : PySem.W.Frag) (mg : Str → Option Value) (base : Heap) (k : Nat) (f : Addr) (ks : List Str) (sp : Sp) : Prop :=
  ∀ (A : Around) (outer : List Env) (s : Shared) (H : Hp) (us ws : List Value) (vs : List V) (Q : VK) (E : XK), Rm k A → Env0 P w K mg base A outer s H → Vals vs (us ++ ws) → ws.length = ks.length → sp vs H Q E →
    codeAny (model P w) A (.call (.ref f) ⟨us, ks.zip ws⟩) (CR (L2N.CX P w) outer P w H s Q E) s
theorem FcN.mono {j : Nat} {ks : List Str} (F : FcN P w K mg base j f ks sp) (h : j ≤ k) : FcN P w K mg base k f ks sp := fun A outer s H us ws vs Q E hr => F A outer s H us ws vs Q E (hr.mono h)
theorem FcN.imp {sp' : Sp} {ks : List Str} (F : FcN P w K mg base k f ks sp) (h : ∀ vs H Q E, sp' vs H Q E → sp vs H Q E) : FcN P w K mg base k f ks sp' :=
  fun A outer s H us ws vs Q E hr he hv hl hs => F A outer s H us ws vs Q E hr he hv hl (h _ _ _ _ hs)
/-- every parameter is given by place -/
theorem FbN.all (F : FbN P w K mg base k f fd ps sp) (hb : Binds K fd ps []) : FcN P w K mg base k f [] sp := fun A outer s H us ws vs Q E hr e0 r hl h => by
  cases ws with
  | cons w ws => cases hl
  | nil =>
    rw [List.append_nil] at r
    have KX : K.In s.heap := e0.mod.kin.keeps fun b o e => (e0.bs b o e).1
    have l2 : us.length = ps.length := by rw [← r.length]; exact F.len _ _ _ _ h
    have b := hb s us KX (by rw [List.append_nil]; exact l2)
    rw [List.append_nil] at b
    exact F.run A outer s H ⟨us, []⟩ us vs Q E hr e0 b r h
/-- all parameters given, some by name, no defaults -/
theorem FbN.names (D : FunD K x qual params body scope [] kws f fd) (F : FbN P w K mg base k f fd ps sp) (n : Nat) (ks : List Str) (g : {α : Type} → List α → List α)
    (hrel : ∀ {vs : List V} {us : List Value}, Vals vs us → Vals (g vs) (g us))
    (h : ∀ (kV doc pm : Value) (an : Option Addr) (cdv ct : Value) (us ws : List Value), us.length = n → ws.length = ks.length →
      bindArgs (PySem.W.fnOf x qual params body scope .none kV doc pm an cdv ct) ⟨us, ks.zip ws⟩ = pure (ps.zip (g (us ++ ws)))) :
    FcN P w K mg base k f ks (fun vs H Q E => vs.length = n + ks.length ∧ sp (g vs) H Q E) := by
  obtain ⟨oc, od, dV, kV, doc, pm, an, cdv, ct, osl, rfl, lk, hcd, hD, hK⟩ := D.ex
  rcases hD with ⟨_, rfl⟩ | ⟨e, _⟩
  · intro A outer s H us ws vs Q E hr e0 r hl hsp
    have l2 : us.length = n := by
      have e := r.length
      rw [hsp.1, List.length_append, hl] at e
      omega
    exact F.run A outer s H ⟨us, ks.zip ws⟩ (g (us ++ ws)) (g vs) Q E hr e0 (.of_eq (h kV doc pm an cdv ct us ws l2 hl)) (hrel r) hsp.2
  · exact absurd rfl e
end
theorem cxN {P : Program} {w : World} {outer : List Env} {H : Hp} {s : Shared} {E : XK} {u : Value} {s' : Shared} (h : L2N.CX P w outer H s E u s') : L2.CX P w outer H s E u s' := by
  obtain ⟨a, B, H', cls, d, e, fl, r⟩ := h
  exact ⟨a, B, H', cls, d, e, L2H.flyingZ_imp (fun o z => z.zc) fl, r⟩
theorem FcN.fc {P : Program} {w : World} {K : PySem.W.Frag} {mg : Str → Option Value} {base : Heap} {k : Nat} {f : Addr} {ks : List Str} {sp : Sp} (F : FcN P w K mg base k f ks sp) : Fc P w K mg base k f ks sp :=
  fun A outer s H us ws vs Q E hr e0 r hl h => codeAny_mono (F A outer s H us ws vs Q E hr e0 r hl h) fun r s' hq => by
    cases r with
    | error e => exact cxN hq
    | ok fl =>
      cases fl with
      | ret u => exact hq
      | next => exact hq
      | brk => exact hq
      | cont => exact hq
end L3
namespace L3
open PySem PySem.Spec PyProof.Rows L2 L2H HotX
end L3
set_option Elab.async false
set_option linter.all false
set_option maxRecDepth 100000
set_option maxHeartbeats 4000000
namespace L3
open PySem PySem.Spec PyProof.Rows L2
end L3
set_option Elab.async false
set_option linter.all false
set_option maxRecDepth 100000
set_option maxHeartbeats 4000000
namespace L3
open PySem PySem.Spec PyProof.Rows L2
def Stays (H H' : Hp) (x : V) : Prop := ∀ a o, x = .ref a → H a = some o → H' a = some o
theorem tyOf_at {K : PySem.W.Frag} {H H' : Hp} {x : V} {t : Value} (e : Stays H H' x) (h : TyOf K H x t) : TyOf K H' x t := by
  cases h with
  | non => exact .non
  | bl x => exact .bl x
  | int i => exact .int i
  | str x => exact .str x
  | flt x => exact .flt x
  | lst h => exact .lst (e _ _ rfl h)
  | frz h => exact .frz (e _ _ rfl h)
  | tup h => exact .tup (e _ _ rfl h)
  | dK h => exact .dK (e _ _ rfl h)
  | dT h => exact .dT (e _ _ rfl h)
  | ins h cl ha hn htk hm => exact .ins (e _ _ rfl h) cl ha hn htk hm
theorem tyX_at {K : PySem.W.Frag} {H H' : Hp} {x : V} {t : Value} (e : Stays H H' x) (h : TyX K H x t) : TyX K H' x t := by
  cases h with
  | base h => exact .base (tyOf_at e h)
  | byt b => exact .byt b
  | set h => exact .set (e _ _ rfl h)
  | kList h c => exact .kList h c
  | kTuple h c => exact .kTuple h c
  | kDict h c => exact .kDict h c
  | fTuple h => exact .fTuple (e _ _ rfl h)
  | fDict h => exact .fDict (e _ _ rfl h)
theorem Cl.at {K : PySem.W.Frag} {H H' : Hp} {x : V} (c : Cl K H x) (e : Stays H H' x) : Cl K H' x := let ⟨t, b, d, h1, h2⟩ := c; ⟨t, b, d, tyX_at e h1, h2⟩
/-- a thing that is equal to itself, whatever its mark -/
def selfV : V → Bool
  | .non => true
  | .bl _ => true
  | .int _ => true
  | .str _ => true
  | .ref _ => true
  | _ => false
theorem eqAt_self {A : Around} {s : Shared} {x : V} {u v : Value} (h : selfV x = true) (r1 : RelV x u) (r2 : RelV x v) : SeqAt.EqAt A s u v true := by
  cases x with
  | non =>
    cases (show u = Value.none from r1)
    cases (show v = Value.none from r2)
    exact SeqAt.EqAt.same _
  | bl b =>
    cases (show u = Value.bool b from r1)
    cases (show v = Value.bool b from r2)
    exact SeqAt.EqAt.same _
  | int i =>
    obtain ⟨t, rfl⟩ := r1
    obtain ⟨t', rfl⟩ := r2
    have e := SeqAt.EqAt.int_int (A := A) (s := s) i t i t'
    rw [beq_self_eq_true] at e
    exact e
  | str z =>
    obtain ⟨t, rfl⟩ := r1
    obtain ⟨t', rfl⟩ := r2
    have e := SeqAt.EqAt.str_str (A := A) (s := s) z t z t'
    rw [beq_self_eq_true] at e
    exact e
  | ref a =>
    cases (show u = Value.ref a from r1)
    cases (show v = Value.ref a from r2)
    exact SeqAt.EqAt.same _
  | _ => cases h
/-- a != b, two lists of the same things -/
def rNeS (K : PySem.W.Frag) : R2 := fun x y H Q => ∃ (a b : Addr) (xs : List V), x = .ref a ∧ y = .ref b ∧ SqL K H a xs ∧ SqL K H b xs ∧ xs.all selfV = true ∧ Q (.bl false) H
theorem op_neS {X : Cx} (hu : X.A.units + 64 < cLine) : OpR X (compareOp .NotEq) (rNeS X.K) := by
  intro pins s σ H x y v u Q I rx ry h
  obtain ⟨a, b, xs, rfl, rfl, ha, hb, hs, q⟩ := h
  cases (show v = Value.ref a from rx)
  cases (show u = Value.ref b from ry)
  obtain ⟨us, r1, p1, _⟩ := I.list ha
  obtain ⟨ws, r2, p2, _⟩ := I.list hb
  have l1 := r1.length
  have l2 := r2.length
  refine SeqAt.RcNeAt.lists (A := X.A) (e := fun _ => true) p1.isList p2.isList (by simp; omega) (by omega) (fun j h1 h2 => ?_) X.prog X.w _ _ ?_
  · have hj : j < xs.length := by simp at h1; omega
    have e := List.getElem?_eq_getElem hj
    obtain ⟨u1, g1, q1⟩ := r1.get e
    obtain ⟨u2, g2, q2⟩ := r2.get e
    have f1 : us.toArray[j] = u1 := by
      obtain ⟨_, z⟩ := List.getElem?_eq_some_iff.mp g1
      simpa using z
    have f2 : ws.toArray[j] = u2 := by
      obtain ⟨_, z⟩ := List.getElem?_eq_some_iff.mp g2
      simpa using z
    rw [f1, f2]
    exact eqAt_self (List.all_eq_true.mp hs _ (List.getElem_mem hj)) q1 q2
  · rw [show ((List.range us.toArray.size).all fun _ => true) = true from List.all_eq_true.mpr fun _ _ => rfl]
    exact ⟨.bl false, H, I, rfl, q⟩
end L3
set_option Elab.async false
set_option linter.all false
set_option maxRecDepth 100000
set_option maxHeartbeats 4000000
namespace L3
open PySem PySem.Spec PyProof.Rows L2
def obsA (as : List Addr) (xf : List Fx) (fn : List He.DefD) (g : Addr → Option Obj) : He.AlD := obsX xf fn (He.frG g as)
def hookA (as : List Addr) (xf : List Fx) (fn : List He.DefD) : PySem.W.Hook where
  α := He.AlD
  obs := fun s => obsA as xf fn s.heap.get?
  val := fun _ => He.valD fn
  says := fun _ h => ∃ K : PySem.W.Frag, K.In h ∧ SaysX xf fn K
  of := fun _ _ e => ⟨_, He.frG_in, e⟩
  keeps := fun _ _ _ ⟨K, hK, c⟩ k => ⟨K, PySem.W.Frag.In.keeps hK k, c⟩
theorem obsA_eq {as : List Addr} {xf : List Fx} {fn : List He.DefD} {g : Addr → Option Obj} {s : Shared} (h : ∀ a, g a = s.heap.get? a) : obsA as xf fn g = (hookA as xf fn).obs s := by
  have e : g = s.heap.get? := funext h
  rw [e] <;> rfl
end L3
noncomputable section
namespace HandSHeadRun
open PySem PySem.W PySem.Calls PyProof.Rows
abbrev endR (r : OpenRow) (M : Nat) (w : World) (os : OsState) : Option SharedT := endF (stepQ (denQ tabQ) r.prog w) M r.prog w os
/-- what the machine's own looks say behind the run -/
def RunA (r : OpenRow) (q : Program) (M : Nat) (loose : List PySem.Str) (w : World) : Prop :=
  ∀ os : OsState, (endR r M w os).map (fun s => (looksF r.prog (boot_heap w.params) s.abs, seenQ q loose (importedModules r.prog.main.body) (fun s => xlAt q [] s && recOk r.toRowW.records s) s.abs)) = some (true, openGood q loose)
/-- some facts of what stands behind the run -/
def RunB (r : OpenRow) (M : Nat) (fs : SharedT → Bool) (w : World) : Prop := ∀ os : OsState, (endR r M w os).map fs = some true
/-- the defs' own values -/
def RunC (r : OpenRow) (H : Hook) (ob : SharedT → H.α) (M : Nat) (w : World) : Prop := ∀ os : OsState, (endR r M w os).map ob = some (H.val w)
theorem runEq_of {r : OpenRow} {q : Program} {H : Hook} {ob : SharedT → H.α} {M : Nat} {loose : List PySem.Str} {w : World} (a : RunA r q M loose w) (c : RunC r H ob M w) : RunEq r q H ob M loose w := fun os => by
  have h1 := a os
  have h2 := c os
  show (endR r M w os).map _ = _
  cases e : endR r M w os with
  | none =>
    rw [e] at h1
    cases h1
  | some s =>
    rw [e] at h1 h2
    have g1 := Option.some.inj h1
    have g2 := Option.some.inj h2
    show some _ = some _
    rw [← g2]
    have e1 := congrArg Prod.fst g1
    have e2 := congrArg Prod.snd g1
    dsimp only at e1 e2 ⊢
    rw [e1, e2]
end HandSHeadRun
end
namespace L3
open PySem PySem.Spec PyProof.Rows L2 HandSHeadRun
/-- the facts in three parts: two of the Bools, one of the defs -/
theorem runC_of {r : PySem.W.OpenRow} {as : List Addr} {xf xf1 xf2 : List Fx} {fn : List He.DefD} {M : Nat} {w : World} (e : xf = xf1 ++ xf2)
    (a : RunB r M (fun s => xf1.all fun p => p (He.frG (getT s) as)) w) (b : RunB r M (fun s => xf2.all fun p => p (He.frG (getT s) as)) w)
    (c : ∀ os : OsState, (endR r M w os).map (fun s => (fn.all fun d => d.ok (He.frG (getT s) as), fn.map fun d => He.fnW (He.frG (getT s) as) d.at_)) = some (true, fn.map He.DefD.val)) :
    RunC r (hookA as xf fn) (fun s => obsA as xf fn (getT s)) M w := fun os => by
  have h1 := a os
  have h2 := b os
  have h3 := c os
  cases e2 : endR r M w os with
  | none =>
    rw [e2] at h1
    cases h1
  | some s =>
    rw [e2] at h1 h2 h3
    have g1 : (xf1.all fun p => p (He.frG (getT s) as)) = true := Option.some.inj h1
    have g2 : (xf2.all fun p => p (He.frG (getT s) as)) = true := Option.some.inj h2
    have g3 := Option.some.inj h3
    have e3 := congrArg Prod.fst g3
    have e4 := congrArg Prod.snd g3
    dsimp only at e3 e4
    show some (obsA as xf fn (getT s)) = some (He.valD fn)
    unfold obsA obsX He.valD
    rw [e, List.all_append, g1, g2, e3, e4]
    rfl
end L3
set_option Elab.async false
set_option linter.all false
set_option maxRecDepth 100000
set_option maxHeartbeats 4000000
namespace L3
open PySem PySem.Spec PyProof.Rows L2
end L3
namespace L3
open PySem PySem.Spec PyProof.Rows L2
/-- at a a list or a tuple of these -/
def SqS (K : PySem.W.Frag) (H : Hp) (a : Addr) (xs : List V) : Prop := SqL K H a xs ∨ SqT K H a xs
theorem SqS.at {K : PySem.W.Frag} {H H' : Hp} {a : Addr} {xs : List V} (h : SqS K H a xs) (e : Stays H H' (.ref a)) : SqS K H' a xs := by
  rcases h with ((h | ⟨o, h⟩) | h) | ((h | ⟨o, h⟩) | h)
  · exact .inl (.inl (.inl (e _ _ rfl h)))
  · exact .inl (.inl (.inr ⟨o, e _ _ rfl h⟩))
  · exact .inl (.inr h)
  · exact .inr (.inl (.inl (e _ _ rfl h)))
  · exact .inr (.inl (.inr ⟨o, e _ _ rfl h⟩))
  · exact .inr (.inr h)
theorem stays_ex {H H' : Hp} {x : V} (e : Ex H H') : Stays H H' x := fun a o _ h => e a o h
theorem SqS.mono {K : PySem.W.Frag} {H H' : Hp} {a : Addr} {xs : List V} (h : SqS K H a xs) (e : Ex H H') : SqS K H' a xs := h.at (stays_ex e)
end L3
set_option Elab.async false
set_option linter.all false
set_option maxRecDepth 100000
set_option maxHeartbeats 4000000
namespace L3
open PySem PySem.Spec PyProof.Rows L2
end L3
set_option Elab.async false
set_option linter.all false
set_option maxRecDepth 100000
set_option maxHeartbeats 4000000
namespace L3
open PySem PySem.Spec PySem.Calls PyProof.Rows
open L2
abbrev SpP := Addr × Obj → Sp
structure FbP (P : Program) (w : World) (K : PySem.W.Frag) (mg : Str → Option Value) (base : Heap) (k : Nat) (f : Addr) (fd : FuncData) (ps : List Str) (sp : SpP) : Prop where
  len : ∀ p vs H Q E, sp p vs H Q E → vs.length = ps.length
  run : ∀ (A : Around) (outer : List Env) (s : Shared) (H : Hp) (args : Args) (us : List Value) (vs : List V) (Q : VK) (E : XK) (p : Addr × Obj), L2H.RoomH k A → L2H.PinOk outer H s p → Env0 P w K mg base A outer s H → BindsTo s fd args (ps.zip us) → Vals vs us → sp p vs H Q E →
    codeAny (model P w) A (.call (.ref f) args) (CR (L2.CX P w) outer P w H s Q E) s
section
variable {P : Program} {w : World} {K : PySem.W.Frag} {mg : Str → Option Value} {base : Heap} {x qual : Str} {params : Arguments} {body : List Stmt} {scope : Scope} {dvs : List V} {kws : List (Str × V)} {f : Addr} {fd : FuncData} {k : Nat} {ps N : List Str} {sp : SpP}
/-- such a def called with all parameters by place -/
def FcP (P : Program) (w : World) (K : PySem.W.Frag) (mg : Str → Option Value) (base : Heap) (k : Nat) (f : Addr) (sp : SpP) : Prop :=
  ∀ (A : Around) (outer : List Env) (s : Shared) (H : Hp) (us : List Value) (vs : List V) (Q : VK) (E : XK) (p : Addr × Obj), L2H.RoomH k A → L2H.PinOk outer H s p → Env0 P w K mg base A outer s H → Vals vs us → sp p vs H Q E →
    codeAny (model P w) A (.call (.ref f) ⟨us, []⟩) (CR (L2.CX P w) outer P w H s Q E) s
theorem FcP.mono {j : Nat} (F : FcP P w K mg base j f sp) (h : j ≤ k) : FcP P w K mg base k f sp := fun A outer s H us vs Q E p hr => F A outer s H us vs Q E p (hr.mono h)
theorem FbP.all (F : FbP P w K mg base k f fd ps sp) (hb : Binds K fd ps []) : FcP P w K mg base k f sp := fun A outer s H us vs Q E p hr hp e0 r h => by
  have KX : K.In s.heap := e0.mod.kin.keeps fun b o e => (e0.bs b o e).1
  have l2 : us.length = ps.length := by rw [← r.length]; exact F.len _ _ _ _ _ h
  have b := hb s us KX (by rw [List.append_nil]; exact l2)
  rw [List.append_nil] at b
  exact F.run A outer s H ⟨us, []⟩ us vs Q E p hr hp e0 b r h
end
end L3
set_option Elab.async false
set_option linter.all false
set_option maxRecDepth 100000
set_option maxHeartbeats 4000000
namespace L3
open PySem PySem.Spec PyProof.Rows L2 PySem.SeqAt PySem.Calls
end L3
set_option Elab.async false
set_option linter.all false
set_option maxRecDepth 100000
set_option maxHeartbeats 4000000
namespace L3
open PySem PySem.Spec PyProof.Rows L2 PySem.SeqAt PySem.Calls
end L3
set_option Elab.async false
set_option linter.all false
set_option maxRecDepth 100000
set_option maxHeartbeats 4000000
namespace L3
open PySem PySem.Spec PyProof.Rows L2 PySem.SeqAt PySem.Calls
end L3
set_option Elab.async false
set_option linter.all false
set_option maxRecDepth 100000
set_option maxHeartbeats 4000000
namespace L3
open PySem PySem.Spec PyProof.Rows L2 PySem.SeqAt PySem.Calls
end L3
set_option Elab.async false
set_option linter.all false
set_option maxRecDepth 100000
set_option maxHeartbeats 4000000
namespace L3
open PySem PySem.Spec PyProof.Rows L2 PySem.SeqAt PySem.Calls
theorem splice_eq (its its2 : List Value) (a c : Nat) : its.toArray.extract 0 a ++ its2.toArray ++ its.toArray.extract c its.toArray.size = (its.take a ++ its2 ++ its.drop c).toArray := by
  apply Array.toList_inj.mp
  first
    | (simp
       exact List.take_of_length_le (by simp))
    | simp [List.take_of_length_le]
    | simp
section
variable {prog : Program} {w : World} {A : Around} {E : Value → Shared → Prop} {s : Shared}
theorem setItem_sliceO {l b sl : Addr} {its new : List Value} {n n2 : Nat} {vl vu : Value} {lo hi : Option Int} {Q : Unit → Shared → Prop}
    (e : s.heap.get? l = some { cls := .type "list", data := .seq its.toArray n }) (e2 : s.heap.get? b = some { cls := .type "list", data := .seq new.toArray n2 }) (hne : l ≠ b)
    (hs : s.heap.IsSliceOf sl vl vu .none) (pl : IsPart vl lo) (pu : IsPart vu hi)
    (hsz : its.length + new.length ≤ sizeLine) (h : Q () { s with heap := s.heap.update l (Obj.mapSeq fun xs => xs.extract 0 (HT.sIx its.length 0 lo) ++ new.toArray ++ xs.extract (max (HT.sIx its.length 0 lo) (HT.sIx its.length its.length hi)) xs.size) }) :
    wpAny (model prog w) A (setItem (.ref l) (.ref sl) (.ref b)) Q E s := by
  have hl : s.heap.IsList l its.toArray := PySem.IsL.isList e
  have hb : s.heap.IsList b new.toArray := PySem.IsL.isList e2
  obtain ⟨os, hos, hcs, hds⟩ := id hs
  have hTs : s.TypeIs (.ref sl) "slice" := ⟨os, hos, hcs⟩
  have hstep : ¬ ((rawPart none == rawInt 0) = true) := Bool.false_ne_true
  have hsame : Builtin.List.listSameRef (.ref l) (.ref b) = false := by
    unfold Builtin.List.listSameRef
    exact beq_eq_false_iff_ne.mpr hne
  obtain ⟨b1, b2, b3⟩ := slice_bounds lo hi its.toArray.size
  have hbd : sliceBounds lo hi none its.toArray.size = (((HT.sIx its.length 0 lo : Nat) : Int), ((HT.sIx its.length its.length hi : Nat) : Int), 1) := by
    rw [List.size_toArray] at b1 b2 b3 ⊢
    exact Prod.ext b1 (Prod.ext b2 b3)
  obtain ⟨a, ha⟩ : ∃ a, a = HT.sIx its.length 0 lo := ⟨_, rfl⟩
  obtain ⟨c, hc⟩ : ∃ c, c = HT.sIx its.length its.length hi := ⟨_, rfl⟩
  rw [← ha, ← hc] at hbd h
  have hmax : (max (a : Int) (c : Int)).toNat = max a c := by omega
  have hz' : ((fun xs : Array Value => xs.extract 0 a ++ new.toArray ++ xs.extract (max a c) xs.size) its.toArray).size ≤ sizeLine + 1 := by
    simp only [Array.size_append, Array.size_extract, List.size_toArray]
    omega
  unfold setItem
  try with_reducible refine wpAny_holding ?_
  first | refine wpAny_bind (wpAny_pure ?_) | skip
  refine wpAny_bind (wpAny_sequenceKey hl.typeIs (by decide) ?_)
  refine wpAny_bind (wpAny_callSpecial?_slot (name := Str.ofString "__setitem__") hl.typeIs slot_list_setitem
    (wpAny_call_entry slot_list_setitem hl.typeIs entry_list_setitem ?_ (args_list_setitem _ _ _)))
  show wpAny _ _ (Builtin.List.listSubscript? (.ref sl) >>= _) _ _ s
  refine wpAny_bind ?_
  unfold Builtin.List.listSubscript?
  refine wpAny_bind (wpAny_specialOf hTs slice_no_index ?_)
  simp only [Option.isNone_none, if_true]
  refine wpAny_pure ?_
  show wpAny _ _ (typeOf (.ref sl) >>= _) _ _ s
  refine wpAny_bind (wpAny_typeOf hTs ?_)
  first
    | rw [if_neg (by decide)]
    | refine PySem.W.KFB.if_not (by decide) ?_
  rw [listSliceParts_eq]
  refine wpAny_bind (wpAny_bind (wpAny_field hos hds (x := .none) rfl (wpAny_bind (wpAny_listPart .none ?_))))
  rw [if_neg hstep]
  refine wpAny_bind (wpAny_field hos hds (x := vl) rfl (wpAny_bind (wpAny_listPart pl ?_)))
  refine wpAny_bind (wpAny_field hos hds (x := vu) rfl (wpAny_bind (wpAny_listPart pu (wpAny_pure ?_))))
  first
    | simp only [hsame, Bool.false_eq_true, if_false]
    | refine PySem.W.KFB.if_not hsame ?_
    | (dsimp only
       rw [if_neg (by rw [hsame]; exact Bool.false_ne_true)])
  refine wpAny_bind (m := Builtin.List.listAllItems (.ref b) "must assign iterable to extended slice") ?_
  unfold Builtin.List.listAllItems
  refine wpAny_bind (wpAny_typeOf hb.typeIs ?_)
  first
    | refine PySem.W.KFB.if_so (by decide) ?_
    | rw [if_pos (by decide)]
    | simp only [beq_self_eq_true, Bool.true_or, if_true]
  unfold Builtin.List.listItems
  refine wpAny_bind (wpAny_seqItems e2 rfl (wpAny_pure ?_))
  refine wpAny_bind (wpAny_bind (wpAny_seqItems e rfl (wpAny_pure ?_)))
  refine wpAny_bind (wpAny_of_eq ((sliceIndices_raw lo hi none its.toArray.size (by simp)).trans (congrArg (pure : Int × Int × Int → Sem (Int × Int × Int)) hbd)) ?_)
  show wpAny _ _ (if ((1 : Int) == 1) = true then _ else _) _ _ s
  rw [if_pos (by decide)]
  refine wpAny_bind (wpAny_rule ?_)
  have hsz2 : its.toArray.size + new.toArray.size ≤ sizeLine := by rw [List.size_toArray, List.size_toArray]; exact hsz
  first
    | simp only [notLongL hsz2, Bool.false_eq_true, if_false]
    | refine PySem.W.KFB.if_not (notLongL hsz2) ?_
  first | refine wpAny_bind (wpAny_pure ?_) | skip
  show wpAny _ _ (updateSeq l (fun xs => xs.extract 0 ((a : Int)).toNat ++ new.toArray ++ xs.extract (max (a : Int) (c : Int)).toNat xs.size) >>= _) _ _ s
  rw [hmax, Int.toNat_natCast]
  refine wpAny_bind (wpAny_updateSeq (hz := Nat.le_trans (Nat.le_add_right _ _) hsz2) (_hz' := hz') e rfl ?_)
  refine wpAny_bind (wpAny_letGo ?_)
  first
    | exact wpAny_bind (wpAny_pure (wpAny_pure ⟨.none, rfl, wpAny_pure h⟩))
    | exact wpAny_pure ⟨.none, rfl, wpAny_pure h⟩
end
/-- xs[lo:hi] = ys -/
def spliceV (xs ys : List V) (lo hi : Option Int) : List V := xs.take (HT.sIx xs.length 0 lo) ++ ys ++ xs.drop (max (HT.sIx xs.length 0 lo) (HT.sIx xs.length xs.length hi))
def gSubS (to : TE) (tl th : TO) : TG := fun v σ H Q => to σ H fun o H1 => tl σ H1 fun lo H2 => th σ H2 fun hi H3 => ∃ p q xs ys, o = .ref p ∧ v = .ref q ∧ p ≠ q ∧ H3 p = some (.lst xs) ∧ H3 q = some (.lst ys) ∧ xs.length + ys.length ≤ sizeLine ∧ Q σ (upd H3 p (.lst (spliceV xs ys lo hi)))
section
variable {X : Cx} {pos p2 : Pos}
theorem pg_subS {o : Expr} {lo hi : Option Expr} {to : TE} {tl th : TO} (ho : PE X o to) (hl : PO X lo tl) (hu : PO X hi th)
    (ha : ∀ v, assign (.Subscript o (.Slice lo hi none p2) pos) X.env v = (do
      let ov ← holding [v] (eval o X.env)
      let iv ← holding [v, ov] (eval (.Slice lo hi none p2) X.env)
      standAt pos
      holding [v, ov, iv] (setItem ov iv v)
      release [iv, v, ov] []) := by intro _; rfl) : PG X (.Subscript o (.Slice lo hi none p2) pos) (gSubS to tl th) := by
  refine ⟨fun pins s σ H v u Q I r h => ?_⟩
  rw [ha]
  refine wpAny_bind (wpAny_holding (thn (ho.run pins s σ H _ I h) fun ov s1 ⟨x, H1, I1, r1, q1⟩ => ?_))
  refine wpAny_bind (wpAny_holding ?_)
  refine wpAny_Slice (thn (hl.run pins s1 σ H1 _ I1 q1) fun vl s2 ⟨l, H2, I2, pl, q2⟩ => thn (hu.run pins s2 σ H2 _ I2 q2) fun vu s3 ⟨u3, H3, I3, pu, q3⟩ => ?_)
  rw [evalPart_none]
  refine wpAny_pure ?_
  have I4 : Inv X pins σ H3 { s3 with heap := s3.heap.push { cls := .type "slice", data := .fields #[vl, vu, .none] } } := I3.kept (t' := s3.toks) fun b ob q => Heap.get?_push_of_some _ q
  obtain ⟨p, q, xs, ys, rfl, rfl, hne, hp, hq, hz, qq⟩ := q3
  cases (show ov = Value.ref p from r1)
  cases (show u = Value.ref q from r)
  obtain ⟨z, its, n, rr, hl1, e⟩ := I4.lstM hp
  obtain ⟨z2, its2, n2, rr2, hl2, e2⟩ := I4.lstM hq
  refine wpAny_bind (wpAny_standAt (wpAny_bind (wpAny_holding (setItem_sliceO e e2 hne (Heap.IsSliceOf.new ..) pl pu (by omega) ?_))))
  refine wpAny_release ⟨σ, _, I4.lset (its' := its.take (HT.sIx xs.length 0 l) ++ its2 ++ its.drop (max (HT.sIx xs.length 0 l) (HT.sIx xs.length xs.length u3))) (t' := s3.toks) hp e ?_ (Vals.append (Vals.append (rr.take _) rr2) (rr.drop _)) ?_, qq⟩
  · have hlen : its.length = xs.length := rr.length.symm
    rw [hlen]
    exact splice_eq its its2 _ _
  · rw [List.length_append, List.length_append, List.length_take, List.length_drop]
    omega
end
theorem call_isiTK {X : Cx} (K : PySem.W.Frag) (h : X.K = K := by rfl) : CallR X (.builtin "isinstance") (rIsiT K) := by
  subst h
  exact call_isiT
end L3
set_option Elab.async false
set_option linter.all false
set_option maxRecDepth 100000
set_option maxHeartbeats 4000000
namespace L3
open PySem PySem.Spec PyProof.Rows L2 PySem.SeqAt PySem.Calls
def shownV : V → Option Str
  | .non => some (Str.ofString "None")
  | .int i => some (Str.ofString (toString i))
  | .str s => some (reprText s)
  | _ => none
def ShowOk : V → Prop
  | .int i => i.natAbs.log2 < 1920
  | .str s => (reprText s).length ≤ sizeLine
  | _ => True
@[irreducible] def rReprV : List V → Hp → VK → Prop := fun xs H Q => ∃ (x : V) (z : Str), xs = [x] ∧ shownV x = some z ∧ ShowOk x ∧ Q (.str z) H
theorem call_reprV {X : Cx} : CallR X (.builtin "repr") rReprV := by
  intro pins s σ H xs us Q I r h
  unfold rReprV at h
  obtain ⟨x, z, rfl, hz, ho, q⟩ := h
  obtain ⟨u, rfl, r1⟩ := vals1 r
  cases x with
  | non =>
    cases (show u = Value.none from r1)
    cases hz
    exact PySem.P.repr_of_none ⟨.str _, H, I.tok _, ⟨_, rfl⟩, q⟩
  | int i =>
    obtain ⟨t, e⟩ := (show ∃ t, u = Value.int i t from r1)
    cases e
    cases hz
    exact PySem.P.repr_of_int ho ⟨.str _, H, I.tok _, ⟨_, rfl⟩, q⟩
  | str s =>
    obtain ⟨t, e⟩ := (show ∃ t, u = Value.str s t from r1)
    cases e
    cases hz
    exact PySem.P.repr_of_str ⟨.str _, H, I.tok _, ⟨_, rfl⟩, q⟩ ho
  | _ => cases hz
theorem rr_plain {x : V} {z : Str} {H : Hp} {Q : VK} (h : shownV x = some z) (ho : ShowOk x) (q : Q (.str z) H) : rReprV [x] H Q := by
  unfold rReprV
  exact ⟨x, z, rfl, h, ho, q⟩
/-- a == b, two lists of the same things -/
def rEqS (K : PySem.W.Frag) : R2 := fun x y H Q => ∃ (a b : Addr) (xs : List V), x = .ref a ∧ y = .ref b ∧ SqL K H a xs ∧ SqL K H b xs ∧ xs.all selfV = true ∧ Q (.bl true) H
theorem op_eqS {X : Cx} (hu : X.A.units + 64 < cLine) : OpR X (compareOp .Eq) (rEqS X.K) := by
  intro pins s σ H x y v u Q I rx ry h
  obtain ⟨a, b, xs, rfl, rfl, ha, hb, hs, q⟩ := h
  cases (show v = Value.ref a from rx)
  cases (show u = Value.ref b from ry)
  obtain ⟨us, r1, p1, _⟩ := I.list ha
  obtain ⟨ws, r2, p2, _⟩ := I.list hb
  have l1 := r1.length
  have l2 := r2.length
  refine SeqAt.RcAt.lists (A := X.A) (e := fun _ => true) p1.isList p2.isList (by simp; omega) (by omega) (fun j h1 h2 => ?_) X.prog X.w _ _ ?_
  · have hj : j < xs.length := by simp at h1; omega
    have e := List.getElem?_eq_getElem hj
    obtain ⟨u1, g1, q1⟩ := r1.get e
    obtain ⟨u2, g2, q2⟩ := r2.get e
    have f1 : us.toArray[j] = u1 := by
      obtain ⟨_, z⟩ := List.getElem?_eq_some_iff.mp g1
      simpa using z
    have f2 : ws.toArray[j] = u2 := by
      obtain ⟨_, z⟩ := List.getElem?_eq_some_iff.mp g2
      simpa using z
    rw [f1, f2]
    exact eqAt_self (List.all_eq_true.mp hs _ (List.getElem_mem hj)) q1 q2
  · rw [show ((List.range us.toArray.size).all fun _ => true) = true from List.all_eq_true.mpr fun _ _ => rfl]
    exact ⟨.bl true, H, I, rfl, q⟩
end L3
set_option Elab.async false
set_option linter.all false
set_option maxRecDepth 100000
set_option maxHeartbeats 4000000
namespace Toy
open PySem PySem.Spec PyProof.Rows L2 L3
def top (i : Nat) : Stmt := PySem.Challenge.pw_shortgoings_k28_handed_and_shared.main.body.getD i (.Pass ⟨0, 0, 0, 0⟩)
abbrev s_is_whole : Stmt := top 9
abbrev s_is_moment : Stmt := top 10
abbrev s_want_moment : Stmt := top 11
abbrev s_clock_of : Stmt := top 12
abbrev s_show_moment : Stmt := top 13
abbrev s_is_number : Stmt := top 18
abbrev s_Short_moments : Stmt := inClass (top 19) 0
abbrev s_Short_pieces : Stmt := inClass (top 19) 1
abbrev s_Short_begins : Stmt := inClass (top 19) 2
abbrev s_Short_ends : Stmt := inClass (top 19) 3
abbrev s_Short_means_many : Stmt := inClass (top 19) 4
abbrev s_Short_nested : Stmt := inClass (top 19) 5
abbrev s_all_rising : Stmt := top 20
abbrev s_shorts_in : Stmt := top 21
abbrev s_row_moments : Stmt := top 22
abbrev s_row_many : Stmt := top 23
abbrev s_row_pieces : Stmt := top 24
abbrev s_row_text : Stmt := top 25
abbrev s_At_init : Stmt := inClass (top 26) 0
abbrev s_At_moments : Stmt := inClass (top 26) 1
abbrev s_At_pieces : Stmt := inClass (top 26) 2
abbrev s_At_begins : Stmt := inClass (top 26) 3
abbrev s_At_ends : Stmt := inClass (top 26) 4
abbrev s_At_means_many : Stmt := inClass (top 26) 5
abbrev s_At_nested : Stmt := inClass (top 26) 6
abbrev s_At_str : Stmt := inClass (top 26) 7
abbrev s_Over_init : Stmt := inClass (top 27) 0
abbrev s_Over_parts : Stmt := inClass (top 27) 1
abbrev s_Over_moments : Stmt := inClass (top 27) 2
abbrev s_Over_pieces : Stmt := inClass (top 27) 3
abbrev s_Over_begins : Stmt := inClass (top 27) 4
abbrev s_Over_ends : Stmt := inClass (top 27) 5
abbrev s_Over_means_many : Stmt := inClass (top 27) 6
abbrev s_Over_nested : Stmt := inClass (top 27) 7
abbrev s_Over_str : Stmt := inClass (top 27) 8
abbrev s_Spread_init : Stmt := inClass (top 29) 0
abbrev s_Spread_parts : Stmt := inClass (top 29) 1
abbrev s_Spread_moments : Stmt := inClass (top 29) 2
abbrev s_Spread_pieces : Stmt := inClass (top 29) 3
abbrev s_Spread_eq : Stmt := inClass (top 29) 4
abbrev s_Spread_len : Stmt := inClass (top 29) 5
abbrev s_Spread_str : Stmt := inClass (top 29) 6
abbrev s_Spread_repr : Stmt := inClass (top 29) 7
abbrev s__law_pot : Stmt := top 31
abbrev s__law_draw : Stmt := top 32
abbrev s__law_moments : Stmt := top 33
abbrev s__law_row_moments : Stmt := top 34
abbrev s__law_wide : Stmt := top 35
abbrev s__law_gap : Stmt := top 36
abbrev s__law_short : Stmt := top 37
abbrev s__law_row : Stmt := top 38
abbrev s__law_spread : Stmt := top 39
abbrev s__law_pieces : Stmt := top 40
abbrev s__law_time : Stmt := top 41
abbrev s__law_word : Stmt := top 42
abbrev s__law_text : Stmt := top 43
abbrev s__law_made : Stmt := top 44
abbrev s__law_change : Stmt := top 45
abbrev s__law_kept : Stmt := top 46
abbrev s__law_asked : Stmt := top 47
abbrev s__law_ats_right : Stmt := top 48
abbrev s__law_right : Stmt := top 49
abbrev s_law : Stmt := top 50
theorem sc_is_whole : FnScope ["thing"] ["thing"] (defScope s_is_whole) := ⟨rfl, rfl, rfl, by decide +kernel, rfl, by decide +kernel, by decide +kernel⟩
theorem sc_is_moment : FnScope ["thing"] ["thing"] (defScope s_is_moment) := ⟨rfl, rfl, rfl, by decide +kernel, rfl, by decide +kernel, by decide +kernel⟩
theorem sc_want_moment : FnScope ["thing"] ["thing"] (defScope s_want_moment) := ⟨rfl, rfl, rfl, by decide +kernel, rfl, by decide +kernel, by decide +kernel⟩
theorem sc_clock_of : FnScope ["moment"] ["moment"] (defScope s_clock_of) := ⟨rfl, rfl, rfl, by decide +kernel, rfl, by decide +kernel, by decide +kernel⟩
theorem sc_show_moment : FnScope ["moment", "day", "hour", "minute", "text"] ["moment"] (defScope s_show_moment) := ⟨rfl, rfl, rfl, by decide +kernel, rfl, by decide +kernel, by decide +kernel⟩
theorem sc_is_number : FnScope ["thing", "least"] ["thing", "least"] (defScope s_is_number) := ⟨rfl, rfl, rfl, by decide +kernel, rfl, by decide +kernel, by decide +kernel⟩
theorem sc_all_rising : FnScope ["parts", "one", "other"] ["parts"] (defScope s_all_rising) := ⟨rfl, rfl, rfl, by decide +kernel, rfl, by decide +kernel, by decide +kernel⟩
theorem sc_shorts_in : FnScope ["parts", "found", "one"] ["parts"] (defScope s_shorts_in) := ⟨rfl, rfl, rfl, by decide +kernel, rfl, by decide +kernel, by decide +kernel⟩
theorem sc_row_moments : FnScope ["parts", "found", "one"] ["parts"] (defScope s_row_moments) := ⟨rfl, rfl, rfl, by decide +kernel, rfl, by decide +kernel, by decide +kernel⟩
theorem sc_row_many : FnScope ["parts", "one"] ["parts"] (defScope s_row_many) := ⟨rfl, rfl, rfl, by decide +kernel, rfl, by decide +kernel, by decide +kernel⟩
theorem sc_row_pieces : FnScope ["parts", "one"] ["parts"] (defScope s_row_pieces) := ⟨rfl, rfl, rfl, by decide +kernel, rfl, by decide +kernel, by decide +kernel⟩
theorem sc_row_text : FnScope ["parts", "one"] ["parts"] (defScope s_row_text) := ⟨rfl, rfl, rfl, by decide +kernel, rfl, by decide +kernel, by decide +kernel⟩
theorem sc_At_init : FnScope ["self", "moment"] ["self", "moment"] (defScope s_At_init) := ⟨rfl, rfl, rfl, by decide +kernel, rfl, by decide +kernel, by decide +kernel⟩
theorem sc_At_moments : FnScope ["self"] ["self"] (defScope s_At_moments) := ⟨rfl, rfl, rfl, by decide +kernel, rfl, by decide +kernel, by decide +kernel⟩
theorem sc_At_pieces : FnScope ["self"] ["self"] (defScope s_At_pieces) := ⟨rfl, rfl, rfl, by decide +kernel, rfl, by decide +kernel, by decide +kernel⟩
theorem sc_At_begins : FnScope ["self"] ["self"] (defScope s_At_begins) := ⟨rfl, rfl, rfl, by decide +kernel, rfl, by decide +kernel, by decide +kernel⟩
theorem sc_At_ends : FnScope ["self"] ["self"] (defScope s_At_ends) := ⟨rfl, rfl, rfl, by decide +kernel, rfl, by decide +kernel, by decide +kernel⟩
theorem sc_At_means_many : FnScope ["self"] ["self"] (defScope s_At_means_many) := ⟨rfl, rfl, rfl, by decide +kernel, rfl, by decide +kernel, by decide +kernel⟩
theorem sc_At_nested : FnScope ["self"] ["self"] (defScope s_At_nested) := ⟨rfl, rfl, rfl, by decide +kernel, rfl, by decide +kernel, by decide +kernel⟩
theorem sc_At_str : FnScope ["self"] ["self"] (defScope s_At_str) := ⟨rfl, rfl, rfl, by decide +kernel, rfl, by decide +kernel, by decide +kernel⟩
theorem sc_Over_init : FnScope ["self", "parts", "many", "step"] ["self", "parts", "many", "step"] (defScope s_Over_init) := ⟨rfl, rfl, rfl, by decide +kernel, rfl, by decide +kernel, by decide +kernel⟩
theorem sc_Over_parts : FnScope ["self"] ["self"] (defScope s_Over_parts) := ⟨rfl, rfl, rfl, by decide +kernel, rfl, by decide +kernel, by decide +kernel⟩
theorem sc_Over_moments : FnScope ["self", "own", "found", "time", "moment"] ["self"] (defScope s_Over_moments) := ⟨rfl, rfl, rfl, by decide +kernel, rfl, by decide +kernel, by decide +kernel⟩
theorem sc_Over_pieces : FnScope ["self"] ["self"] (defScope s_Over_pieces) := ⟨rfl, rfl, rfl, by decide +kernel, rfl, by decide +kernel, by decide +kernel⟩
theorem sc_Over_begins : FnScope ["self"] ["self"] (defScope s_Over_begins) := ⟨rfl, rfl, rfl, by decide +kernel, rfl, by decide +kernel, by decide +kernel⟩
theorem sc_Over_ends : FnScope ["self"] ["self"] (defScope s_Over_ends) := ⟨rfl, rfl, rfl, by decide +kernel, rfl, by decide +kernel, by decide +kernel⟩
theorem sc_Over_means_many : FnScope ["self"] ["self"] (defScope s_Over_means_many) := ⟨rfl, rfl, rfl, by decide +kernel, rfl, by decide +kernel, by decide +kernel⟩
theorem sc_Over_nested : FnScope ["self", "one"] ["self"] (defScope s_Over_nested) := ⟨rfl, rfl, rfl, by decide +kernel, rfl, by decide +kernel, by decide +kernel⟩
theorem sc_Over_str : FnScope ["self"] ["self"] (defScope s_Over_str) := ⟨rfl, rfl, rfl, by decide +kernel, rfl, by decide +kernel, by decide +kernel⟩
theorem sc_Spread_init : FnScope ["self", "parts"] ["self", "parts"] (defScope s_Spread_init) := ⟨rfl, rfl, rfl, by decide +kernel, rfl, by decide +kernel, by decide +kernel⟩
theorem sc_Spread_parts : FnScope ["self"] ["self"] (defScope s_Spread_parts) := ⟨rfl, rfl, rfl, by decide +kernel, rfl, by decide +kernel, by decide +kernel⟩
theorem sc_Spread_moments : FnScope ["self"] ["self"] (defScope s_Spread_moments) := ⟨rfl, rfl, rfl, by decide +kernel, rfl, by decide +kernel, by decide +kernel⟩
theorem sc_Spread_pieces : FnScope ["self"] ["self"] (defScope s_Spread_pieces) := ⟨rfl, rfl, rfl, by decide +kernel, rfl, by decide +kernel, by decide +kernel⟩
theorem sc_Spread_len : FnScope ["self"] ["self"] (defScope s_Spread_len) := ⟨rfl, rfl, rfl, by decide +kernel, rfl, by decide +kernel, by decide +kernel⟩
theorem sc_Spread_str : FnScope ["self"] ["self"] (defScope s_Spread_str) := ⟨rfl, rfl, rfl, by decide +kernel, rfl, by decide +kernel, by decide +kernel⟩
theorem sc__law_pot : FnScope ["_law_script", "_law_k", "_law_cell"] ["_law_script", "_law_k"] (defScope s__law_pot) := ⟨rfl, rfl, rfl, by decide +kernel, rfl, by decide +kernel, by decide +kernel⟩
theorem sc__law_draw : FnScope ["_law_pot_here", "_law_many", "_law_digit"] ["_law_pot_here", "_law_many"] (defScope s__law_draw) := ⟨rfl, rfl, rfl, by decide +kernel, rfl, by decide +kernel, by decide +kernel⟩
theorem sc__law_moments : FnScope ["_law_short_here", "_law_own", "_law_found", "_law_time_here", "_law_moment"] ["_law_short_here"] (defScope s__law_moments) := ⟨rfl, rfl, rfl, by decide +kernel, rfl, by decide +kernel, by decide +kernel⟩
theorem sc__law_row_moments : FnScope ["_law_row_here", "_law_found", "_law_short_here"] ["_law_row_here"] (defScope s__law_row_moments) := ⟨rfl, rfl, rfl, by decide +kernel, rfl, by decide +kernel, by decide +kernel⟩
theorem sc__law_wide : FnScope ["_law_pot_here", "_law_found", "_law_k"] ["_law_pot_here"] (defScope s__law_wide) := ⟨rfl, rfl, rfl, by decide +kernel, rfl, by decide +kernel, by decide +kernel⟩
theorem sc__law_gap : FnScope ["_law_pot_here", "_law_way"] ["_law_pot_here"] (defScope s__law_gap) := ⟨rfl, rfl, rfl, by decide +kernel, rfl, by decide +kernel, by decide +kernel⟩
theorem sc__law_short : FnScope ["_law_pot_here", "_law_at", "_law_room", "_law_deep", "_law_left", "_law_row_here", "_law_moments_here", "_law_most", "_law_many"] ["_law_pot_here", "_law_at", "_law_room", "_law_deep", "_law_left"] (defScope s__law_short) := ⟨rfl, rfl, rfl, by decide +kernel, rfl, by decide +kernel, by decide +kernel⟩
theorem sc__law_row : FnScope ["_law_pot_here", "_law_at", "_law_room", "_law_deep", "_law_left", "_law_found", "_law_here", "_law_many", "_law_k", "_law_short_here"] ["_law_pot_here", "_law_at", "_law_room", "_law_deep", "_law_left"] (defScope s__law_row) := ⟨rfl, rfl, rfl, by decide +kernel, rfl, by decide +kernel, by decide +kernel⟩
theorem sc__law_pieces : FnScope ["_law_row_here", "_law_found", "_law_short_here"] ["_law_row_here"] (defScope s__law_pieces) := ⟨rfl, rfl, rfl, by decide +kernel, rfl, by decide +kernel, by decide +kernel⟩
theorem sc__law_time : FnScope ["_law_moment", "_law_day", "_law_rest", "_law_hour", "_law_minute", "_law_text_here"] ["_law_moment"] (defScope s__law_time) := ⟨rfl, rfl, rfl, by decide +kernel, rfl, by decide +kernel, by decide +kernel⟩
theorem sc__law_word : FnScope ["_law_short_here"] ["_law_short_here"] (defScope s__law_word) := ⟨rfl, rfl, rfl, by decide +kernel, rfl, by decide +kernel, by decide +kernel⟩
theorem sc__law_text : FnScope ["_law_row_here", "_law_short_here"] ["_law_row_here"] (defScope s__law_text) := ⟨rfl, rfl, rfl, by decide +kernel, rfl, by decide +kernel, by decide +kernel⟩
theorem sc__law_made : FnScope ["_law_short_here", "_law_part"] ["_law_short_here"] (defScope s__law_made) := ⟨rfl, rfl, rfl, by decide +kernel, rfl, by decide +kernel, by decide +kernel⟩
theorem sc__law_change : FnScope ["_law_pot_here", "_law_told", "_law_way", "_law_one"] ["_law_pot_here", "_law_told"] (defScope s__law_change) := ⟨rfl, rfl, rfl, by decide +kernel, rfl, by decide +kernel, by decide +kernel⟩
theorem sc__law_kept : FnScope ["_law_told", "_law_shown", "_law_one"] ["_law_told", "_law_shown"] (defScope s__law_kept) := ⟨rfl, rfl, rfl, by decide +kernel, rfl, by decide +kernel, by decide +kernel⟩
theorem sc__law_asked : FnScope ["_law_pot_here", "_law_thing", "_law_row_here", "_law_moments_here", "_law_text_here", "_law_found", "_law_parts", "_law_first", "_law_second", "_law_many", "_law_words", "_law_one", "_law_short_here"] ["_law_pot_here", "_law_thing", "_law_row_here", "_law_moments_here", "_law_text_here"] (defScope s__law_asked) := ⟨rfl, rfl, rfl, by decide +kernel, rfl, by decide +kernel, by decide +kernel⟩
theorem sc__law_ats_right : FnScope ["_law_pot_here", "_law_one", "_law_moment", "_law_found", "_law_shown"] ["_law_pot_here", "_law_one", "_law_moment"] (defScope s__law_ats_right) := ⟨rfl, rfl, rfl, by decide +kernel, rfl, by decide +kernel, by decide +kernel⟩
theorem sc__law_right : FnScope ["_law_pot_here", "_law_row_here", "_law_moments_here", "_law_step", "_law_shorts", "_law_handed", "_law_spread_here", "_law_over", "_law_alone", "_law_doubled", "_law_text_here", "_law_k", "_law_one", "_law_short_here", "_law_empty", "_law_moment"] ["_law_pot_here"] (defScope s__law_right) := ⟨rfl, rfl, rfl, by decide +kernel, rfl, by decide +kernel, by decide +kernel⟩
theorem sc_law : FnScope ["_law_script", "_law_k"] ["_law_script"] (defScope s_law) := ⟨rfl, rfl, rfl, by decide +kernel, rfl, by decide +kernel, by decide +kernel⟩
structure Env (K : PySem.W.Frag) (mg : Str → Option Value) : Prop where
  g_is_whole : mg "is_whole" = some (.ref (He.ga K "is_whole"))
  g_is_moment : mg "is_moment" = some (.ref (He.ga K "is_moment"))
  g_want_moment : mg "want_moment" = some (.ref (He.ga K "want_moment"))
  g_clock_of : mg "clock_of" = some (.ref (He.ga K "clock_of"))
  g_show_moment : mg "show_moment" = some (.ref (He.ga K "show_moment"))
  g_is_number : mg "is_number" = some (.ref (He.ga K "is_number"))
  g_all_rising : mg "all_rising" = some (.ref (He.ga K "all_rising"))
  g_shorts_in : mg "shorts_in" = some (.ref (He.ga K "shorts_in"))
  g_row_moments : mg "row_moments" = some (.ref (He.ga K "row_moments"))
  g_row_many : mg "row_many" = some (.ref (He.ga K "row_many"))
  g_row_pieces : mg "row_pieces" = some (.ref (He.ga K "row_pieces"))
  g_row_text : mg "row_text" = some (.ref (He.ga K "row_text"))
  g__law_pot : mg "_law_pot" = some (.ref (He.ga K "_law_pot"))
  g__law_draw : mg "_law_draw" = some (.ref (He.ga K "_law_draw"))
  g__law_moments : mg "_law_moments" = some (.ref (He.ga K "_law_moments"))
  g__law_row_moments : mg "_law_row_moments" = some (.ref (He.ga K "_law_row_moments"))
  g__law_wide : mg "_law_wide" = some (.ref (He.ga K "_law_wide"))
  g__law_gap : mg "_law_gap" = some (.ref (He.ga K "_law_gap"))
  g__law_short : mg "_law_short" = some (.ref (He.ga K "_law_short"))
  g__law_row : mg "_law_row" = some (.ref (He.ga K "_law_row"))
  g__law_spread : mg "_law_spread" = some (.ref (He.ga K "_law_spread"))
  g__law_pieces : mg "_law_pieces" = some (.ref (He.ga K "_law_pieces"))
  g__law_time : mg "_law_time" = some (.ref (He.ga K "_law_time"))
  g__law_word : mg "_law_word" = some (.ref (He.ga K "_law_word"))
  g__law_text : mg "_law_text" = some (.ref (He.ga K "_law_text"))
  g__law_made : mg "_law_made" = some (.ref (He.ga K "_law_made"))
  g__law_change : mg "_law_change" = some (.ref (He.ga K "_law_change"))
  g__law_kept : mg "_law_kept" = some (.ref (He.ga K "_law_kept"))
  g__law_asked : mg "_law_asked" = some (.ref (He.ga K "_law_asked"))
  g__law_ats_right : mg "_law_ats_right" = some (.ref (He.ga K "_law_ats_right"))
  g__law_right : mg "_law_right" = some (.ref (He.ga K "_law_right"))
  g_law : mg "law" = some (.ref (He.ga K "law"))
  v_HOUR : ∃ u, mg "HOUR" = some u ∧ RelV (.int (60)) u
  v_DAY : ∃ u, mg "DAY" = some u ∧ RelV (.int (1440)) u
  v_COLON : ∃ u, mg "COLON" = some u ∧ RelV (.str ":") u
  v_BLANK : ∃ u, mg "BLANK" = some u ∧ RelV (.str " ") u
  v_MOST_MOMENTS : ∃ u, mg "MOST_MOMENTS" = some u ∧ RelV (.int (1440)) u
  v_MOST_NESTED : ∃ u, mg "MOST_NESTED" = some u ∧ RelV (.int (8)) u
  v_NO_PARTS : ∃ u, mg "NO_PARTS" = some u ∧ RelV (.str "-") u
  n_all : mg "all" = none
  n_bool : mg "bool" = none
  n_divmod : mg "divmod" = none
  n_int : mg "int" = none
  n_isinstance : mg "isinstance" = none
  n_len : mg "len" = none
  n_list : mg "list" = none
  n_max : mg "max" = none
  n_min : mg "min" = none
  n_range : mg "range" = none
  n_repr : mg "repr" = none
  n_str : mg "str" = none
  n_sum : mg "sum" = none
  n_tuple : mg "tuple" = none
  n_zip : mg "zip" = none
  g_GoingError : mg "GoingError" = some (.ref (He.ga K "GoingError"))
  x_GoingError : Exo K (He.ga K "GoingError") bmV "ValueError.__new__"
  g_NoTime : mg "NoTime" = some (.ref (He.ga K "NoTime"))
  x_NoTime : Exo K (He.ga K "NoTime") bmV "ValueError.__new__"
  g_NoPiece : mg "NoPiece" = some (.ref (He.ga K "NoPiece"))
  x_NoPiece : Exo K (He.ga K "NoPiece") bmV "ValueError.__new__"
  g_Short : mg "Short" = some (.ref (He.ga K "Short"))
  g_At : mg "At" = some (.ref (He.ga K "At"))
  g_Over : mg "Over" = some (.ref (He.ga K "Over"))
  g_Spread : mg "Spread" = some (.ref (He.ga K "Spread"))
  sys : SysK K
  c_Short : Cls K (He.ga K "Short")
  i_Short : InsC K (He.ga K "Short")
  m_Short_moments : Meth K (He.ga K "Short") "moments" (He.ma K (He.ga K "Short") "moments")
  m_Short_pieces : Meth K (He.ga K "Short") "pieces" (He.ma K (He.ga K "Short") "pieces")
  m_Short_begins : Meth K (He.ga K "Short") "begins" (He.ma K (He.ga K "Short") "begins")
  m_Short_ends : Meth K (He.ga K "Short") "ends" (He.ma K (He.ga K "Short") "ends")
  m_Short_means_many : Meth K (He.ga K "Short") "means_many" (He.ma K (He.ga K "Short") "means_many")
  m_Short_nested : Meth K (He.ga K "Short") "nested" (He.ma K (He.ga K "Short") "nested")
  kit_Short_Short : PySem.W.kitOne K (.ref (He.ga K "Short")) (.ref (He.ga K "Short")) = some true
  kit_Short_Spread : PySem.W.kitOne K (.ref (He.ga K "Short")) (.ref (He.ga K "Spread")) = some false
  kit_Short_At : PySem.W.kitOne K (.ref (He.ga K "Short")) (.ref (He.ga K "At")) = some false
  kit_Short_Over : PySem.W.kitOne K (.ref (He.ga K "Short")) (.ref (He.ga K "Over")) = some false
  kit_Short_int : PySem.W.kitOne K (.ref (He.ga K "Short")) (.type "int") = some false
  kit_Short_bool : PySem.W.kitOne K (.ref (He.ga K "Short")) (.type "bool") = some false
  kit_Short_list : PySem.W.kitOne K (.ref (He.ga K "Short")) (.type "list") = some false
  kit_Short_tuple : PySem.W.kitOne K (.ref (He.ga K "Short")) (.type "tuple") = some false
  c_At : Cls K (He.ga K "At")
  i_At : InsC K (He.ga K "At")
  a_At_moment : NoAttr K (He.ga K "At") "moment"
  m_At_init : Meth K (He.ga K "At") "__init__" (He.ma K (He.ga K "At") "__init__")
  m_At_moments : Meth K (He.ga K "At") "moments" (He.ma K (He.ga K "At") "moments")
  m_At_pieces : Meth K (He.ga K "At") "pieces" (He.ma K (He.ga K "At") "pieces")
  m_At_begins : Meth K (He.ga K "At") "begins" (He.ma K (He.ga K "At") "begins")
  m_At_ends : Meth K (He.ga K "At") "ends" (He.ma K (He.ga K "At") "ends")
  m_At_means_many : Meth K (He.ga K "At") "means_many" (He.ma K (He.ga K "At") "means_many")
  m_At_nested : Meth K (He.ga K "At") "nested" (He.ma K (He.ga K "At") "nested")
  m_At_str : Meth K (He.ga K "At") "__str__" (He.ma K (He.ga K "At") "__str__")
  mk_At : Mk K (He.ga K "At") (He.ma K (He.ga K "At") "__init__")
  kit_At_Short : PySem.W.kitOne K (.ref (He.ga K "At")) (.ref (He.ga K "Short")) = some true
  kit_At_Spread : PySem.W.kitOne K (.ref (He.ga K "At")) (.ref (He.ga K "Spread")) = some false
  kit_At_At : PySem.W.kitOne K (.ref (He.ga K "At")) (.ref (He.ga K "At")) = some true
  kit_At_Over : PySem.W.kitOne K (.ref (He.ga K "At")) (.ref (He.ga K "Over")) = some false
  kit_At_int : PySem.W.kitOne K (.ref (He.ga K "At")) (.type "int") = some false
  kit_At_bool : PySem.W.kitOne K (.ref (He.ga K "At")) (.type "bool") = some false
  kit_At_list : PySem.W.kitOne K (.ref (He.ga K "At")) (.type "list") = some false
  kit_At_tuple : PySem.W.kitOne K (.ref (He.ga K "At")) (.type "tuple") = some false
  c_Over : Cls K (He.ga K "Over")
  i_Over : InsC K (He.ga K "Over")
  a_Over_kept : NoAttr K (He.ga K "Over") "kept"
  a_Over_many : NoAttr K (He.ga K "Over") "many"
  a_Over_step : NoAttr K (He.ga K "Over") "step"
  m_Over_init : Meth K (He.ga K "Over") "__init__" (He.ma K (He.ga K "Over") "__init__")
  m_Over_parts : Meth K (He.ga K "Over") "parts" (He.ma K (He.ga K "Over") "parts")
  m_Over_moments : Meth K (He.ga K "Over") "moments" (He.ma K (He.ga K "Over") "moments")
  m_Over_pieces : Meth K (He.ga K "Over") "pieces" (He.ma K (He.ga K "Over") "pieces")
  m_Over_begins : Meth K (He.ga K "Over") "begins" (He.ma K (He.ga K "Over") "begins")
  m_Over_ends : Meth K (He.ga K "Over") "ends" (He.ma K (He.ga K "Over") "ends")
  m_Over_means_many : Meth K (He.ga K "Over") "means_many" (He.ma K (He.ga K "Over") "means_many")
  m_Over_nested : Meth K (He.ga K "Over") "nested" (He.ma K (He.ga K "Over") "nested")
  m_Over_str : Meth K (He.ga K "Over") "__str__" (He.ma K (He.ga K "Over") "__str__")
  mk_Over : Mk K (He.ga K "Over") (He.ma K (He.ga K "Over") "__init__")
  kit_Over_Short : PySem.W.kitOne K (.ref (He.ga K "Over")) (.ref (He.ga K "Short")) = some true
  kit_Over_Spread : PySem.W.kitOne K (.ref (He.ga K "Over")) (.ref (He.ga K "Spread")) = some false
  kit_Over_At : PySem.W.kitOne K (.ref (He.ga K "Over")) (.ref (He.ga K "At")) = some false
  kit_Over_Over : PySem.W.kitOne K (.ref (He.ga K "Over")) (.ref (He.ga K "Over")) = some true
  kit_Over_int : PySem.W.kitOne K (.ref (He.ga K "Over")) (.type "int") = some false
  kit_Over_bool : PySem.W.kitOne K (.ref (He.ga K "Over")) (.type "bool") = some false
  kit_Over_list : PySem.W.kitOne K (.ref (He.ga K "Over")) (.type "list") = some false
  kit_Over_tuple : PySem.W.kitOne K (.ref (He.ga K "Over")) (.type "tuple") = some false
  c_Spread : Cls K (He.ga K "Spread")
  i_Spread : InsC K (He.ga K "Spread")
  a_Spread_kept : NoAttr K (He.ga K "Spread") "kept"
  a_Spread_held : NoAttr K (He.ga K "Spread") "held"
  m_Spread_init : Meth K (He.ga K "Spread") "__init__" (He.ma K (He.ga K "Spread") "__init__")
  m_Spread_parts : Meth K (He.ga K "Spread") "parts" (He.ma K (He.ga K "Spread") "parts")
  m_Spread_moments : Meth K (He.ga K "Spread") "moments" (He.ma K (He.ga K "Spread") "moments")
  m_Spread_pieces : Meth K (He.ga K "Spread") "pieces" (He.ma K (He.ga K "Spread") "pieces")
  m_Spread_eq : Meth K (He.ga K "Spread") "__eq__" (He.ma K (He.ga K "Spread") "__eq__")
  m_Spread_len : Meth K (He.ga K "Spread") "__len__" (He.ma K (He.ga K "Spread") "__len__")
  m_Spread_str : Meth K (He.ga K "Spread") "__str__" (He.ma K (He.ga K "Spread") "__str__")
  m_Spread_repr : Meth K (He.ga K "Spread") "__repr__" (He.ma K (He.ga K "Spread") "__repr__")
  mk_Spread : Mk K (He.ga K "Spread") (He.ma K (He.ga K "Spread") "__init__")
  nb_Spread : NoBase K (He.ga K "Spread")
  kit_Spread_Short : PySem.W.kitOne K (.ref (He.ga K "Spread")) (.ref (He.ga K "Short")) = some false
  kit_Spread_Spread : PySem.W.kitOne K (.ref (He.ga K "Spread")) (.ref (He.ga K "Spread")) = some true
  kit_Spread_At : PySem.W.kitOne K (.ref (He.ga K "Spread")) (.ref (He.ga K "At")) = some false
  kit_Spread_Over : PySem.W.kitOne K (.ref (He.ga K "Spread")) (.ref (He.ga K "Over")) = some false
  kit_Spread_int : PySem.W.kitOne K (.ref (He.ga K "Spread")) (.type "int") = some false
  kit_Spread_bool : PySem.W.kitOne K (.ref (He.ga K "Spread")) (.type "bool") = some false
  kit_Spread_list : PySem.W.kitOne K (.ref (He.ga K "Spread")) (.type "list") = some false
  kit_Spread_tuple : PySem.W.kitOne K (.ref (He.ga K "Spread")) (.type "tuple") = some false
  kit_int_Short : PySem.W.kitOne K (.type "int") (.ref (He.ga K "Short")) = some false
  kit_bool_Short : PySem.W.kitOne K (.type "bool") (.ref (He.ga K "Short")) = some false
  kit_str_Short : PySem.W.kitOne K (.type "str") (.ref (He.ga K "Short")) = some false
  kit_NoneType_Short : PySem.W.kitOne K (.type "NoneType") (.ref (He.ga K "Short")) = some false
  kit_list_Short : PySem.W.kitOne K (.type "list") (.ref (He.ga K "Short")) = some false
  kit_tuple_Short : PySem.W.kitOne K (.type "tuple") (.ref (He.ga K "Short")) = some false
  kit_dict_Short : PySem.W.kitOne K (.type "dict") (.ref (He.ga K "Short")) = some false
  kit_int_Spread : PySem.W.kitOne K (.type "int") (.ref (He.ga K "Spread")) = some false
  kit_bool_Spread : PySem.W.kitOne K (.type "bool") (.ref (He.ga K "Spread")) = some false
  kit_str_Spread : PySem.W.kitOne K (.type "str") (.ref (He.ga K "Spread")) = some false
  kit_NoneType_Spread : PySem.W.kitOne K (.type "NoneType") (.ref (He.ga K "Spread")) = some false
  kit_list_Spread : PySem.W.kitOne K (.type "list") (.ref (He.ga K "Spread")) = some false
  kit_tuple_Spread : PySem.W.kitOne K (.type "tuple") (.ref (He.ga K "Spread")) = some false
  kit_dict_Spread : PySem.W.kitOne K (.type "dict") (.ref (He.ga K "Spread")) = some false
  kit_int_At : PySem.W.kitOne K (.type "int") (.ref (He.ga K "At")) = some false
  kit_bool_At : PySem.W.kitOne K (.type "bool") (.ref (He.ga K "At")) = some false
  kit_str_At : PySem.W.kitOne K (.type "str") (.ref (He.ga K "At")) = some false
  kit_NoneType_At : PySem.W.kitOne K (.type "NoneType") (.ref (He.ga K "At")) = some false
  kit_list_At : PySem.W.kitOne K (.type "list") (.ref (He.ga K "At")) = some false
  kit_tuple_At : PySem.W.kitOne K (.type "tuple") (.ref (He.ga K "At")) = some false
  kit_dict_At : PySem.W.kitOne K (.type "dict") (.ref (He.ga K "At")) = some false
  kit_int_Over : PySem.W.kitOne K (.type "int") (.ref (He.ga K "Over")) = some false
  kit_bool_Over : PySem.W.kitOne K (.type "bool") (.ref (He.ga K "Over")) = some false
  kit_str_Over : PySem.W.kitOne K (.type "str") (.ref (He.ga K "Over")) = some false
  kit_NoneType_Over : PySem.W.kitOne K (.type "NoneType") (.ref (He.ga K "Over")) = some false
  kit_list_Over : PySem.W.kitOne K (.type "list") (.ref (He.ga K "Over")) = some false
  kit_tuple_Over : PySem.W.kitOne K (.type "tuple") (.ref (He.ga K "Over")) = some false
  kit_dict_Over : PySem.W.kitOne K (.type "dict") (.ref (He.ga K "Over")) = some false
  f_is_whole : ∃ fd, FunD K "is_whole" "is_whole" (defArgs s_is_whole) (defBody s_is_whole) (defScope s_is_whole) [] [] (He.ga K "is_whole") fd
  f_is_moment : ∃ fd, FunD K "is_moment" "is_moment" (defArgs s_is_moment) (defBody s_is_moment) (defScope s_is_moment) [] [] (He.ga K "is_moment") fd
  f_want_moment : ∃ fd, FunD K "want_moment" "want_moment" (defArgs s_want_moment) (defBody s_want_moment) (defScope s_want_moment) [] [] (He.ga K "want_moment") fd
  f_clock_of : ∃ fd, FunD K "clock_of" "clock_of" (defArgs s_clock_of) (defBody s_clock_of) (defScope s_clock_of) [] [] (He.ga K "clock_of") fd
  f_show_moment : ∃ fd, FunD K "show_moment" "show_moment" (defArgs s_show_moment) (defBody s_show_moment) (defScope s_show_moment) [] [] (He.ga K "show_moment") fd
  f_is_number : ∃ fd, FunD K "is_number" "is_number" (defArgs s_is_number) (defBody s_is_number) (defScope s_is_number) [] [] (He.ga K "is_number") fd
  f_Short_moments : ∃ fd, FunD K "moments" "Short.moments" (defArgs s_Short_moments) (defBody s_Short_moments) (defScope s_Short_moments) [] [] (He.ma K (He.ga K "Short") "moments") fd
  f_Short_pieces : ∃ fd, FunD K "pieces" "Short.pieces" (defArgs s_Short_pieces) (defBody s_Short_pieces) (defScope s_Short_pieces) [] [] (He.ma K (He.ga K "Short") "pieces") fd
  f_Short_begins : ∃ fd, FunD K "begins" "Short.begins" (defArgs s_Short_begins) (defBody s_Short_begins) (defScope s_Short_begins) [] [] (He.ma K (He.ga K "Short") "begins") fd
  f_Short_ends : ∃ fd, FunD K "ends" "Short.ends" (defArgs s_Short_ends) (defBody s_Short_ends) (defScope s_Short_ends) [] [] (He.ma K (He.ga K "Short") "ends") fd
  f_Short_means_many : ∃ fd, FunD K "means_many" "Short.means_many" (defArgs s_Short_means_many) (defBody s_Short_means_many) (defScope s_Short_means_many) [] [] (He.ma K (He.ga K "Short") "means_many") fd
  f_Short_nested : ∃ fd, FunD K "nested" "Short.nested" (defArgs s_Short_nested) (defBody s_Short_nested) (defScope s_Short_nested) [] [] (He.ma K (He.ga K "Short") "nested") fd
  f_all_rising : ∃ fd, FunD K "all_rising" "all_rising" (defArgs s_all_rising) (defBody s_all_rising) (defScope s_all_rising) [] [] (He.ga K "all_rising") fd
  f_shorts_in : ∃ fd, FunD K "shorts_in" "shorts_in" (defArgs s_shorts_in) (defBody s_shorts_in) (defScope s_shorts_in) [] [] (He.ga K "shorts_in") fd
  f_row_moments : ∃ fd, FunD K "row_moments" "row_moments" (defArgs s_row_moments) (defBody s_row_moments) (defScope s_row_moments) [] [] (He.ga K "row_moments") fd
  f_row_many : ∃ fd, FunD K "row_many" "row_many" (defArgs s_row_many) (defBody s_row_many) (defScope s_row_many) [] [] (He.ga K "row_many") fd
  f_row_pieces : ∃ fd, FunD K "row_pieces" "row_pieces" (defArgs s_row_pieces) (defBody s_row_pieces) (defScope s_row_pieces) [] [] (He.ga K "row_pieces") fd
  f_row_text : ∃ fd, FunD K "row_text" "row_text" (defArgs s_row_text) (defBody s_row_text) (defScope s_row_text) [] [] (He.ga K "row_text") fd
  f_At_init : ∃ fd, FunD K "__init__" "At.__init__" (defArgs s_At_init) (defBody s_At_init) (defScope s_At_init) [] [] (He.ma K (He.ga K "At") "__init__") fd
  f_At_moments : ∃ fd, FunD K "moments" "At.moments" (defArgs s_At_moments) (defBody s_At_moments) (defScope s_At_moments) [] [] (He.ma K (He.ga K "At") "moments") fd
  f_At_pieces : ∃ fd, FunD K "pieces" "At.pieces" (defArgs s_At_pieces) (defBody s_At_pieces) (defScope s_At_pieces) [] [] (He.ma K (He.ga K "At") "pieces") fd
  f_At_begins : ∃ fd, FunD K "begins" "At.begins" (defArgs s_At_begins) (defBody s_At_begins) (defScope s_At_begins) [] [] (He.ma K (He.ga K "At") "begins") fd
  f_At_ends : ∃ fd, FunD K "ends" "At.ends" (defArgs s_At_ends) (defBody s_At_ends) (defScope s_At_ends) [] [] (He.ma K (He.ga K "At") "ends") fd
  f_At_means_many : ∃ fd, FunD K "means_many" "At.means_many" (defArgs s_At_means_many) (defBody s_At_means_many) (defScope s_At_means_many) [] [] (He.ma K (He.ga K "At") "means_many") fd
  f_At_nested : ∃ fd, FunD K "nested" "At.nested" (defArgs s_At_nested) (defBody s_At_nested) (defScope s_At_nested) [] [] (He.ma K (He.ga K "At") "nested") fd
  f_At_str : ∃ fd, FunD K "__str__" "At.__str__" (defArgs s_At_str) (defBody s_At_str) (defScope s_At_str) [] [] (He.ma K (He.ga K "At") "__str__") fd
  f_Over_init : ∃ fd, FunD K "__init__" "Over.__init__" (defArgs s_Over_init) (defBody s_Over_init) (defScope s_Over_init) [.int (2), .int (60)] [] (He.ma K (He.ga K "Over") "__init__") fd
  f_Over_parts : ∃ fd, FunD K "parts" "Over.parts" (defArgs s_Over_parts) (defBody s_Over_parts) (defScope s_Over_parts) [] [] (He.ma K (He.ga K "Over") "parts") fd
  f_Over_moments : ∃ fd, FunD K "moments" "Over.moments" (defArgs s_Over_moments) (defBody s_Over_moments) (defScope s_Over_moments) [] [] (He.ma K (He.ga K "Over") "moments") fd
  f_Over_pieces : ∃ fd, FunD K "pieces" "Over.pieces" (defArgs s_Over_pieces) (defBody s_Over_pieces) (defScope s_Over_pieces) [] [] (He.ma K (He.ga K "Over") "pieces") fd
  f_Over_begins : ∃ fd, FunD K "begins" "Over.begins" (defArgs s_Over_begins) (defBody s_Over_begins) (defScope s_Over_begins) [] [] (He.ma K (He.ga K "Over") "begins") fd
  f_Over_ends : ∃ fd, FunD K "ends" "Over.ends" (defArgs s_Over_ends) (defBody s_Over_ends) (defScope s_Over_ends) [] [] (He.ma K (He.ga K "Over") "ends") fd
  f_Over_means_many : ∃ fd, FunD K "means_many" "Over.means_many" (defArgs s_Over_means_many) (defBody s_Over_means_many) (defScope s_Over_means_many) [] [] (He.ma K (He.ga K "Over") "means_many") fd
  f_Over_nested : ∃ fd, FunD K "nested" "Over.nested" (defArgs s_Over_nested) (defBody s_Over_nested) (defScope s_Over_nested) [] [] (He.ma K (He.ga K "Over") "nested") fd
  f_Over_str : ∃ fd, FunD K "__str__" "Over.__str__" (defArgs s_Over_str) (defBody s_Over_str) (defScope s_Over_str) [] [] (He.ma K (He.ga K "Over") "__str__") fd
  f_Spread_init : ∃ fd, FunD K "__init__" "Spread.__init__" (defArgs s_Spread_init) (defBody s_Spread_init) (defScope s_Spread_init) [] [] (He.ma K (He.ga K "Spread") "__init__") fd
  f_Spread_parts : ∃ fd, FunD K "parts" "Spread.parts" (defArgs s_Spread_parts) (defBody s_Spread_parts) (defScope s_Spread_parts) [] [] (He.ma K (He.ga K "Spread") "parts") fd
  f_Spread_moments : ∃ fd, FunD K "moments" "Spread.moments" (defArgs s_Spread_moments) (defBody s_Spread_moments) (defScope s_Spread_moments) [] [] (He.ma K (He.ga K "Spread") "moments") fd
  f_Spread_pieces : ∃ fd, FunD K "pieces" "Spread.pieces" (defArgs s_Spread_pieces) (defBody s_Spread_pieces) (defScope s_Spread_pieces) [] [] (He.ma K (He.ga K "Spread") "pieces") fd
  f_Spread_eq : ∃ fd, FunD K "__eq__" "Spread.__eq__" (defArgs s_Spread_eq) (defBody s_Spread_eq) (defScope s_Spread_eq) [] [] (He.ma K (He.ga K "Spread") "__eq__") fd
  f_Spread_len : ∃ fd, FunD K "__len__" "Spread.__len__" (defArgs s_Spread_len) (defBody s_Spread_len) (defScope s_Spread_len) [] [] (He.ma K (He.ga K "Spread") "__len__") fd
  f_Spread_str : ∃ fd, FunD K "__str__" "Spread.__str__" (defArgs s_Spread_str) (defBody s_Spread_str) (defScope s_Spread_str) [] [] (He.ma K (He.ga K "Spread") "__str__") fd
  f_Spread_repr : ∃ fd, FunD K "__repr__" "Spread.__repr__" (defArgs s_Spread_repr) (defBody s_Spread_repr) (defScope s_Spread_repr) [] [] (He.ma K (He.ga K "Spread") "__repr__") fd
  f__law_pot : ∃ fd, FunD K "_law_pot" "_law_pot" (defArgs s__law_pot) (defBody s__law_pot) (defScope s__law_pot) [] [] (He.ga K "_law_pot") fd
  f__law_draw : ∃ fd, FunD K "_law_draw" "_law_draw" (defArgs s__law_draw) (defBody s__law_draw) (defScope s__law_draw) [] [] (He.ga K "_law_draw") fd
  f__law_moments : ∃ fd, FunD K "_law_moments" "_law_moments" (defArgs s__law_moments) (defBody s__law_moments) (defScope s__law_moments) [] [] (He.ga K "_law_moments") fd
  f__law_row_moments : ∃ fd, FunD K "_law_row_moments" "_law_row_moments" (defArgs s__law_row_moments) (defBody s__law_row_moments) (defScope s__law_row_moments) [] [] (He.ga K "_law_row_moments") fd
  f__law_wide : ∃ fd, FunD K "_law_wide" "_law_wide" (defArgs s__law_wide) (defBody s__law_wide) (defScope s__law_wide) [] [] (He.ga K "_law_wide") fd
  f__law_gap : ∃ fd, FunD K "_law_gap" "_law_gap" (defArgs s__law_gap) (defBody s__law_gap) (defScope s__law_gap) [] [] (He.ga K "_law_gap") fd
  f__law_short : ∃ fd, FunD K "_law_short" "_law_short" (defArgs s__law_short) (defBody s__law_short) (defScope s__law_short) [] [] (He.ga K "_law_short") fd
  f__law_row : ∃ fd, FunD K "_law_row" "_law_row" (defArgs s__law_row) (defBody s__law_row) (defScope s__law_row) [] [] (He.ga K "_law_row") fd
  f__law_spread : ∃ fd, FunD K "_law_spread" "_law_spread" (defArgs s__law_spread) (defBody s__law_spread) (defScope s__law_spread) [] [] (He.ga K "_law_spread") fd
  f__law_pieces : ∃ fd, FunD K "_law_pieces" "_law_pieces" (defArgs s__law_pieces) (defBody s__law_pieces) (defScope s__law_pieces) [] [] (He.ga K "_law_pieces") fd
  f__law_time : ∃ fd, FunD K "_law_time" "_law_time" (defArgs s__law_time) (defBody s__law_time) (defScope s__law_time) [] [] (He.ga K "_law_time") fd
  f__law_word : ∃ fd, FunD K "_law_word" "_law_word" (defArgs s__law_word) (defBody s__law_word) (defScope s__law_word) [] [] (He.ga K "_law_word") fd
  f__law_text : ∃ fd, FunD K "_law_text" "_law_text" (defArgs s__law_text) (defBody s__law_text) (defScope s__law_text) [] [] (He.ga K "_law_text") fd
  f__law_made : ∃ fd, FunD K "_law_made" "_law_made" (defArgs s__law_made) (defBody s__law_made) (defScope s__law_made) [] [] (He.ga K "_law_made") fd
  f__law_change : ∃ fd, FunD K "_law_change" "_law_change" (defArgs s__law_change) (defBody s__law_change) (defScope s__law_change) [] [] (He.ga K "_law_change") fd
  f__law_kept : ∃ fd, FunD K "_law_kept" "_law_kept" (defArgs s__law_kept) (defBody s__law_kept) (defScope s__law_kept) [] [] (He.ga K "_law_kept") fd
  f__law_asked : ∃ fd, FunD K "_law_asked" "_law_asked" (defArgs s__law_asked) (defBody s__law_asked) (defScope s__law_asked) [] [] (He.ga K "_law_asked") fd
  f__law_ats_right : ∃ fd, FunD K "_law_ats_right" "_law_ats_right" (defArgs s__law_ats_right) (defBody s__law_ats_right) (defScope s__law_ats_right) [] [] (He.ga K "_law_ats_right") fd
  f__law_right : ∃ fd, FunD K "_law_right" "_law_right" (defArgs s__law_right) (defBody s__law_right) (defScope s__law_right) [] [] (He.ga K "_law_right") fd
  f_law : ∃ fd, FunD K "law" "law" (defArgs s_law) (defBody s_law) (defScope s_law) [] [] (He.ga K "law") fd
end Toy
namespace Toy
open PySem PySem.Spec PyProof.Rows L2 L3
theorem Env.k_is_whole {K : PySem.W.Frag} {mg : Str → Option Value} (T : Env K mg) : PySem.W.keepIn K (.ref (He.ga K "is_whole")) = true := let ⟨_, F⟩ := T.f_is_whole; F.kp
theorem Env.k_is_moment {K : PySem.W.Frag} {mg : Str → Option Value} (T : Env K mg) : PySem.W.keepIn K (.ref (He.ga K "is_moment")) = true := let ⟨_, F⟩ := T.f_is_moment; F.kp
theorem Env.k_want_moment {K : PySem.W.Frag} {mg : Str → Option Value} (T : Env K mg) : PySem.W.keepIn K (.ref (He.ga K "want_moment")) = true := let ⟨_, F⟩ := T.f_want_moment; F.kp
theorem Env.k_clock_of {K : PySem.W.Frag} {mg : Str → Option Value} (T : Env K mg) : PySem.W.keepIn K (.ref (He.ga K "clock_of")) = true := let ⟨_, F⟩ := T.f_clock_of; F.kp
theorem Env.k_show_moment {K : PySem.W.Frag} {mg : Str → Option Value} (T : Env K mg) : PySem.W.keepIn K (.ref (He.ga K "show_moment")) = true := let ⟨_, F⟩ := T.f_show_moment; F.kp
theorem Env.k_is_number {K : PySem.W.Frag} {mg : Str → Option Value} (T : Env K mg) : PySem.W.keepIn K (.ref (He.ga K "is_number")) = true := let ⟨_, F⟩ := T.f_is_number; F.kp
theorem Env.k_all_rising {K : PySem.W.Frag} {mg : Str → Option Value} (T : Env K mg) : PySem.W.keepIn K (.ref (He.ga K "all_rising")) = true := let ⟨_, F⟩ := T.f_all_rising; F.kp
theorem Env.k_shorts_in {K : PySem.W.Frag} {mg : Str → Option Value} (T : Env K mg) : PySem.W.keepIn K (.ref (He.ga K "shorts_in")) = true := let ⟨_, F⟩ := T.f_shorts_in; F.kp
theorem Env.k_row_moments {K : PySem.W.Frag} {mg : Str → Option Value} (T : Env K mg) : PySem.W.keepIn K (.ref (He.ga K "row_moments")) = true := let ⟨_, F⟩ := T.f_row_moments; F.kp
theorem Env.k_row_many {K : PySem.W.Frag} {mg : Str → Option Value} (T : Env K mg) : PySem.W.keepIn K (.ref (He.ga K "row_many")) = true := let ⟨_, F⟩ := T.f_row_many; F.kp
theorem Env.k_row_pieces {K : PySem.W.Frag} {mg : Str → Option Value} (T : Env K mg) : PySem.W.keepIn K (.ref (He.ga K "row_pieces")) = true := let ⟨_, F⟩ := T.f_row_pieces; F.kp
theorem Env.k_row_text {K : PySem.W.Frag} {mg : Str → Option Value} (T : Env K mg) : PySem.W.keepIn K (.ref (He.ga K "row_text")) = true := let ⟨_, F⟩ := T.f_row_text; F.kp
theorem Env.k__law_pot {K : PySem.W.Frag} {mg : Str → Option Value} (T : Env K mg) : PySem.W.keepIn K (.ref (He.ga K "_law_pot")) = true := let ⟨_, F⟩ := T.f__law_pot; F.kp
theorem Env.k__law_draw {K : PySem.W.Frag} {mg : Str → Option Value} (T : Env K mg) : PySem.W.keepIn K (.ref (He.ga K "_law_draw")) = true := let ⟨_, F⟩ := T.f__law_draw; F.kp
theorem Env.k__law_moments {K : PySem.W.Frag} {mg : Str → Option Value} (T : Env K mg) : PySem.W.keepIn K (.ref (He.ga K "_law_moments")) = true := let ⟨_, F⟩ := T.f__law_moments; F.kp
theorem Env.k__law_row_moments {K : PySem.W.Frag} {mg : Str → Option Value} (T : Env K mg) : PySem.W.keepIn K (.ref (He.ga K "_law_row_moments")) = true := let ⟨_, F⟩ := T.f__law_row_moments; F.kp
theorem Env.k__law_wide {K : PySem.W.Frag} {mg : Str → Option Value} (T : Env K mg) : PySem.W.keepIn K (.ref (He.ga K "_law_wide")) = true := let ⟨_, F⟩ := T.f__law_wide; F.kp
theorem Env.k__law_gap {K : PySem.W.Frag} {mg : Str → Option Value} (T : Env K mg) : PySem.W.keepIn K (.ref (He.ga K "_law_gap")) = true := let ⟨_, F⟩ := T.f__law_gap; F.kp
theorem Env.k__law_short {K : PySem.W.Frag} {mg : Str → Option Value} (T : Env K mg) : PySem.W.keepIn K (.ref (He.ga K "_law_short")) = true := let ⟨_, F⟩ := T.f__law_short; F.kp
theorem Env.k__law_row {K : PySem.W.Frag} {mg : Str → Option Value} (T : Env K mg) : PySem.W.keepIn K (.ref (He.ga K "_law_row")) = true := let ⟨_, F⟩ := T.f__law_row; F.kp
theorem Env.k__law_pieces {K : PySem.W.Frag} {mg : Str → Option Value} (T : Env K mg) : PySem.W.keepIn K (.ref (He.ga K "_law_pieces")) = true := let ⟨_, F⟩ := T.f__law_pieces; F.kp
theorem Env.k__law_time {K : PySem.W.Frag} {mg : Str → Option Value} (T : Env K mg) : PySem.W.keepIn K (.ref (He.ga K "_law_time")) = true := let ⟨_, F⟩ := T.f__law_time; F.kp
theorem Env.k__law_word {K : PySem.W.Frag} {mg : Str → Option Value} (T : Env K mg) : PySem.W.keepIn K (.ref (He.ga K "_law_word")) = true := let ⟨_, F⟩ := T.f__law_word; F.kp
theorem Env.k__law_text {K : PySem.W.Frag} {mg : Str → Option Value} (T : Env K mg) : PySem.W.keepIn K (.ref (He.ga K "_law_text")) = true := let ⟨_, F⟩ := T.f__law_text; F.kp
theorem Env.k__law_made {K : PySem.W.Frag} {mg : Str → Option Value} (T : Env K mg) : PySem.W.keepIn K (.ref (He.ga K "_law_made")) = true := let ⟨_, F⟩ := T.f__law_made; F.kp
theorem Env.k__law_change {K : PySem.W.Frag} {mg : Str → Option Value} (T : Env K mg) : PySem.W.keepIn K (.ref (He.ga K "_law_change")) = true := let ⟨_, F⟩ := T.f__law_change; F.kp
theorem Env.k__law_kept {K : PySem.W.Frag} {mg : Str → Option Value} (T : Env K mg) : PySem.W.keepIn K (.ref (He.ga K "_law_kept")) = true := let ⟨_, F⟩ := T.f__law_kept; F.kp
theorem Env.k__law_asked {K : PySem.W.Frag} {mg : Str → Option Value} (T : Env K mg) : PySem.W.keepIn K (.ref (He.ga K "_law_asked")) = true := let ⟨_, F⟩ := T.f__law_asked; F.kp
theorem Env.k__law_ats_right {K : PySem.W.Frag} {mg : Str → Option Value} (T : Env K mg) : PySem.W.keepIn K (.ref (He.ga K "_law_ats_right")) = true := let ⟨_, F⟩ := T.f__law_ats_right; F.kp
theorem Env.k__law_right {K : PySem.W.Frag} {mg : Str → Option Value} (T : Env K mg) : PySem.W.keepIn K (.ref (He.ga K "_law_right")) = true := let ⟨_, F⟩ := T.f__law_right; F.kp
section
def sp_is_whole (K : PySem.W.Frag) : Sp := fun vs H Q _ => ∃ x, vs = [x] ∧ Cl K H x ∧ Q (.bl (isW x)) H
theorem fb_is_whole {P : Program} {w : World} {K : PySem.W.Frag} {mg : Str → Option Value} {base : Heap} (T : Env K mg) : ∃ fd, FunD K "is_whole" "is_whole" (defArgs s_is_whole) (defBody s_is_whole) (defScope s_is_whole) [] [] (He.ga K "is_whole") fd ∧ Fb P w K mg base 1 (He.ga K "is_whole") fd ["thing"] (sp_is_whole K) := by
  obtain ⟨fd, F⟩ := T.f_is_whole
  refine ⟨fd, F, fb_of F sc_is_whole (fun vs H Q E h => ?_) (fun cdv A outer s H vs Q E hr h => ?_)⟩
  · obtain ⟨x, rfl, _⟩ := h
    rfl
  · obtain ⟨x, rfl, ⟨t, b, c, ty, h1, h2, e⟩, q⟩ := h
    refine ⟨_, (pss_one (ps_ret (pe_and (pe_callB call_isi (by rfl) T.n_isinstance (by decide +kernel) (pa_cons (pv 0) (pa_cons (pe_bltn (v := .ty "int") (by rfl) T.n_int (by decide +kernel) rfl) pa_nil))) (pe_one (pe_not (pe_callB call_isi (by rfl) T.n_isinstance (by decide +kernel) (pa_cons (pv 0) (pa_cons (pe_bltn (v := .ty "bool") (by rfl) T.n_bool (by decide +kernel) rfl) pa_nil)))))))), ?_⟩
    refine ⟨x, rfl, x, .ty "int", t, _, b, rfl, .ty "int", ty, h1, b, rfl, ?_⟩
    rw [e] at q
    cases b with
    | false => exact q
    | true => exact ⟨x, rfl, x, .ty "bool", t, _, c, rfl, .ty "bool", ty, h2, c, rfl, q⟩
theorem ok_is_whole {P : Program} {w : World} {K : PySem.W.Frag} {mg : Str → Option Value} {base : Heap} (T : Env K mg) : Fc P w K mg base 1 (He.ga K "is_whole") [] (sp_is_whole K ) := by
  obtain ⟨fd, D, F⟩ := fb_is_whole T
  exact F.all (D.bindsN fun _ _ _ _ _ _ us hl => match us, hl with | [_], _ => rfl)
end
section
def sp_is_moment (K : PySem.W.Frag) : Sp := fun vs H Q _ => ∃ x, vs = [x] ∧ Cl K H x ∧ Q (.bl (isM x)) H
theorem fb_is_moment {P : Program} {w : World} {K : PySem.W.Frag} {mg : Str → Option Value} {base : Heap} (T : Env K mg) : ∃ fd, FunD K "is_moment" "is_moment" (defArgs s_is_moment) (defBody s_is_moment) (defScope s_is_moment) [] [] (He.ga K "is_moment") fd ∧ Fb P w K mg base 2 (He.ga K "is_moment") fd ["thing"] (sp_is_moment K) := by
  obtain ⟨fd, F⟩ := T.f_is_moment
  refine ⟨fd, F, fb_of F sc_is_moment (fun vs H Q E h => ?_) (fun cdv A outer s H vs Q E hr h => ?_)⟩
  · obtain ⟨x, rfl, _⟩ := h
    rfl
  · obtain ⟨x, rfl, cl, q⟩ := h
    refine ⟨_, (pss_one (ps_ret (pe_and (c_call (ok_is_whole T) (hr.mono (by decide)) T.g_is_whole T.k_is_whole takes0 (pa_cons (pv 0) pa_nil)) (pe_one (pe_cmpR op_ge (pv 0) pe_int (nomark _)))))), ?_⟩
    refine ⟨x, rfl, x, rfl, cl, isW x, rfl, ?_⟩
    cases x with
    | int i => exact ⟨_, rfl, i, 0, rfl, rfl, q⟩
    | _ => exact q
theorem ok_is_moment {P : Program} {w : World} {K : PySem.W.Frag} {mg : Str → Option Value} {base : Heap} (T : Env K mg) : Fc P w K mg base 2 (He.ga K "is_moment") [] (sp_is_moment K ) := by
  obtain ⟨fd, D, F⟩ := fb_is_moment T
  exact F.all (D.bindsN fun _ _ _ _ _ _ us hl => match us, hl with | [_], _ => rfl)
end
section
def sp_want_moment (K : PySem.W.Frag) : Sp := fun vs H Q E => ∃ x, vs = [x] ∧ Cl K H x ∧ (isM x = true → Q .non H) ∧ (isM x = false → E (.ref (He.ga K "NoTime")) none H)
theorem fb_want_moment {P : Program} {w : World} {K : PySem.W.Frag} {mg : Str → Option Value} {base : Heap} (T : Env K mg) : ∃ fd, FunD K "want_moment" "want_moment" (defArgs s_want_moment) (defBody s_want_moment) (defScope s_want_moment) [] [] (He.ga K "want_moment") fd ∧ FbN P w K mg base 3 (He.ga K "want_moment") fd ["thing"] (sp_want_moment K) := by
  obtain ⟨fd, F⟩ := T.f_want_moment
  refine ⟨fd, F, fbN_of F sc_want_moment (fun vs H Q E h => ?_) (fun cdv A outer s H vs Q E hr h => ?_)⟩
  · obtain ⟨x, rfl, _⟩ := h
    rfl
  · obtain ⟨x, rfl, cl, q, qe⟩ := h
    refine ⟨_, (pss_one (ps_if (pt_not (pt_val (c_call (ok_is_moment T) (hr.mono (by decide)) T.g_is_moment T.k_is_moment takes0 (pa_cons (pv 0) pa_nil))))
      (pss_one (L2N.ps_raise rfl (L2N.takes_of rfl rfl rfl rfl) (L2N.pmk_own PySem.F.excBase_ValueError T.x_NoTime.x T.g_NoTime T.x_NoTime.kp (raises_own T.x_NoTime.sub T.x_NoTime.ty) rfl)))
      pss_nil)), ?_⟩
    refine ⟨x, rfl, x, rfl, cl, isM x, rfl, ?_⟩
    cases e : isM x with
    | true => exact q e
    | false => exact qe e
theorem okN_want_moment {P : Program} {w : World} {K : PySem.W.Frag} {mg : Str → Option Value} {base : Heap} (T : Env K mg) : FcN P w K mg base 3 (He.ga K "want_moment") [] (sp_want_moment K ) := by
  obtain ⟨fd, D, F⟩ := fb_want_moment T
  exact F.all (D.bindsN fun _ _ _ _ _ _ us hl => match us, hl with | [_], _ => rfl)
theorem ok_want_moment {P : Program} {w : World} {K : PySem.W.Frag} {mg : Str → Option Value} {base : Heap} (T : Env K mg) : Fc P w K mg base 3 (He.ga K "want_moment") [] (sp_want_moment K ) := (okN_want_moment T).fc
end
section
def clockV (m : Int) : List V := [.int (m / 1440), .int (m % 1440 / 60), .int (m % 60)]
def sp_clock_of (K : PySem.W.Frag) : Sp := fun vs H Q E => ∃ x, vs = [x] ∧ Cl K H x ∧ (∀ m : Int, x = .int m → 0 ≤ m → ∀ p, H p = none → Q (.ref p) (upd H p (.tup (clockV m)))) ∧ (isM x = false → E (.ref (He.ga K "NoTime")) none H)
theorem fb_clock_of {P : Program} {w : World} {K : PySem.W.Frag} {mg : Str → Option Value} {base : Heap} (T : Env K mg) : ∃ fd, FunD K "clock_of" "clock_of" (defArgs s_clock_of) (defBody s_clock_of) (defScope s_clock_of) [] [] (He.ga K "clock_of") fd ∧ Fb P w K mg base 4 (He.ga K "clock_of") fd ["moment"] (sp_clock_of K) := by
  obtain ⟨fd, F⟩ := T.f_clock_of
  refine ⟨fd, F, fb_of F sc_clock_of (fun vs H Q E h => ?_) (fun cdv A outer s H vs Q E hr h => ?_)⟩
  · obtain ⟨x, rfl, _⟩ := h
    rfl
  · obtain ⟨x, rfl, cl, q, qe⟩ := h
    refine ⟨_, (pss_cons (ps_expr (c_call (ok_want_moment T) (hr.mono (by decide)) T.g_want_moment T.k_want_moment (takes_of rfl rfl rfl rfl) (pa_cons (pv 0) pa_nil)))
      (pss_one (ps_ret (pe_tup (pa_cons (pe_op op_fdiv (pv 0) (pe_k T.v_DAY)) (pa_cons (pe_op op_fdiv (pe_op op_mod (pv 0) (pe_k T.v_DAY)) (pe_k T.v_HOUR)) (pa_cons (pe_op op_mod (pv 0) (pe_k T.v_HOUR)) pa_nil))))))), ?_⟩
    refine ⟨x, rfl, x, rfl, cl, fun e => ?_, qe⟩
    obtain ⟨m, rfl, hm⟩ := isM_w e
    refine ⟨_, rfl, _, _, rfl, rfl, ⟨by decide, by decide⟩, _, rfl, _, _, rfl, rfl, (by show (0 : Int) < 1440; decide), _, _, rfl, rfl, ⟨by decide, by decide⟩, _, rfl, _, _, rfl, rfl, (by show (0 : Int) < 60; decide), by show 3 ≤ sizeLine; decide, fun p hp => ?_⟩
    exact q m rfl hm p hp
theorem ok_clock_of {P : Program} {w : World} {K : PySem.W.Frag} {mg : Str → Option Value} {base : Heap} (T : Env K mg) : Fc P w K mg base 4 (He.ga K "clock_of") [] (sp_clock_of K ) := by
  obtain ⟨fd, D, F⟩ := fb_clock_of T
  exact F.all (D.bindsN fun _ _ _ _ _ _ us hl => match us, hl with | [_], _ => rfl)
end
section
def sp_show_moment (K : PySem.W.Frag) : Sp := fun vs H Q E => ∃ x, vs = [x] ∧ Cl K H x ∧ (∀ m : Nat, x = .int m → m < 10 ^ 255 ∧ ∀ H', Ex H H' → Q (.str (SX.S (Mo.shw m))) H') ∧ (isM x = false → E (.ref (He.ga K "NoTime")) none H)
theorem str_two : ∀ m : Nat, m < 60 → Txt.zfill (Str.ofString (toString ((m : Nat) : Int))) 2 = SX.S (Mo.two m) := by
  intro m h
  have all : ∀ m, m < 60 → TL.tl (Txt.zfill (Str.ofString (toString ((m : Nat) : Int))) 2) = Mo.two m := by decide +kernel
  exact TL.ext_tl (all m h)
theorem log_small {n : Nat} (h : n < 10 ^ 255) : ((n : Nat) : Int).natAbs.log2 < 1920 := PySem.Flt.log2_lt_of (by decide) (Nat.lt_trans (show ((n : Nat) : Int).natAbs < 10 ^ 255 by rw [Int.natAbs_natCast]; exact h) (by decide +kernel))
theorem fb_show_moment {P : Program} {w : World} {K : PySem.W.Frag} {mg : Str → Option Value} {base : Heap} (T : Env K mg) : ∃ fd, FunD K "show_moment" "show_moment" (defArgs s_show_moment) (defBody s_show_moment) (defScope s_show_moment) [] [] (He.ga K "show_moment") fd ∧ Fb P w K mg base 5 (He.ga K "show_moment") fd ["moment"] (sp_show_moment K) := by
  obtain ⟨fd, F⟩ := T.f_show_moment
  refine ⟨fd, F, fb_of F sc_show_moment (fun vs H Q E h => ?_) (fun cdv A outer s H vs Q E hr h => ?_)⟩
  · obtain ⟨x, rfl, _⟩ := h
    rfl
  · obtain ⟨x, rfl, cl, q, qe⟩ := h
    refine ⟨_, (pss_cons (ps_asg (c_call (ok_clock_of T) (hr.mono (by decide)) T.g_clock_of T.k_clock_of (takes_of rfl rfl rfl rfl) (pa_cons (pv 0) pa_nil)) (pg_tup (by rfl) (pgs_cons (pg_name (i := 1) sc_show_moment.nd rfl (Or.inl rfl)) (pgs_cons (pg_name (i := 2) sc_show_moment.nd rfl (Or.inl rfl)) (pgs_cons (pg_name (i := 3) sc_show_moment.nd rfl (Or.inl rfl)) pgs_nil)))))
      (pss_cons (ps_set (i := 4) sc_show_moment.nd rfl (Or.inl rfl) (pe_op op_add_str (pe_op op_add_str (pe_callTy call_str_int (by rfl) T.n_str (by decide +kernel) (pa_cons (pv 2) pa_nil)) (pe_k T.v_COLON)) (pe_bm PySem.F.plainAttrs_str PySem.F.slot_str_zfill PySem.F.type_str_zfill mt_zfill (pe_callTy call_str_int (by rfl) T.n_str (by decide +kernel) (pa_cons (pv 3) pa_nil)) (pa_cons pe_int pa_nil))))
      (pss_cons (ps_if (pt_cmpR op_eq (pv 1) pe_int (nomark _))
      (pss_one (ps_ret (pv 4)))
      pss_nil)
      (pss_one (ps_ret (pe_op op_add_str (pe_op op_add_str (pe_callTy call_str_int (by rfl) T.n_str (by decide +kernel) (pa_cons (pv 1) pa_nil)) (pe_k T.v_BLANK)) (pv 4))))))), ?_⟩
    refine ⟨x, rfl, x, rfl, cl, fun m e m0 t nt => ?_, qe⟩
    obtain ⟨m, rfl⟩ := Int.eq_ofNat_of_zero_le m0
    subst e
    obtain ⟨mb, q⟩ := q m rfl
    have X1 : Ex H (upd H t (.tup (clockV m))) := ex_new nt
    refine ⟨t, _, rfl, sq_tup upd_same, rfl, _, _, rfl, _, _, rfl, _, _, rfl, rfl, ?_⟩
    have e1 : ((m : Nat) : Int) / 1440 = ((m / 1440 : Nat) : Int) := by omega
    have e2 : ((m : Nat) : Int) % 1440 / 60 = ((m % 1440 / 60 : Nat) : Int) := by omega
    have e3 : ((m : Nat) : Int) % 60 = ((m % 60 : Nat) : Int) := by omega
    rw [e1, e2, e3]
    have l1 : (Mo.shw m).length ≤ 263 := Mo.shw_len (by decide) mb
    have l2 : (TL.numL (m % 1440 / 60)).length ≤ 2 := TL.numL_len (by decide) (by omega)
    have l3 : (TL.numL (m / 1440)).length ≤ 255 := TL.numL_len (by decide) (Nat.lt_of_le_of_lt (Nat.div_le_self _ _) mb)
    refine ⟨_, rfl, _, rfl, log_small (Nat.lt_of_le_of_lt (by omega) mb), ?_⟩
    rw [SX.num_S]
    have c1 : (SX.S (TL.numL (m % 1440 / 60)) ++ Str.ofString ":").length ≤ 1000 := by
      rw [TL.len_tl, TL.tl_append]
      simp only [List.length_append]
      have : (TL.tl (Str.ofString ":")).length = 1 := rfl
      show (TL.numL (m % 1440 / 60)).length + _ ≤ 1000
      omega
    refine ⟨_, _, rfl, rfl, Nat.le_of_lt (small_len (by have := SX.S_len (TL.numL (m % 1440 / 60)); have : (Str.ofString ":").length = 1 := rfl; omega)), ?_⟩
    refine ⟨_, rfl, _, rfl, log_small (Nat.lt_of_le_of_lt (Nat.mod_le _ _) mb), rfl, _, _, rfl, rfl, rfl, ?_⟩
    rw [show Txt.zfill (Str.ofString (toString ((m % 60 : Nat) : Int))) 2 = SX.S (Mo.two (m % 60)) from str_two _ (by omega)]
    refine ⟨_, _, rfl, rfl, Nat.le_of_lt (small_len (by have : (SX.S (Mo.two (m % 60))).length = 2 := rfl; omega)), ?_⟩
    have e4 : SX.S (TL.numL (m % 1440 / 60)) ++ Str.ofString ":" ++ SX.S (Mo.two (m % 60)) = SX.S (Mo.clk m) := by
      rw [show Str.ofString ":" = SX.S [58] from rfl, SX.S_cat, SX.S_cat]
      unfold Mo.clk
      simp
    rw [e4]
    have l4 : (Mo.clk m).length ≤ 5 := by
      unfold Mo.clk Mo.two
      simp
      omega
    refine ⟨_, rfl, rfl, _, rfl, ite2 (fun c => ?_) (fun c => ?_)⟩
    · have c2 : m / 1440 = 0 := by
        have := of_decide_eq_true c
        injection this with this
        omega
      refine ⟨_, rfl, ?_⟩
      have e5 : Mo.shw m = Mo.clk m := by unfold Mo.shw; rw [if_pos c2]
      rw [← e5]
      exact q _ X1
    · have c2 : ¬ m / 1440 = 0 := fun z => c (decide_eq_true (by rw [z]; rfl))
      refine ⟨_, rfl, _, rfl, log_small (Nat.lt_of_le_of_lt (Nat.div_le_self _ _) mb), ?_⟩
      rw [SX.num_S]
      refine ⟨_, _, rfl, rfl, Nat.le_of_lt (small_len (by have := SX.S_len (TL.numL (m / 1440)); have : (Str.ofString " ").length = 1 := rfl; omega)), ?_⟩
      rw [show Str.ofString " " = SX.S [32] from rfl, SX.S_cat]
      refine ⟨_, rfl, _, _, rfl, rfl, Nat.le_of_lt (small_len (by rw [SX.S_len, SX.S_len]; simp; omega)), ?_⟩
      rw [SX.S_cat]
      have e5 : Mo.shw m = TL.numL (m / 1440) ++ [32] ++ Mo.clk m := by unfold Mo.shw; rw [if_neg c2]; simp
      rw [← e5]
      exact q _ X1
theorem sm_good {K : PySem.W.Frag} {H : Hp} {Q : VK} {E : XK} {m : Nat} (mb : m < 10 ^ 255) (q : ∀ H', Ex H H' → Q (.str (SX.S (Mo.shw m))) H') : sp_show_moment K [.int m] H Q E :=
  ⟨_, rfl, cl_int _, fun k e => by
    have ek : k = m := by injection e with e; omega
    subst ek
    exact ⟨mb, q⟩, fun e => absurd e (by rw [show isM (.int m) = true from decide_eq_true (Int.natCast_nonneg m)]; decide)⟩
theorem ok_show_moment {P : Program} {w : World} {K : PySem.W.Frag} {mg : Str → Option Value} {base : Heap} (T : Env K mg) : Fc P w K mg base 5 (He.ga K "show_moment") [] (sp_show_moment K ) := by
  obtain ⟨fd, D, F⟩ := fb_show_moment T
  exact F.all (D.bindsN fun _ _ _ _ _ _ us hl => match us, hl with | [_], _ => rfl)
end
section
def isN (n : Int) (x : V) : Bool := isW x && (match x with | .int i => decide (n ≤ i) | _ => false)
def sp_is_number (K : PySem.W.Frag) : Sp := fun vs H Q _ => ∃ x n, vs = [x, .int n] ∧ Cl K H x ∧ Q (.bl (isN n x)) H
theorem fb_is_number {P : Program} {w : World} {K : PySem.W.Frag} {mg : Str → Option Value} {base : Heap} (T : Env K mg) : ∃ fd, FunD K "is_number" "is_number" (defArgs s_is_number) (defBody s_is_number) (defScope s_is_number) [] [] (He.ga K "is_number") fd ∧ Fb P w K mg base 1 (He.ga K "is_number") fd ["thing", "least"] (sp_is_number K) := by
  obtain ⟨fd, F⟩ := T.f_is_number
  refine ⟨fd, F, fb_of F sc_is_number (fun vs H Q E h => ?_) (fun cdv A outer s H vs Q E hr h => ?_)⟩
  · obtain ⟨x, n, rfl, _⟩ := h
    rfl
  · obtain ⟨x, n, rfl, ⟨t, b, c, ty, h1, h2, e⟩, q⟩ := h
    refine ⟨_, (pss_one (ps_ret (pe_and (pe_callB call_isi (by rfl) T.n_isinstance (by decide +kernel) (pa_cons (pv 0) (pa_cons (pe_bltn (v := .ty "int") (by rfl) T.n_int (by decide +kernel) rfl) pa_nil))) (pe_and (pe_not (pe_callB call_isi (by rfl) T.n_isinstance (by decide +kernel) (pa_cons (pv 0) (pa_cons (pe_bltn (v := .ty "bool") (by rfl) T.n_bool (by decide +kernel) rfl) pa_nil)))) (pe_one (pe_cmpR op_ge (pv 0) (pv 1) (nomark _))))))), ?_⟩
    refine ⟨x, rfl, x, .ty "int", t, _, b, rfl, .ty "int", ty, h1, b, rfl, ?_⟩
    unfold isN at q
    rw [e] at q
    cases b with
    | false => exact q
    | true =>
      refine ⟨x, rfl, x, .ty "bool", t, _, c, rfl, .ty "bool", ty, h2, c, rfl, ?_⟩
      cases c with
      | true => exact ⟨false, rfl, q⟩
      | false =>
        refine ⟨true, rfl, iteT ?_⟩
        cases x with
        | int i => exact ⟨_, rfl, _, rfl, i, n, rfl, rfl, q⟩
        | _ => cases e
theorem ok_is_number {P : Program} {w : World} {K : PySem.W.Frag} {mg : Str → Option Value} {base : Heap} (T : Env K mg) : Fc P w K mg base 1 (He.ga K "is_number") [] (sp_is_number K ) := by
  obtain ⟨fd, D, F⟩ := fb_is_number T
  exact F.all (D.bindsN fun _ _ _ _ _ _ us hl => match us, hl with | [_, _], _ => rfl)
end
section
theorem ex_made {H : Hp} {x dx : Addr} {o1 o2 : HO} (nx : H x = none) (nd : H dx = none) (ne : dx ≠ x) : Ex H (upd (upd H dx o1) x o2) := fun b o e => by
  rw [upd_ne (ne_of_none e nx), upd_ne (ne_of_none e nd)]
  exact e
end
section
abbrev AtC (K : PySem.W.Frag) : Addr := He.ga K "At"
/-- at a an At of a moment -/
def AtAt (K : PySem.W.Frag) (H : Hp) (a : Addr) (n : Nat) : Prop := ∃ dx, H a = some (.ins (AtC K) dx [("moment", .int (n : Nat))])
theorem AtAt.mono {K : PySem.W.Frag} {H H' : Hp} {a : Addr} {n : Nat} (h : AtAt K H a n) (e : Ex H H') : AtAt K H' a n := let ⟨dx, h⟩ := h; ⟨dx, e _ _ h⟩
def sp_At_init (K : PySem.W.Frag) : Sp := fun vs H Q E => ∃ a dx x, vs = [.ref a, x] ∧ H a = some (.ins (AtC K) dx []) ∧ Cl K H x ∧ (isN 0 x = true → Q .non (upd H a (.ins (AtC K) dx [("moment", x)]))) ∧ (isN 0 x = false → E (.ref (He.ga K "NoPiece")) none H)
theorem fb_At_init {P : Program} {w : World} {K : PySem.W.Frag} {mg : Str → Option Value} {base : Heap} (T : Env K mg) : ∃ fd, FunD K "__init__" "At.__init__" (defArgs s_At_init) (defBody s_At_init) (defScope s_At_init) [] [] (He.ma K (He.ga K "At") "__init__") fd ∧ Fb P w K mg base 2 (He.ma K (He.ga K "At") "__init__") fd ["self", "moment"] (sp_At_init K) := by
  obtain ⟨fd, F⟩ := T.f_At_init
  refine ⟨fd, F, fb_of F sc_At_init (fun vs H Q E h => ?_) (fun cdv A outer s H vs Q E hr h => ?_)⟩
  · obtain ⟨a, dx, x, rfl, _⟩ := h
    rfl
  · obtain ⟨a, dx, x, rfl, ha, cl, q, qe⟩ := h
    refine ⟨_, (pss_cons (ps_if (pt_not (pt_val (c_call (ok_is_number T) (hr.mono (by decide)) T.g_is_number T.k_is_number (takes_of rfl rfl rfl rfl) (pa_cons (pv 1) (pa_cons pe_int pa_nil)))))
      (pss_one (ps_raise rfl (takes_of rfl rfl rfl rfl) (pmk_own PySem.F.excBase_ValueError T.x_NoPiece.x T.g_NoPiece T.x_NoPiece.kp (raises_own T.x_NoPiece.sub T.x_NoPiece.ty) rfl)))
      pss_nil)
      (pss_one (ps_fld (pv 0) (pv 1) rfl))), ?_⟩
    refine ⟨_, rfl, x, 0, rfl, cl, _, rfl, ?_⟩
    cases e : isN 0 x with
    | false => exact qe e
    | true =>
      refine iteF ?_
      refine ⟨_, rfl, _, rfl, a, _, dx, [], rfl, ha, T.c_At, T.a_At_moment, by decide, ?_⟩
      exact q e
theorem isN_nat {n m : Nat} (h : m ≤ n) : isN (m : Int) (.int (n : Nat)) = true := by
  show (true && decide ((m : Int) ≤ (n : Int))) = true
  rw [decide_eq_true (by omega)]
  rfl
theorem at_new {K : PySem.W.Frag} {H : Hp} {x dx : Addr} {n : Nat} {Q : VK} {E : XK} (nx : H x = none) (nd : H dx = none) (ne : dx ≠ x) (q : ∀ H', Ex H H' → AtAt K H' x n → Q .non H') :
    sp_At_init K [.ref x, .int (n : Nat)] (upd (upd H dx (.own x)) x (.ins (AtC K) dx [])) Q E := by
  refine ⟨x, dx, _, rfl, upd_same, cl_int _, fun _ => q _ ?_ ⟨dx, upd_same⟩, fun z => ?_⟩
  · exact ex_mut (ex_made nx nd ne) nx
  · rw [show isN 0 (.int (n : Nat)) = true from isN_nat (m := 0) (Nat.zero_le _)] at z
    cases z
theorem ok_At_init {P : Program} {w : World} {K : PySem.W.Frag} {mg : Str → Option Value} {base : Heap} (T : Env K mg) : Fc P w K mg base 2 (He.ma K (He.ga K "At") "__init__") [] (sp_At_init K ) := by
  obtain ⟨fd, D, F⟩ := fb_At_init T
  exact F.all (D.bindsN fun _ _ _ _ _ _ us hl => match us, hl with | [_, _], _ => rfl)
end
section
def sp_At_ends (K : PySem.W.Frag) : Sp := fun vs H Q _ => ∃ a n, vs = [.ref a] ∧ AtAt K H a n ∧ Q (.int (n : Nat)) H
theorem fb_At_ends {P : Program} {w : World} {K : PySem.W.Frag} {mg : Str → Option Value} {base : Heap} (T : Env K mg) : ∃ fd, FunD K "ends" "At.ends" (defArgs s_At_ends) (defBody s_At_ends) (defScope s_At_ends) [] [] (He.ma K (He.ga K "At") "ends") fd ∧ Fb P w K mg base 1 (He.ma K (He.ga K "At") "ends") fd ["self"] (sp_At_ends K) := by
  obtain ⟨fd, F⟩ := T.f_At_ends
  refine ⟨fd, F, fb_of F sc_At_ends (fun vs H Q E h => ?_) (fun cdv A outer s H vs Q E hr h => ?_)⟩
  · obtain ⟨a, n, rfl, _⟩ := h
    rfl
  · obtain ⟨a, n, rfl, ⟨dx, ha⟩, q⟩ := h
    refine ⟨_, (pss_one (ps_ret (pe_fld (pv 0) (by rfl)))), ?_⟩
    exact ⟨_, rfl, a, _, dx, _, _, rfl, ha, T.c_At, T.a_At_moment, rfl, q⟩
theorem ok_At_ends {P : Program} {w : World} {K : PySem.W.Frag} {mg : Str → Option Value} {base : Heap} (T : Env K mg) : Fc P w K mg base 1 (He.ma K (He.ga K "At") "ends") [] (sp_At_ends K ) := by
  obtain ⟨fd, D, F⟩ := fb_At_ends T
  exact F.all (D.bindsN fun _ _ _ _ _ _ us hl => match us, hl with | [_], _ => rfl)
end
section
/-- whole numbers as values -/
def natV (ns : List Nat) : List V := ns.map fun n : Nat => V.int (n : Int)
theorem natV_len (ns : List Nat) : (natV ns).length = ns.length := by
  unfold natV
  rw [List.length_map]
theorem cut1 (xs : List V) : cutV xs (some 1) none = xs.drop 1 := by
  unfold cutV
  rw [HT.sIx_none, show (some (1 : Int)) = some ((1 : Nat) : Int) from rfl, HT.sIx_nat]
  cases xs with
  | nil => rfl
  | cons x r =>
    rw [show min 1 (x :: r).length = 1 by simp]
    exact List.take_of_length_le (by simp)
end
section
/-- the moments of ns, over and over -/
def overN (ns : List Nat) (m s : Nat) : List Nat := (List.range m).flatMap fun t => ns.map fun n => n + t * s
theorem overN_len (ns : List Nat) (m s : Nat) : (overN ns m s).length = m * ns.length := by
  unfold overN
  induction m with
  | zero => simp
  | succ m ih =>
    rw [List.range_succ, List.flatMap_append, List.length_append, ih]
    simp
    rw [Nat.add_mul, Nat.one_mul]
theorem overN_succ (ns : List Nat) (m s : Nat) : overN ns (m + 1) s = overN ns m s ++ ns.map fun n => n + m * s := by
  unfold overN
  rw [List.range_succ, List.flatMap_append]
  simp
/-- shorts -/
inductive Tr where
  | at (n : Nat)
  | ov (ps : List Tr) (m s : Nat)
mutual
def Tr.moms : Tr → List Nat
  | .at n => [n]
  | .ov ps m s => overN (momsL ps) m s
def momsL : List Tr → List Nat
  | [] => []
  | t :: ts => t.moms ++ momsL ts
end
mutual
def Tr.nest : Tr → Nat
  | .at _ => 0
  | .ov ps _ _ => 1 + nestL ps
def nestL : List Tr → Nat
  | [] => 0
  | t :: ts => max t.nest (nestL ts)
end
mutual
def Tr.pcs : Tr → Nat
  | .at _ => 1
  | .ov ps _ _ => 1 + pcsL ps
def pcsL : List Tr → Nat
  | [] => 0
  | t :: ts => t.pcs + pcsL ts
end
theorem pcsL_app (a b : List Tr) : pcsL (a ++ b) = pcsL a + pcsL b := by
  induction a with
  | nil => simp [pcsL]
  | cons t r ih => simp [pcsL, ih, Nat.add_assoc]
theorem momsL_app (a b : List Tr) : momsL (a ++ b) = momsL a ++ momsL b := by
  induction a with
  | nil => simp [momsL]
  | cons t r ih => simp [momsL, ih]
theorem nestL_mem {t : Tr} : ∀ {ts : List Tr}, t ∈ ts → t.nest ≤ nestL ts
  | x :: r, h => by
    show _ ≤ max x.nest (nestL r)
    rcases List.mem_cons.mp h with rfl | h
    · exact Nat.le_max_left _ _
    · exact Nat.le_trans (nestL_mem h) (Nat.le_max_right _ _)
theorem nestL_max : ∀ {ts : List Tr}, ts ≠ [] → ∃ t ∈ ts, t.nest = nestL ts
  | [t], _ => ⟨t, List.mem_cons_self, by show _ = max t.nest 0; omega⟩
  | t :: x :: r, _ => by
    obtain ⟨y, hy, e⟩ := nestL_max (ts := x :: r) (by simp)
    have e2 : nestL (t :: x :: r) = max t.nest (nestL (x :: r)) := by simp [nestL]
    by_cases c : nestL (x :: r) ≤ t.nest
    · exact ⟨t, List.mem_cons_self, by omega⟩
    · exact ⟨y, List.mem_cons_of_mem _ hy, by omega⟩
theorem momsL_take {ts : List Tr} {i : Nat} {t : Tr} (h : ts[i]? = some t) : momsL (ts.take (i + 1)) = momsL (ts.take i) ++ t.moms := by
  rw [take_snoc h, momsL_app]
  simp [momsL]
theorem momsL_take_len (ts : List Tr) (i : Nat) : (momsL (ts.take i)).length ≤ (momsL ts).length := by
  conv => rhs; rw [← List.take_append_drop i ts, momsL_app, List.length_append]
  omega
mutual
/-- a short that may be made -/
def Tr.ok : Tr → Prop
  | .at _ => True
  | .ov ps m s => ps ≠ [] ∧ 2 ≤ m ∧ 1 ≤ s ∧ m * (momsL ps).length ≤ 1440 ∧ (momsL ps).getLastD 0 < s + (momsL ps).headD 0 ∧ (momsL ps).Pairwise (· < ·) ∧ okL_ ps
def okL_ : List Tr → Prop
  | [] => True
  | t :: ts => t.ok ∧ okL_ ts
end
theorem okL_mem {t : Tr} : ∀ {ts : List Tr}, okL_ ts → t ∈ ts → t.ok
  | x :: r, h, hm => by
    unfold okL_ at h
    rcases List.mem_cons.mp hm with rfl | hm
    · exact h.1
    · exact okL_mem h.2 hm
theorem pos_moms (t : Tr) (h : t.ok) : 1 ≤ t.moms.length := by
  match t, h with
  | .at n, _ =>
    unfold Tr.moms
    exact Nat.le_refl _
  | .ov (x :: r) m s, h =>
    unfold Tr.ok at h
    obtain ⟨_, h2, _, _, _, _, h7⟩ := h
    unfold Tr.moms
    rw [overN_len]
    have hx : 1 ≤ x.moms.length := pos_moms x (by unfold okL_ at h7; exact h7.1)
    have : 1 ≤ (momsL (x :: r)).length := by
      unfold momsL
      rw [List.length_append]
      omega
    exact Nat.le_trans (by decide) (Nat.mul_le_mul h2 this)
  | .ov [] m s, h =>
    unfold Tr.ok at h
    exact absurd rfl h.1
theorem len_moms : ∀ {ts : List Tr}, okL_ ts → ts.length ≤ (momsL ts).length
  | [], _ => Nat.le_refl _
  | t :: ts, h => by
    unfold okL_ at h
    have h1 := pos_moms t h.1
    have h2 := len_moms h.2
    unfold momsL
    rw [List.length_cons, List.length_append]
    omega
theorem ov_facts {ps : List Tr} {m s : Nat} (h : (Tr.ov ps m s).ok) : ps ≠ [] ∧ 2 ≤ m ∧ m ≤ 1440 ∧ m * (momsL ps).length ≤ 1440 ∧ (momsL ps).length ≤ 1440 ∧ ps.length ≤ 1440 ∧ okL_ ps := by
  unfold Tr.ok at h
  obtain ⟨h1, h2, h3, h4, _, _, h7⟩ := h
  have h8 := len_moms h7
  have h9 : 0 < ps.length := List.length_pos_iff.mpr h1
  have h10 : m ≤ m * (momsL ps).length := Nat.le_mul_of_pos_right m (by omega)
  have h11 : (momsL ps).length ≤ m * (momsL ps).length := Nat.le_mul_of_pos_left _ (by omega)
  exact ⟨h1, h2, by omega, h4, by omega, by omega, h7⟩
theorem momsL_few : ∀ {ts : List Tr}, okL_ ts → (momsL ts).length ≤ 1440 * ts.length
  | [], _ => by
    unfold momsL
    exact Nat.zero_le _
  | t :: r, h => by
    have h1 : t.moms.length ≤ 1440 := by
      have h2 := h
      unfold okL_ at h2
      cases t with
      | «at» n =>
        unfold Tr.moms
        show 1 ≤ 1440
        decide
      | ov ps m s =>
        have h3 := h2.1
        unfold Tr.ok at h3
        unfold Tr.moms
        rw [overN_len]
        exact h3.2.2.2.1
    have h2 : (momsL r).length ≤ 1440 * r.length := momsL_few (by unfold okL_ at h; exact h.2)
    unfold momsL
    rw [List.length_append, List.length_cons]
    omega
theorem ov_nest {ps : List Tr} {m s d : Nat} (h : (Tr.ov ps m s).nest ≤ d + 1) : nestL ps ≤ d := by
  unfold Tr.nest at h
  omega
theorem headD_app {a b : List Nat} (h : a ≠ []) : (a ++ b).headD 0 = a.headD 0 := by
  cases a with
  | nil => exact absurd rfl h
  | cons x r => rfl
theorem lastD_app {a b : List Nat} (h : b ≠ []) : (a ++ b).getLastD 0 = b.getLastD 0 := by
  rw [List.getLastD_eq_getLast?, List.getLastD_eq_getLast?, List.getLast?_append]
  cases hb : b.getLast? with
  | none => exact absurd (List.getLast?_eq_none_iff.mp hb) h
  | some x => rfl
theorem lastD_map {a : List Nat} (k : Nat) (h : a ≠ []) : (a.map fun n => n + k).getLastD 0 = a.getLastD 0 + k := by
  rw [List.getLastD_eq_getLast?, List.getLastD_eq_getLast?, List.getLast?_map]
  cases hb : a.getLast? with
  | none => exact absurd (List.getLast?_eq_none_iff.mp hb) h
  | some x => rfl
theorem overN_head {ns : List Nat} {s : Nat} (h : ns ≠ []) : ∀ m, 1 ≤ m → (overN ns m s).headD 0 = ns.headD 0
  | 1, _ => by
    rw [overN_succ]
    show ([] ++ ns.map fun n => n + 0 * s).headD 0 = _
    cases ns with
    | nil => exact absurd rfl h
    | cons x r => simp
  | m + 2, _ => by
    have ih := overN_head (s := s) h (m + 1) (by omega)
    have ne : overN ns (m + 1) s ≠ [] := fun z => by
      have := congrArg List.length z
      rw [overN_len] at this
      have p : 0 < ns.length := List.length_pos_iff.mpr h
      have : (m + 1) * ns.length = 0 := this
      have := Nat.mul_pos (show 0 < m + 1 by omega) p
      omega
    rw [overN_succ, headD_app ne, ih]
theorem overN_last {ns : List Nat} {m s : Nat} (h : ns ≠ []) (hm : 1 ≤ m) : (overN ns m s).getLastD 0 = ns.getLastD 0 + (m - 1) * s := by
  obtain ⟨k, rfl⟩ : ∃ k, m = k + 1 := ⟨m - 1, by omega⟩
  rw [overN_succ, lastD_app (by intro z; exact h (List.map_eq_nil_iff.mp z)), lastD_map _ h]
  rfl
theorem moms_ne {t : Tr} (h : t.ok) : t.moms ≠ [] := fun z => by
  have := pos_moms t h
  rw [z] at this
  exact absurd this (by decide)
theorem momsL_ne {ts : List Tr} (h : okL_ ts) (h0 : ts ≠ []) : momsL ts ≠ [] := fun z => by
  have h1 := len_moms h
  rw [z] at h1
  exact h0 (List.length_eq_zero_iff.mp (Nat.le_zero.mp h1))
theorem momsL_head {t : Tr} {ts : List Tr} (h : okL_ (t :: ts)) : (momsL (t :: ts)).headD 0 = t.moms.headD 0 := by
  have e : momsL (t :: ts) = t.moms ++ momsL ts := by simp [momsL]
  rw [e, headD_app (moms_ne (okL_mem h List.mem_cons_self))]
theorem momsL_last {t : Tr} {ts : List Tr} (h : okL_ (ts ++ [t])) : (momsL (ts ++ [t])).getLastD 0 = t.moms.getLastD 0 := by
  have ht : t.ok := okL_mem h (List.mem_append_right _ List.mem_cons_self)
  have e : momsL [t] = t.moms := by simp [momsL]
  rw [momsL_app, e, lastD_app (moms_ne ht)]
theorem last_ref {as : List Addr} (h : as ≠ []) : ∃ b, as[as.length - 1]? = some b ∧ atI (as.map V.ref) (-1) = some (.ref b) := by
  refine ⟨as.getLast h, ?_, ?_⟩
  · have p : 0 < as.length := List.length_pos_iff.mpr h
    rw [List.getLast_eq_getElem, List.getElem?_eq_getElem (by omega)]
  · have e := (List.dropLast_concat_getLast h).symm
    generalize as.getLast h = z at e
    rw [e, List.map_append]
    exact atI_last _ _
/-- rising: each behind the end of the one ahead -/
def risB (ts : List Tr) : Bool := (ts.zip (ts.drop 1)).all fun p => decide (p.1.moms.getLastD 0 < p.2.moms.headD 0)
theorem all_repT (n : Nat) : (List.replicate n true).all id = true := by
  induction n with
  | zero => rfl
  | succ n ih =>
    rw [List.replicate_succ, List.all_cons, ih]
    rfl
theorem le_lastD {ns : List Nat} (h : ns.Pairwise (· < ·)) : ∀ n ∈ ns, n ≤ ns.getLastD 0 := fun n hn => by
  have h0 : ns ≠ [] := fun z => by rw [z] at hn; cases hn
  have e : ns.getLastD 0 = ns.getLast h0 := by
    rw [List.getLastD_eq_getLast?, List.getLast?_eq_some_getLast h0]
    rfl
  rw [e]
  have ec := (List.dropLast_concat_getLast h0).symm
  generalize ns.getLast h0 = z at ec
  rw [ec] at hn h
  rcases List.mem_append.mp hn with hm | hm
  · exact Nat.le_of_lt ((List.pairwise_append.mp h).2.2 n hm z (List.mem_singleton.mpr rfl))
  · rw [List.mem_singleton.mp hm]
    exact Nat.le_refl _
theorem headD_le {ns : List Nat} (h : ns.Pairwise (· < ·)) : ∀ n ∈ ns, ns.headD 0 ≤ n := fun n hn => by
  cases ns with
  | nil => cases hn
  | cons x r =>
    show x ≤ n
    rcases List.mem_cons.mp hn with rfl | hm
    · exact Nat.le_refl _
    · exact Nat.le_of_lt ((List.pairwise_cons.mp h).1 n hm)
theorem mem_overN {ns : List Nat} {m s x : Nat} : x ∈ overN ns m s ↔ ∃ t n, t < m ∧ n ∈ ns ∧ x = n + t * s := by
  unfold overN
  rw [List.mem_flatMap]
  constructor
  · rintro ⟨t, ht, h⟩
    obtain ⟨n, hn, rfl⟩ := List.mem_map.mp h
    exact ⟨t, n, List.mem_range.mp ht, hn, rfl⟩
  · rintro ⟨t, n, ht, hn, rfl⟩
    exact ⟨t, List.mem_range.mpr ht, List.mem_map.mpr ⟨n, hn, rfl⟩⟩
theorem overN_sorted {ns : List Nat} {s : Nat} (h : ns.Pairwise (· < ·)) (hs : ns.getLastD 0 < s + ns.headD 0) : ∀ m, (overN ns m s).Pairwise (· < ·)
  | 0 => .nil
  | m + 1 => by
    rw [overN_succ]
    refine List.pairwise_append.mpr ⟨overN_sorted h hs m, List.pairwise_map.mpr (h.imp fun {a b} z => by omega), fun a ha b hb => ?_⟩
    obtain ⟨t, n, ht, hn, rfl⟩ := mem_overN.mp ha
    obtain ⟨k, hk, rfl⟩ := List.mem_map.mp hb
    have h1 := le_lastD h n hn
    have h2 := headD_le h k hk
    have h3 : t * s + s ≤ m * s := by
      have := Nat.mul_le_mul_right s (show t + 1 ≤ m by omega)
      rw [Nat.add_mul, Nat.one_mul] at this
      exact this
    omega
mutual
theorem sorted_moms : ∀ {t : Tr}, t.ok → t.moms.Pairwise (· < ·)
  | .at n, _ => by
    unfold Tr.moms
    exact List.pairwise_singleton _ _
  | .ov ps m s, h => by
    unfold Tr.ok at h
    obtain ⟨_, _, _, _, h5, h6, _⟩ := h
    unfold Tr.moms
    exact overN_sorted h6 h5 m
end
theorem risB_cons {t x : Tr} {r : List Tr} (h : risB (t :: x :: r) = true) : t.moms.getLastD 0 < x.moms.headD 0 ∧ risB (x :: r) = true := by
  have h : (decide (t.moms.getLastD 0 < x.moms.headD 0) && risB (x :: r)) = true := h
  obtain ⟨h1, h2⟩ := Bool.and_eq_true_iff.mp h
  exact ⟨of_decide_eq_true h1, h2⟩
theorem ris_sorted : ∀ {ts : List Tr}, okL_ ts → risB ts = true → (momsL ts).Pairwise (· < ·)
  | [], _, _ => by
    unfold momsL
    exact .nil
  | [t], h, _ => by
    have e : momsL [t] = t.moms := by simp [momsL]
    rw [e]
    exact sorted_moms (okL_mem h List.mem_cons_self)
  | t :: x :: r, h, hr => by
    obtain ⟨h1, h2⟩ := risB_cons hr
    have hok : okL_ (x :: r) := by
      unfold okL_ at h
      exact h.2
    have ih := ris_sorted hok h2
    have e : momsL (t :: x :: r) = t.moms ++ momsL (x :: r) := by rw [momsL]
    rw [e]
    refine List.pairwise_append.mpr ⟨sorted_moms (okL_mem h List.mem_cons_self), ih, fun a ha b hb => ?_⟩
    have g1 := le_lastD (sorted_moms (okL_mem h List.mem_cons_self)) a ha
    have g2 := headD_le ih b hb
    rw [momsL_head hok] at g2
    omega
theorem lastD_mem {ns : List Nat} (h : ns ≠ []) : ns.getLastD 0 ∈ ns := by
  rw [List.getLastD_eq_getLast?, List.getLast?_eq_some_getLast h]
  exact List.getLast_mem h
theorem headD_mem {ns : List Nat} (h : ns ≠ []) : ns.headD 0 ∈ ns := by
  cases ns with
  | nil => exact absurd rfl h
  | cons x r => exact List.mem_cons_self
theorem ris_of : ∀ {ts : List Tr}, okL_ ts → (momsL ts).Pairwise (· < ·) → risB ts = true
  | [], _, _ => rfl
  | [t], _, _ => rfl
  | t :: x :: r, h, hs => by
    have hok : okL_ (x :: r) := by
      unfold okL_ at h
      exact h.2
    have e : momsL (t :: x :: r) = t.moms ++ momsL (x :: r) := by rw [momsL]
    rw [e] at hs
    obtain ⟨h1, h2, h3⟩ := List.pairwise_append.mp hs
    have ih := ris_of hok h2
    have lt := h3 _ (lastD_mem (moms_ne (okL_mem h List.mem_cons_self))) _ (headD_mem (momsL_ne hok (by simp)))
    rw [momsL_head hok] at lt
    show (decide (t.moms.getLastD 0 < x.moms.headD 0) && risB (x :: r)) = true
    rw [decide_eq_true lt, ih]
    rfl
end
section
abbrev OverC (K : PySem.W.Frag) : Addr := He.ga K "Over"
def overF (kp : Addr) (m s : Nat) : List (Str × V) := [("kept", .ref kp), ("many", .int (m : Nat)), ("step", .int (s : Nat))]
mutual
/-- at a this short -/
def ShAt (K : PySem.W.Frag) (H : Hp) : Tr → Addr → Prop
  | .at n, a => AtAt K H a n
  | .ov ps m s, a => ∃ dx kp as, H a = some (.ins (OverC K) dx (overF kp m s)) ∧ H kp = some (.tup (as.map V.ref)) ∧ ShsAt K H ps as
def ShsAt (K : PySem.W.Frag) (H : Hp) : List Tr → List Addr → Prop
  | [], as => as = []
  | t :: ts, as => ∃ a r, as = a :: r ∧ ShAt K H t a ∧ ShsAt K H ts r
end
mutual
theorem ShAt.mono {K : PySem.W.Frag} {H H' : Hp} (e : Ex H H') : ∀ {t : Tr} {a : Addr}, ShAt K H t a → ShAt K H' t a
  | .at n, a, h => by
    unfold ShAt at h ⊢
    exact AtAt.mono h e
  | .ov ps m s, a, h => by
    unfold ShAt at h ⊢
    obtain ⟨dx, kp, as, h1, h2, h3⟩ := h
    exact ⟨dx, kp, as, e _ _ h1, e _ _ h2, ShsAt.mono e h3⟩
theorem ShsAt.mono {K : PySem.W.Frag} {H H' : Hp} (e : Ex H H') : ∀ {ts : List Tr} {as : List Addr}, ShsAt K H ts as → ShsAt K H' ts as
  | [], as, h => by
    unfold ShsAt at h ⊢
    exact h
  | t :: ts, as, h => by
    unfold ShsAt at h ⊢
    obtain ⟨a, r, h1, h2, h3⟩ := h
    exact ⟨a, r, h1, ShAt.mono e h2, ShsAt.mono e h3⟩
end
theorem ShsAt.len {K : PySem.W.Frag} {H : Hp} : ∀ {ts : List Tr} {as : List Addr}, ShsAt K H ts as → as.length = ts.length
  | [], as, h => by
    unfold ShsAt at h
    rw [h]
    rfl
  | t :: ts, as, h => by
    unfold ShsAt at h
    obtain ⟨a, r, rfl, _, h3⟩ := h
    rw [List.length_cons, List.length_cons, ShsAt.len h3]
theorem ShsAt.get {K : PySem.W.Frag} {H : Hp} : ∀ {ts : List Tr} {as : List Addr} {i : Nat} {a : Addr}, ShsAt K H ts as → as[i]? = some a → ∃ t, ts[i]? = some t ∧ ShAt K H t a
  | [], as, i, a, h, hi => by
    unfold ShsAt at h
    rw [h] at hi
    cases hi
  | t :: ts, as, i, a, h, hi => by
    unfold ShsAt at h
    obtain ⟨b, r, rfl, h2, h3⟩ := h
    cases i with
    | zero =>
      cases hi
      exact ⟨t, rfl, h2⟩
    | succ i => exact ShsAt.get (i := i) h3 hi
/-- nothing in it is a list -/
theorem ShAt.ins {K : PySem.W.Frag} {H : Hp} {t : Tr} {a : Addr} (h : ShAt K H t a) : ∃ C dx fs, H a = some (.ins C dx fs) := by
  cases t with
  | «at» n =>
    unfold ShAt at h
    obtain ⟨dx, h⟩ := h
    exact ⟨_, dx, _, h⟩
  | ov ps m s =>
    unfold ShAt at h
    obtain ⟨dx, kp, as, h1, _⟩ := h
    exact ⟨_, dx, _, h1⟩
mutual
theorem ShAt.oth {K : PySem.W.Frag} {H H' : Hp} {d : Addr} (o : Oth d H H') (hd : ∀ ob, H d = some ob → (∃ xs, ob = .lst xs)) : ∀ {t : Tr} {a : Addr}, ShAt K H t a → ShAt K H' t a
  | .at n, a, h => by
    unfold ShAt at h ⊢
    obtain ⟨dx, h⟩ := h
    refine ⟨dx, o _ _ (fun z => ?_) h⟩
    obtain ⟨xs, e⟩ := hd _ (z ▸ h)
    cases e
  | .ov ps m s, a, h => by
    unfold ShAt at h ⊢
    obtain ⟨dx, kp, as, h1, h2, h3⟩ := h
    refine ⟨dx, kp, as, o _ _ (fun z => ?_) h1, o _ _ (fun z => ?_) h2, ShsAt.oth o hd h3⟩
    · obtain ⟨xs, e⟩ := hd _ (z ▸ h1)
      cases e
    · obtain ⟨xs, e⟩ := hd _ (z ▸ h2)
      cases e
theorem ShsAt.oth {K : PySem.W.Frag} {H H' : Hp} {d : Addr} (o : Oth d H H') (hd : ∀ ob, H d = some ob → (∃ xs, ob = .lst xs)) : ∀ {ts : List Tr} {as : List Addr}, ShsAt K H ts as → ShsAt K H' ts as
  | [], as, h => by
    unfold ShsAt at h ⊢
    exact h
  | t :: ts, as, h => by
    unfold ShsAt at h ⊢
    obtain ⟨a, r, h1, h2, h3⟩ := h
    exact ⟨a, r, h1, ShAt.oth o hd h2, ShsAt.oth o hd h3⟩
end
def sp_Over_moments (K : PySem.W.Frag) (d : Nat) : Sp := fun vs H Q _ => ∃ a ps m s, vs = [.ref a] ∧ ShAt K H (.ov ps m s) a ∧ (Tr.ov ps m s).nest ≤ d ∧ (Tr.ov ps m s).ok ∧ ∀ p H', Ex H H' → H p = none → H' p = some (.lst (natV (Tr.ov ps m s).moms)) → Q (.ref p) H'
def sp_Over_means_many (K : PySem.W.Frag) (d : Nat) : Sp := fun vs H Q _ => ∃ a ps m s, vs = [.ref a] ∧ ShAt K H (.ov ps m s) a ∧ (Tr.ov ps m s).nest ≤ d ∧ okL_ ps ∧ ps.length ≤ 20000 ∧ ∀ H', Ex H H' → Q (.int ((m * (momsL ps).length : Nat) : Int)) H'
def sp_Over_pieces (K : PySem.W.Frag) (d : Nat) : Sp := fun vs H Q _ => ∃ a ps m s, vs = [.ref a] ∧ ShAt K H (.ov ps m s) a ∧ (Tr.ov ps m s).nest ≤ d ∧ okL_ ps ∧ ps.length ≤ 20000 ∧ ∀ H', Ex H H' → Q (.int (((Tr.ov ps m s).pcs : Nat) : Int)) H'
def sp_Over_nested (K : PySem.W.Frag) (d : Nat) : Sp := fun vs H Q _ => ∃ a ps m s, vs = [.ref a] ∧ ShAt K H (.ov ps m s) a ∧ (Tr.ov ps m s).nest ≤ d ∧ ps ≠ [] ∧ okL_ ps ∧ ps.length ≤ 20000 ∧ ∀ H', Ex H H' → Q (.int (((Tr.ov ps m s).nest : Nat) : Int)) H'
def sp_Over_begins (K : PySem.W.Frag) (d : Nat) : Sp := fun vs H Q _ => ∃ a ps m s, vs = [.ref a] ∧ ShAt K H (.ov ps m s) a ∧ (Tr.ov ps m s).nest ≤ d ∧ (Tr.ov ps m s).ok ∧ Q (.int ((((Tr.ov ps m s).moms.headD 0 : Nat)) : Int)) H
def sp_Over_ends (K : PySem.W.Frag) (d : Nat) : Sp := fun vs H Q _ => ∃ a ps m s, vs = [.ref a] ∧ ShAt K H (.ov ps m s) a ∧ (Tr.ov ps m s).nest ≤ d ∧ (Tr.ov ps m s).ok ∧ Q (.int ((((Tr.ov ps m s).moms.getLastD 0 : Nat)) : Int)) H
theorem ShsAt.snoc {K : PySem.W.Frag} {H : Hp} {t : Tr} {a : Addr} : ∀ {ts : List Tr} {as : List Addr}, ShsAt K H ts as → ShAt K H t a → ShsAt K H (ts ++ [t]) (as ++ [a])
  | [], as, h, ha => by
    unfold ShsAt at h
    rw [h]
    show ShsAt K H [t] [a]
    unfold ShsAt
    exact ⟨a, [], rfl, ha, by unfold ShsAt; rfl⟩
  | x :: ts, as, h, ha => by
    unfold ShsAt at h
    obtain ⟨b, r, rfl, h2, h3⟩ := h
    show ShsAt K H (x :: (ts ++ [t])) (b :: (r ++ [a]))
    unfold ShsAt
    exact ⟨b, r ++ [a], rfl, h2, ShsAt.snoc h3 ha⟩
end
section
theorem fb_Over_ends {P : Program} {w : World} {K : PySem.W.Frag} {mg : Str → Option Value} {base : Heap} (T : Env K mg) {d L : Nat} (hL : 40 ≤ L) (r_Over_ends : Fc P w K mg base L (He.ma K (He.ga K "Over") "ends") [] (sp_Over_ends K d)) : ∃ fd, FunD K "ends" "Over.ends" (defArgs s_Over_ends) (defBody s_Over_ends) (defScope s_Over_ends) [] [] (He.ma K (He.ga K "Over") "ends") fd ∧ Fb P w K mg base (L + 1) (He.ma K (He.ga K "Over") "ends") fd ["self"] (sp_Over_ends K (d + 1)) := by
  obtain ⟨fd, F⟩ := T.f_Over_ends
  refine ⟨fd, F, fb_of F sc_Over_ends (fun vs H Q E h => ?_) (fun cdv A outer s H vs Q E hr h => ?_)⟩
  · obtain ⟨a, ps, m, s, rfl, _⟩ := h
    rfl
  · obtain ⟨a, ps, m, s_, rfl, hO, hn, hok, q⟩ := h
    refine ⟨_, (pss_one (ps_ret (pe_op op_add (pe_orE (c_meth0 (pe_ix ix_tup (pe_fld (pv 0) (by rfl)) (pe_un un_neg pe_int) (fun _ _ => rfl)) T.c_At T.m_At_ends (ok_At_ends T) (hr.mono (by omega)) takes0) (c_meth0 (pe_ix ix_tup (pe_fld (pv 0) (by rfl)) (pe_un un_neg pe_int) (fun _ _ => rfl)) T.c_Over T.m_Over_ends r_Over_ends (hr.mono (by omega)) takes0)) (pe_op op_mul (pe_op op_sub (pe_fld (pv 0) (by rfl)) pe_int) (pe_fld (pv 0) (by rfl)))))), ?_⟩
    have hnL := ov_nest hn
    obtain ⟨o1, o2, _, _, _, _, o7⟩ := ov_facts hok
    have nn := momsL_ne o7 o1
    unfold Tr.moms at q
    obtain ⟨dx, kp, as, ha, hk, hA⟩ := (by unfold ShAt at hO; exact hO : ∃ dx kp as, H a = some (.ins (OverC K) dx (overF kp m s_)) ∧ H kp = some (.tup (as.map V.ref)) ∧ ShsAt K H ps as)
    rw [overN_last nn (by omega)] at q
    have hm := (ov_facts hok).2.2.1
    have hl1 := hA.len
    have as0 : as ≠ [] := fun z => by
      rw [z] at hl1
      exact o1 (List.length_eq_zero_iff.mp hl1.symm)
    obtain ⟨b, gb, aL⟩ := last_ref as0
    obtain ⟨t, ht, hS⟩ := hA.get gb
    have ep : ps = ps.dropLast ++ [t] := by
      have e := (List.dropLast_concat_getLast o1).symm
      have e2 : ps.getLast o1 = t := by
        rw [List.getLast_eq_getElem]
        rw [hl1] at ht
        obtain ⟨_, e⟩ := List.getElem?_eq_some_iff.mp ht
        exact e
      rw [e2] at e
      exact e
    have htm := List.mem_of_getElem? ht
    have eL : (momsL ps).getLastD 0 = t.moms.getLastD 0 := by
      rw [ep] at o7 ⊢
      exact momsL_last o7
    rw [eL] at q
    have ok := okL_mem o7 htm
    have tn := Nat.le_trans (nestL_mem htm) hnL
    have e : ((t.moms.getLastD 0 : Nat) : Int) + (((m : Nat) : Int) - 1) * ((s_ : Nat) : Int) = ((t.moms.getLastD 0 + (m - 1) * s_ : Nat) : Int) := by
      rw [Int.natCast_add, Int.natCast_mul, Int.natCast_sub (by omega)]
      rfl
    rw [← e] at q
    cases t with
    | «at» n =>
      unfold ShAt at hS
      obtain ⟨dy, h2⟩ := id hS
      unfold Tr.moms at q
      exact .inl ⟨_, rfl, a, _, dx, _, _, rfl, ha, T.c_Over, T.a_Over_kept, rfl, _, rfl, kp, _, _, _, rfl, rfl, sq_tup hk, aL, b, dy, _, rfl, h2, rfl, b, n, rfl, hS, _, rfl, a, _, dx, _, _, rfl, ha, T.c_Over, T.a_Over_many, rfl, _, _, rfl, rfl, _, rfl, a, _, dx, _, _, rfl, ha, T.c_Over, T.a_Over_step, rfl, _, _, rfl, rfl, .inl ⟨by omega, by omega⟩, _, _, rfl, rfl, q⟩
    | ov ps' m' s' =>
      obtain ⟨dy, kp', as', h2, _⟩ := (by unfold ShAt at hS; exact hS : ∃ dx kp as, H b = some (.ins (OverC K) dx (overF kp m' s')) ∧ H kp = some (.tup (as.map V.ref)) ∧ ShsAt K H ps' as)
      exact .inr ⟨_, rfl, a, _, dx, _, _, rfl, ha, T.c_Over, T.a_Over_kept, rfl, _, rfl, kp, _, _, _, rfl, rfl, sq_tup hk, aL, b, dy, _, rfl, h2, rfl, b, ps', m', s', rfl, hS, tn, ok, _, rfl, a, _, dx, _, _, rfl, ha, T.c_Over, T.a_Over_many, rfl, _, _, rfl, rfl, _, rfl, a, _, dx, _, _, rfl, ha, T.c_Over, T.a_Over_step, rfl, _, _, rfl, rfl, .inl ⟨by omega, by omega⟩, _, _, rfl, rfl, q⟩
theorem ok_Over_ends {P : Program} {w : World} {K : PySem.W.Frag} {mg : Str → Option Value} {base : Heap} (T : Env K mg) {d L : Nat} (hL : 40 ≤ L) (r_Over_ends : Fc P w K mg base L (He.ma K (He.ga K "Over") "ends") [] (sp_Over_ends K d)) : Fc P w K mg base (L + 1) (He.ma K (He.ga K "Over") "ends") [] (sp_Over_ends K (d + 1)) := by
  obtain ⟨fd, D, F⟩ := fb_Over_ends T hL r_Over_ends
  exact F.all (D.bindsN fun _ _ _ _ _ _ us hl => match us, hl with | [_], _ => rfl)
theorem all_Over_ends {P : Program} {w : World} {K : PySem.W.Frag} {mg : Str → Option Value} {base : Heap} (T : Env K mg) : ∀ d, Fc P w K mg base (40 + 1 * d) (He.ma K (He.ga K "Over") "ends") [] (sp_Over_ends K d)
  | 0 => fc_no fun vs H Q E h => by
    obtain ⟨a, ps, m, s, _, _, h, _⟩ := h
    unfold Tr.nest at h
    omega
  | d + 1 => ok_Over_ends T (Nat.le_add_right 40 _) (all_Over_ends T d)
end
section
def sp_At_begins (K : PySem.W.Frag) : Sp := fun vs H Q _ => ∃ a n, vs = [.ref a] ∧ AtAt K H a n ∧ Q (.int (n : Nat)) H
theorem fb_At_begins {P : Program} {w : World} {K : PySem.W.Frag} {mg : Str → Option Value} {base : Heap} (T : Env K mg) : ∃ fd, FunD K "begins" "At.begins" (defArgs s_At_begins) (defBody s_At_begins) (defScope s_At_begins) [] [] (He.ma K (He.ga K "At") "begins") fd ∧ Fb P w K mg base 1 (He.ma K (He.ga K "At") "begins") fd ["self"] (sp_At_begins K) := by
  obtain ⟨fd, F⟩ := T.f_At_begins
  refine ⟨fd, F, fb_of F sc_At_begins (fun vs H Q E h => ?_) (fun cdv A outer s H vs Q E hr h => ?_)⟩
  · obtain ⟨a, n, rfl, _⟩ := h
    rfl
  · obtain ⟨a, n, rfl, ⟨dx, ha⟩, q⟩ := h
    refine ⟨_, (pss_one (ps_ret (pe_fld (pv 0) (by rfl)))), ?_⟩
    exact ⟨_, rfl, a, _, dx, _, _, rfl, ha, T.c_At, T.a_At_moment, rfl, q⟩
theorem ok_At_begins {P : Program} {w : World} {K : PySem.W.Frag} {mg : Str → Option Value} {base : Heap} (T : Env K mg) : Fc P w K mg base 1 (He.ma K (He.ga K "At") "begins") [] (sp_At_begins K ) := by
  obtain ⟨fd, D, F⟩ := fb_At_begins T
  exact F.all (D.bindsN fun _ _ _ _ _ _ us hl => match us, hl with | [_], _ => rfl)
end
section
theorem fb_Over_begins {P : Program} {w : World} {K : PySem.W.Frag} {mg : Str → Option Value} {base : Heap} (T : Env K mg) {d L : Nat} (hL : 40 ≤ L) (r_Over_begins : Fc P w K mg base L (He.ma K (He.ga K "Over") "begins") [] (sp_Over_begins K d)) : ∃ fd, FunD K "begins" "Over.begins" (defArgs s_Over_begins) (defBody s_Over_begins) (defScope s_Over_begins) [] [] (He.ma K (He.ga K "Over") "begins") fd ∧ Fb P w K mg base (L + 1) (He.ma K (He.ga K "Over") "begins") fd ["self"] (sp_Over_begins K (d + 1)) := by
  obtain ⟨fd, F⟩ := T.f_Over_begins
  refine ⟨fd, F, fb_of F sc_Over_begins (fun vs H Q E h => ?_) (fun cdv A outer s H vs Q E hr h => ?_)⟩
  · obtain ⟨a, ps, m, s, rfl, _⟩ := h
    rfl
  · obtain ⟨a, ps, m, s_, rfl, hO, hn, hok, q⟩ := h
    refine ⟨_, (pss_one (ps_ret (pe_orE (c_meth0 (pe_ix ix_tup (pe_fld (pv 0) (by rfl)) pe_int (fun _ _ => rfl)) T.c_At T.m_At_begins (ok_At_begins T) (hr.mono (by omega)) takes0) (c_meth0 (pe_ix ix_tup (pe_fld (pv 0) (by rfl)) pe_int (fun _ _ => rfl)) T.c_Over T.m_Over_begins r_Over_begins (hr.mono (by omega)) takes0)))), ?_⟩
    have hnL := ov_nest hn
    obtain ⟨o1, o2, _, _, _, _, o7⟩ := ov_facts hok
    have nn := momsL_ne o7 o1
    unfold Tr.moms at q
    obtain ⟨dx, kp, as, ha, hk, hA⟩ := (by unfold ShAt at hO; exact hO : ∃ dx kp as, H a = some (.ins (OverC K) dx (overF kp m s_)) ∧ H kp = some (.tup (as.map V.ref)) ∧ ShsAt K H ps as)
    rw [overN_head nn m (by omega)] at q
    cases ps with
    | nil => exact absurd rfl o1
    | cons t ts =>
      rw [momsL_head o7] at q
      unfold ShsAt at hA
      obtain ⟨b, r, rfl, hS, _⟩ := hA
      have aF : atI ((b :: r).map V.ref) 0 = some (.ref b) := atI_nat (j := 0) rfl
      have ok := okL_mem o7 (List.mem_cons_self (a := t) (l := ts))
      have tn := Nat.le_trans (nestL_mem (List.mem_cons_self (a := t) (l := ts))) hnL
      cases t with
      | «at» n =>
        unfold ShAt at hS
        obtain ⟨dy, h2⟩ := id hS
        exact .inl ⟨_, rfl, a, _, dx, _, _, rfl, ha, T.c_Over, T.a_Over_kept, rfl, kp, _, _, _, rfl, rfl, sq_tup hk, aF, b, dy, _, rfl, h2, rfl, b, n, rfl, hS, by unfold Tr.moms at q; exact q⟩
      | ov ps' m' s' =>
        obtain ⟨dy, kp', as', h2, _⟩ := (by unfold ShAt at hS; exact hS : ∃ dx kp as, H b = some (.ins (OverC K) dx (overF kp m' s')) ∧ H kp = some (.tup (as.map V.ref)) ∧ ShsAt K H ps' as)
        exact .inr ⟨_, rfl, a, _, dx, _, _, rfl, ha, T.c_Over, T.a_Over_kept, rfl, kp, _, _, _, rfl, rfl, sq_tup hk, aF, b, dy, _, rfl, h2, rfl, b, ps', m', s', rfl, hS, tn, ok, q⟩
theorem ok_Over_begins {P : Program} {w : World} {K : PySem.W.Frag} {mg : Str → Option Value} {base : Heap} (T : Env K mg) {d L : Nat} (hL : 40 ≤ L) (r_Over_begins : Fc P w K mg base L (He.ma K (He.ga K "Over") "begins") [] (sp_Over_begins K d)) : Fc P w K mg base (L + 1) (He.ma K (He.ga K "Over") "begins") [] (sp_Over_begins K (d + 1)) := by
  obtain ⟨fd, D, F⟩ := fb_Over_begins T hL r_Over_begins
  exact F.all (D.bindsN fun _ _ _ _ _ _ us hl => match us, hl with | [_], _ => rfl)
theorem all_Over_begins {P : Program} {w : World} {K : PySem.W.Frag} {mg : Str → Option Value} {base : Heap} (T : Env K mg) : ∀ d, Fc P w K mg base (40 + 1 * d) (He.ma K (He.ga K "Over") "begins") [] (sp_Over_begins K d)
  | 0 => fc_no fun vs H Q E h => by
    obtain ⟨a, ps, m, s, _, _, h, _⟩ := h
    unfold Tr.nest at h
    omega
  | d + 1 => ok_Over_begins T (Nat.le_add_right 40 _) (all_Over_begins T d)
end
section
theorem sh_ends {K : PySem.W.Frag} {W : WX} {ta : TE} {σ : L2.St} {H : Hp} {Q : VK} {t : Tr} {a : Addr} {d : Nat} (hS : ShAt K H t a) (hok : t.ok) (hn : t.nest ≤ d) (hta : ∀ R : VK, R (.ref a) H → ta σ H R) (q : Q (.int ((t.moms.getLastD 0 : Nat) : Int)) H) : tOrE (tMt (He.ga K "At") "ends" (sp_At_ends K) W ta tNil) (tMt (He.ga K "Over") "ends" (sp_Over_ends K d) W ta tNil) σ H Q := by
  cases t with
  | «at» n =>
    unfold ShAt at hS
    obtain ⟨dy, h2⟩ := id hS
    unfold Tr.moms at q
    exact .inl (hta _ ⟨a, dy, _, rfl, h2, rfl, a, n, rfl, hS, q⟩)
  | ov ps' m' s' =>
    obtain ⟨dy, kp', as', h2, _⟩ := (by unfold ShAt at hS; exact hS : ∃ dx kp as, H a = some (.ins (OverC K) dx (overF kp m' s')) ∧ H kp = some (.tup (as.map V.ref)) ∧ ShsAt K H ps' as)
    exact .inr (hta _ ⟨a, dy, _, rfl, h2, rfl, a, ps', m', s', rfl, hS, hn, hok, q⟩)
theorem sh_begins {K : PySem.W.Frag} {W : WX} {ta : TE} {σ : L2.St} {H : Hp} {Q : VK} {t : Tr} {a : Addr} {d : Nat} (hS : ShAt K H t a) (hok : t.ok) (hn : t.nest ≤ d) (hta : ∀ R : VK, R (.ref a) H → ta σ H R) (q : Q (.int ((t.moms.headD 0 : Nat) : Int)) H) : tOrE (tMt (He.ga K "At") "begins" (sp_At_begins K) W ta tNil) (tMt (He.ga K "Over") "begins" (sp_Over_begins K d) W ta tNil) σ H Q := by
  cases t with
  | «at» n =>
    unfold ShAt at hS
    obtain ⟨dy, h2⟩ := id hS
    unfold Tr.moms at q
    exact .inl (hta _ ⟨a, dy, _, rfl, h2, rfl, a, n, rfl, hS, q⟩)
  | ov ps' m' s' =>
    obtain ⟨dy, kp', as', h2, _⟩ := (by unfold ShAt at hS; exact hS : ∃ dx kp as, H a = some (.ins (OverC K) dx (overF kp m' s')) ∧ H kp = some (.tup (as.map V.ref)) ∧ ShsAt K H ps' as)
    exact .inr (hta _ ⟨a, dy, _, rfl, h2, rfl, a, ps', m', s', rfl, hS, hn, hok, q⟩)
def sp_all_rising (K : PySem.W.Frag) : Sp := fun vs H Q _ => ∃ (p : Addr) (as : List Addr) (ts : List Tr), vs = [.ref p] ∧ H p = some (.tup (as.map V.ref)) ∧ ShsAt K H ts as ∧ nestL ts ≤ 9 ∧ okL_ ts ∧ ts.length ≤ 20000 ∧ ∀ H', Ex H H' → Q (.bl (risB ts)) H'
theorem fb_all_rising {P : Program} {w : World} {K : PySem.W.Frag} {mg : Str → Option Value} {base : Heap} (T : Env K mg) : ∃ fd, FunD K "all_rising" "all_rising" (defArgs s_all_rising) (defBody s_all_rising) (defScope s_all_rising) [] [] (He.ga K "all_rising") fd ∧ Fb P w K mg base 60 (He.ga K "all_rising") fd ["parts"] (sp_all_rising K) := by
  obtain ⟨fd, F⟩ := T.f_all_rising
  refine ⟨fd, F, fb_of F sc_all_rising (fun vs H Q E h => ?_) (fun cdv A outer s H vs Q E hr h => ?_)⟩
  · obtain ⟨p, as, ts, rfl, _⟩ := h
    rfl
  · obtain ⟨p, as, ts, rfl, hp, hA, hn, hok, hl, q⟩ := h
    refine ⟨_, (pss_one (ps_ret (pe_callB (cr_all rfl) (by rfl) T.n_all (by decide +kernel) (pa_cons (pe_lc (own := [("one", 1), ("other", 2)]) (by rfl) sc_all_rising.nd (RZ.pi_zipA (by rfl) T.n_zip (pa_cons (pv 0) (pa_cons (pe_slice sl_tupA (pv 0) (po_some pe_int) po_none) pa_nil))) (blkOk_by (own := [("one", 1), ("other", 2)]) (N := ["parts", "one", "other"]) (sc := defScope s_all_rising) (by decide +kernel)) (fun _ _ _ _ _ => (pg_tupK K (n := 2) rfl (pgs_cons (pg_name (i := 1) sc_all_rising.nd rfl (Or.inl rfl)) (pgs_cons (pg_name (i := 2) sc_all_rising.nd rfl (Or.inl rfl)) pgs_nil)))) (fun _ _ _ _ _ => pts_nil) (fun _ _ _ _ _ => (pe_cmpR op_lt (pe_orE (c_meth0 (pv 1) T.c_At T.m_At_ends (ok_At_ends T) (hr.mono (by decide)) takes0) (c_meth0 (pv 1) T.c_Over T.m_Over_ends (all_Over_ends T 9) (hr.mono (by decide)) takes0)) (pe_orE (c_meth0 (pv 2) T.c_At T.m_At_begins (ok_At_begins T) (hr.mono (by decide)) takes0) (c_meth0 (pv 2) T.c_Over T.m_Over_begins (all_Over_begins T 9) (hr.mono (by decide)) takes0)) (nomark _)))) pa_nil)))), ?_⟩
    refine ⟨_, rfl, _, rfl, _, rfl, ?_⟩
    dsimp only [tNoPart]
    refine slA_of (sq_tup hp) fun b2 H4 X4 hb2 => ?_
    rw [cut1] at hb2
    have ed : (as.map V.ref).drop 1 = (as.drop 1).map V.ref := by rw [List.map_drop]
    rw [ed] at hb2
    have hA4 := hA.mono X4
    have hl1 := hA.len
    have hz1 : (as.zip ts).map (fun p => V.ref p.1) = as.map V.ref := by
      show (as.zip ts).map (V.ref ∘ Prod.fst) = _
      rw [← List.map_map, List.map_fst_zip (by omega)]
    have hz1d : ((as.zip ts).drop 1).map (fun p => V.ref p.1) = (as.drop 1).map V.ref := by rw [List.map_drop, List.map_drop, hz1]
    have hz2 : (as.zip ts).map Prod.snd = ts := List.map_snd_zip (by omega)
    have zl : (as.zip ts).length ≤ 20000 := by rw [List.length_zip]; omega
    have hp4 : H4 p = some (.tup ((as.zip ts).map fun p => V.ref p.1)) := by rw [hz1]; exact X4 _ _ hp
    rw [← hz1d] at hb2
    refine ⟨p, b2, (as.zip ts).map (fun p => V.ref p.1), ((as.zip ts).drop 1).map (fun p => V.ref p.1), rfl, .inr ⟨sq_tup hp4, hb2, fun D nD => lc_zip (as.zip ts) ((as.zip ts).drop 1) (fun p => V.ref p.1) (fun p => V.ref p.1) (walk_zipT rfl) (by rw [List.length_map, List.length_map]) (fun x y => some (.bl (decide (x.2.moms.getLastD 0 < y.2.moms.headD 0)))) (fun H' => Ex H4 H') (fun H' z e => ex_mut e nD) (.refl _) (by omega) (fun H' e => ⟨sq_tup (e _ _ hp4), ex_sqt e hb2⟩) (fun i x y u H5 acc N hx hy X5 nu hD la k => ?_) fun H5 X5 d5 => ?_⟩⟩
    · have hD2 := fun o => ex_new (o := o) nu _ _ hD
      have Z := X5.trans (ex_new (o := .tup [.ref x.1, .ref y.1]) nu)
      rw [List.getElem?_drop] at hy
      obtain ⟨hx1, hx2⟩ := List.getElem?_zip_eq_some.mp hx
      obtain ⟨hy1, hy2⟩ := List.getElem?_zip_eq_some.mp hy
      have gx : ShAt K H4 x.2 x.1 := by
        obtain ⟨t, ht, h⟩ := hA4.get hx1
        rw [hx2] at ht
        cases ht
        exact h
      have gy : ShAt K H4 y.2 y.1 := by
        obtain ⟨t, ht, h⟩ := hA4.get hy1
        rw [hy2] at ht
        cases ht
        exact h
      have mx := List.mem_of_getElem? hx2
      have my := List.mem_of_getElem? hy2
      refine ⟨u, _, rfl, sq_tup upd_same, rfl, _, _, rfl, _, _, rfl, rfl, rfl, ?_⟩
      refine sh_ends (gx.mono Z) (okL_mem hok mx) (Nat.le_trans (nestL_mem mx) hn) (fun R r => ⟨_, rfl, r⟩) ?_
      refine sh_begins (gy.mono Z) (okL_mem hok my) (Nat.le_trans (nestL_mem my) hn) (fun R r => ⟨_, rfl, r⟩) ?_
      refine ⟨_, _, rfl, rfl, acc, hD2 _, la, ?_⟩
      have ei : decide (((x.2.moms.getLastD 0 : Nat) : Int) < ((y.2.moms.headD 0 : Nat) : Int)) = decide (x.2.moms.getLastD 0 < y.2.moms.headD 0) := decide_eq_decide.mpr ⟨fun z => by omega, fun z => by omega⟩
      show N (upd (upd H5 u (.tup [.ref x.1, .ref y.1])) D (.lst (acc ++ [.bl (decide (((x.2.moms.getLastD 0 : Nat) : Int) < ((y.2.moms.headD 0 : Nat) : Int)))])))
      rw [ei]
      exact k _ Z (hD2 _)
    · have ef : ((as.zip ts).zip ((as.zip ts).drop 1)).filterMap (fun p => some (V.bl (decide (p.1.2.moms.getLastD 0 < p.2.2.moms.headD 0)))) = ((ts.zip (ts.drop 1)).map fun p => decide (p.1.moms.getLastD 0 < p.2.moms.headD 0)).map V.bl := by
        rw [List.filterMap_eq_map', List.map_map]
        conv => rhs; rw [← hz2, ← List.map_drop, List.zip_map, List.map_map]
        rfl
      rw [ef] at d5
      refine ⟨D, _, rfl, sq_lst d5, ?_⟩
      rw [List.all_map]
      exact q _ (X4.trans X5)
theorem ok_all_rising {P : Program} {w : World} {K : PySem.W.Frag} {mg : Str → Option Value} {base : Heap} (T : Env K mg) : Fc P w K mg base 60 (He.ga K "all_rising") [] (sp_all_rising K ) := by
  obtain ⟨fd, D, F⟩ := fb_all_rising T
  exact F.all (D.bindsN fun _ _ _ _ _ _ us hl => match us, hl with | [_], _ => rfl)
end
section
/-- at p a list or a tuple -/
def SqA (H : Hp) (p : Addr) (xs : List V) : Prop := H p = some (.lst xs) ∨ H p = some (.tup xs)
def sp_shorts_in (K : PySem.W.Frag) : Sp := fun vs H Q E => ∃ (p : Addr) (as : List Addr) (ts : List Tr), vs = [.ref p] ∧ SqA H p (as.map V.ref) ∧ ShsAt K H ts as ∧ nestL ts ≤ 9 ∧ okL_ ts ∧ ts.length ≤ 20000 ∧ (risB ts = true → ∀ t H', Ex H H' → H' t = some (.tup (as.map V.ref)) → Q (.ref t) H') ∧ (risB ts = false → ∀ H', Ex H H' → E (.ref (He.ga K "NoPiece")) none H')
theorem fb_shorts_in {P : Program} {w : World} {K : PySem.W.Frag} {mg : Str → Option Value} {base : Heap} (T : Env K mg) : ∃ fd, FunD K "shorts_in" "shorts_in" (defArgs s_shorts_in) (defBody s_shorts_in) (defScope s_shorts_in) [] [] (He.ga K "shorts_in") fd ∧ Fb P w K mg base 61 (He.ga K "shorts_in") fd ["parts"] (sp_shorts_in K) := by
  obtain ⟨fd, F⟩ := T.f_shorts_in
  refine ⟨fd, F, fb_of F sc_shorts_in (fun vs H Q E h => ?_) (fun cdv A outer s H vs Q E hr h => ?_)⟩
  · obtain ⟨p, as, ts, rfl, _⟩ := h
    rfl
  · obtain ⟨p, as, ts, rfl, hp, hA, hn, hok, hl, q, qe⟩ := h
    refine ⟨_, (pss_cons (ps_if (pt_not (pt_val (pe_callB call_isiT (by rfl) T.n_isinstance (by decide +kernel) (pa_cons (pv 0) (pa_cons (pe_tup (pa_cons (pe_bltn (v := .ty "list") (by rfl) T.n_list (by decide +kernel) rfl) (pa_cons (pe_bltn (v := .ty "tuple") (by rfl) T.n_tuple (by decide +kernel) rfl) pa_nil))) pa_nil)))))
      (pss_one (ps_raise rfl (takes_of rfl rfl rfl rfl) (pmk_own PySem.F.excBase_ValueError T.x_NoPiece.x T.g_NoPiece T.x_NoPiece.kp (raises_own T.x_NoPiece.sub T.x_NoPiece.ty) rfl)))
      pss_nil)
      (pss_cons (ps_set (i := 1) sc_shorts_in.nd rfl (Or.inl rfl) (pe_callTy call_tuple_of (by rfl) T.n_tuple (by decide +kernel) (pa_cons (pv 0) pa_nil)))
      (pss_cons (ps_if (PW.pt (pw_or (pt_not (pt_val (pe_callB (cr_all rfl) (by rfl) T.n_all (by decide +kernel) (pa_cons (pe_lc (own := [("one", 2)]) (by rfl) sc_shorts_in.nd (pi_tup (pv 1)) (blkOk_by (own := [("one", 2)]) (N := ["parts", "found", "one"]) (sc := defScope s_shorts_in) (by decide +kernel)) (fun _ _ _ _ _ => (pg_name (i := 2) sc_shorts_in.nd rfl (Or.inl rfl))) (fun _ _ _ _ _ => pts_nil) (fun _ _ _ _ _ => (pe_callB (call_isiK K) (by rfl) T.n_isinstance (by decide +kernel) (pa_cons (pv 2) (pa_cons (pe_glob (v := .ref _) (by rfl) T.g_Short rfl) pa_nil))))) pa_nil)))) (pw_or1 (pt_not (pt_val (c_call (ok_all_rising T) (hr.mono (by decide)) T.g_all_rising T.k_all_rising (takes_of rfl rfl rfl rfl) (pa_cons (pv 1) pa_nil)))))))
      (pss_one (ps_raise rfl (takes_of rfl rfl rfl rfl) (pmk_own PySem.F.excBase_ValueError T.x_NoPiece.x T.g_NoPiece T.x_NoPiece.kp (raises_own T.x_NoPiece.sub T.x_NoPiece.ty) rfl)))
      pss_nil)
      (pss_one (ps_ret (pv 1)))))), ?_⟩
    have hl1 := hA.len
    refine ⟨_, rfl, by show 2 ≤ sizeLine; decide, fun tp ntp => ?_⟩
    have X1 := ex_new (o := .tup [.ty "list", .ty "tuple"]) ntp
    have ty : ∃ t, TyX K (upd H tp (.tup [.ty "list", .ty "tuple"])) (.ref p) t ∧ PySem.W.kitAny K t [.type "list", .type "tuple"] = some true := by
      rcases hp with h | h
      · exact ⟨_, .base (.lst (X1 _ _ h)), kitAny_cons (b := true) (kit_ty (by decide +kernel)) (fun z => nomatch z) (fun _ => rfl)⟩
      · exact ⟨_, .base (.tup (X1 _ _ h)), kitAny_cons (b := false) (kit_ty (by decide +kernel)) (fun _ => kitAny_cons (b := true) (kit_ty (by decide +kernel)) (fun z => nomatch z) (fun _ => rfl)) (by decide)⟩
    obtain ⟨t, ty, kt⟩ := ty
    refine ⟨.ref p, tp, _, t, _, true, rfl, upd_same, .cons (.ty "list") (.cons (.ty "tuple") .nil), ty, kt, true, rfl, iteF ?_⟩
    generalize upd H tp (.tup [.ty "list", .ty "tuple"]) = H1 at X1 ty ⊢
    refine ⟨_, rfl, p, as.map V.ref, rfl, ?_⟩
    have rest : ∀ t2 H2, Ex H1 H2 → H2 t2 = some (.tup (as.map V.ref)) → (tSeq (tIfS (tOr (tNot (tB (tCB (rAll K) (tCons (tLc (iTup K (tVar 1)) (gName 2) tYes (tCB (rIsi K) (tCons (tVar 2) (tCons (tC (V.ref (He.ga K "Short"))) tNil))) (List.map (fun x => x.snd) [(Str.ofString "one", 2)])) tNil)))) (tNot (tB (tFc (sp_all_rising K) (fun cls d x H => E cls d H) (tCons (tVar 1) tNil))))) (fun x σ H => (fun cls d H' => E cls d H') (Value.ref (He.ga K "NoPiece")) none H) tNext) (tRet (tVar 1))) { nx := fun _ H' => Q .non H', rt := Q } [some (.ref p), some (.ref t2), none] H2 := fun t2 H2 X2 h2 => by
      have X02 := X1.trans X2
      have hA2 := hA.mono X02
      refine ⟨_, rfl, t2, rfl, ⟨_, sq_tup h2⟩, fun A nA => lc_on as V.ref L2.walk_tup (fun _ => some (.bl true)) (fun H' => Ex H2 H') (fun H' z e => ex_mut e nA) (.refl _) (by omega) (fun H' e => sq_tup (e _ _ h2)) (fun i x H3 acc N hx X3 hD la k => ?_) fun H3 X3 d3 => ?_⟩
      · obtain ⟨t, ht, hS⟩ := hA2.get hx
        have hS3 := hS.mono X3
        cases t with
        | «at» n =>
          unfold ShAt at hS3
          obtain ⟨dx, h1⟩ := hS3
          exact ⟨rfl, _, rfl, .ref x, .ref (He.ga K "Short"), _, _, true, rfl, .own _, ty_ins T.i_At T.c_At h1, T.kit_At_Short, acc, hD, la, k H3 X3 hD⟩
        | ov ps m s =>
          unfold ShAt at hS3
          obtain ⟨dx, kp, as', h1, _⟩ := hS3
          exact ⟨rfl, _, rfl, .ref x, .ref (He.ga K "Short"), _, _, true, rfl, .own _, ty_ins T.i_Over T.c_Over h1, T.kit_Over_Short, acc, hD, la, k H3 X3 hD⟩
      · have ef : as.filterMap (fun _ => some (V.bl true)) = (List.replicate as.length true).map V.bl := by
          rw [List.map_replicate, ← List.map_const', List.filterMap_eq_map']
        rw [ef] at d3
        refine ⟨A, _, rfl, sq_lst d3, ?_⟩
        rw [all_repT]
        refine ⟨true, rfl, iteF ?_⟩
        refine ⟨_, rfl, t2, as, ts, rfl, X3 _ _ h2, hA2.mono X3, hn, hok, hl, fun H4 X4 => ⟨_, rfl, ?_⟩⟩
        cases hr2 : risB ts with
        | true =>
          refine iteF ?_
          exact ⟨_, rfl, q hr2 t2 H4 (X02.trans (X3.trans X4)) ((X3.trans X4) _ _ h2)⟩
        | false => exact iteT (qe hr2 H4 (X02.trans (X3.trans X4)))
    rcases hp with h | h
    · exact .inl ⟨sq_lst (X1 _ _ h), fun t2 nt2 => rest t2 _ (ex_new nt2) upd_same⟩
    · exact .inr ⟨sq_tup (X1 _ _ h), rest p _ (.refl _) (X1 _ _ h)⟩
theorem ok_shorts_in {P : Program} {w : World} {K : PySem.W.Frag} {mg : Str → Option Value} {base : Heap} (T : Env K mg) : Fc P w K mg base 61 (He.ga K "shorts_in") [] (sp_shorts_in K ) := by
  obtain ⟨fd, D, F⟩ := fb_shorts_in T
  exact F.all (D.bindsN fun _ _ _ _ _ _ us hl => match us, hl with | [_], _ => rfl)
end
section
def sp_At_moments (K : PySem.W.Frag) : Sp := fun vs H Q _ => ∃ a n, vs = [.ref a] ∧ AtAt K H a n ∧ ∀ p, H p = none → Q (.ref p) (upd H p (.lst [.int (n : Nat)]))
theorem fb_At_moments {P : Program} {w : World} {K : PySem.W.Frag} {mg : Str → Option Value} {base : Heap} (T : Env K mg) : ∃ fd, FunD K "moments" "At.moments" (defArgs s_At_moments) (defBody s_At_moments) (defScope s_At_moments) [] [] (He.ma K (He.ga K "At") "moments") fd ∧ Fb P w K mg base 1 (He.ma K (He.ga K "At") "moments") fd ["self"] (sp_At_moments K) := by
  obtain ⟨fd, F⟩ := T.f_At_moments
  refine ⟨fd, F, fb_of F sc_At_moments (fun vs H Q E h => ?_) (fun cdv A outer s H vs Q E hr h => ?_)⟩
  · obtain ⟨a, n, rfl, _⟩ := h
    rfl
  · obtain ⟨a, n, rfl, ⟨dx, ha⟩, q⟩ := h
    refine ⟨_, (pss_one (ps_ret (pe_lst (pa_cons (pe_fld (pv 0) (by rfl)) pa_nil)))), ?_⟩
    exact ⟨_, rfl, a, _, dx, _, _, rfl, ha, T.c_At, T.a_At_moment, rfl, by show 1 ≤ sizeLine; decide, q⟩
theorem ok_At_moments {P : Program} {w : World} {K : PySem.W.Frag} {mg : Str → Option Value} {base : Heap} (T : Env K mg) : Fc P w K mg base 1 (He.ma K (He.ga K "At") "moments") [] (sp_At_moments K ) := by
  obtain ⟨fd, D, F⟩ := fb_At_moments T
  exact F.all (D.bindsN fun _ _ _ _ _ _ us hl => match us, hl with | [_], _ => rfl)
end
section
def sp_row_moments (K : PySem.W.Frag) (d : Nat) : Sp := fun vs H Q _ => ∃ (p : Addr) (as : List Addr) (ts : List Tr), vs = [.ref p] ∧ H p = some (.tup (as.map V.ref)) ∧ ShsAt K H ts as ∧ nestL ts ≤ d ∧ okL_ ts ∧ (momsL ts).length ≤ 1440 ∧ ∀ t H', Ex H H' → H t = none → H' t = some (.lst (natV (momsL ts))) → Q (.ref t) H'
theorem fb_row_moments {P : Program} {w : World} {K : PySem.W.Frag} {mg : Str → Option Value} {base : Heap} (T : Env K mg) {d L : Nat} (hL : 40 ≤ L) (r_Over_moments : Fc P w K mg base L (He.ma K (He.ga K "Over") "moments") [] (sp_Over_moments K d)) : ∃ fd, FunD K "row_moments" "row_moments" (defArgs s_row_moments) (defBody s_row_moments) (defScope s_row_moments) [] [] (He.ga K "row_moments") fd ∧ Fb P w K mg base (L + 1) (He.ga K "row_moments") fd ["parts"] (sp_row_moments K (d)) := by
  obtain ⟨fd, F⟩ := T.f_row_moments
  refine ⟨fd, F, fb_of F sc_row_moments (fun vs H Q E h => ?_) (fun cdv A outer s H vs Q E hr h => ?_)⟩
  · obtain ⟨p, as, ts, rfl, _⟩ := h
    rfl
  · obtain ⟨p, as, ts, rfl, hp, hA, hn, hok, hl, q⟩ := h
    refine ⟨_, (pss_cons (ps_set (i := 1) sc_row_moments.nd rfl (Or.inl rfl) (pe_lst pa_nil))
      (pss_cons (ps_for (passes_of rfl) rfl (pi_tup (pv 0)) (pg_name (i := 2) sc_row_moments.nd rfl (Or.inl rfl))
      (pss_one (ps_expr (pe_bm PySem.F.plainAttrs_list PySem.F.slot_list_extend PySem.F.type_list_extend mt_extend (pv 1) (pa_cons (pe_orE (c_meth0 (pv 2) T.c_At T.m_At_moments (ok_At_moments T) (hr.mono (by omega)) takes0) (c_meth0 (pv 2) T.c_Over T.m_Over_moments r_Over_moments (hr.mono (by omega)) takes0)) pa_nil)))))
      (pss_one (ps_ret (pv 1))))), ?_⟩
    refine ⟨by show 0 ≤ sizeLine; decide, fun f nf => ?_⟩
    have X0 := ex_new (o := .lst []) nf
    have hl1 := hA.len
    have pf : p ≠ f := ne_of_none hp nf
    refine ⟨_, rfl, p, rfl, ⟨_, sq_tup (X0 _ _ hp)⟩, for_on as V.ref L2.walk_tup (fun i σ H' => Oth f H H' ∧ ∃ v2, σ = [some (.ref p), some (.ref f), v2] ∧ H' f = some (.lst (natV (momsL (ts.take i))))) ⟨ex_oth X0, _, rfl, upd_same⟩ (fun i σ H' z => sq_tup (z.1 _ _ pf hp)) ?_ ?_⟩
    · rintro i a σ H2 hx ⟨O2, v2, rfl, hf⟩
      obtain ⟨t, ht, hS⟩ := hA.get hx
      have htm := List.mem_of_getElem? ht
      have X2 : Ex H H2 := fun b o e => O2 b o (ne_of_none e nf) e
      have eT := momsL_take ht
      have bT := momsL_take_len ts (i + 1)
      rw [eT, List.length_append] at bT
      have hS2 := hS.mono X2
      have fin : ∀ (u : Addr) (H3 : Hp), Ex H2 H3 → H3 u = some (.lst (natV t.moms)) → rExtend (.ref f) [.ref u] H3 (fun _ H' => Oth f H H' ∧ ∃ v2', [some (V.ref p), some (V.ref f), some (V.ref a)] = [some (.ref p), some (.ref f), v2'] ∧ H' f = some (.lst (natV (momsL (ts.take (i + 1)))))) := fun u H3 X3 hu => by
        refine ⟨f, u, _, _, rfl, rfl, X3 _ _ hf, hu, sz_le (by rw [natV_len, natV_len]; omega), (O2.trans (ex_oth X3)).upd, _, rfl, ?_⟩
        rw [upd_same, eT]
        unfold natV
        rw [List.map_append]
      refine ⟨_, rfl, .inl ⟨rfl, _, sq_lst hf⟩, ?_⟩
      cases t with
      | «at» n =>
        unfold ShAt at hS2
        obtain ⟨dx, h2⟩ := id hS2
        exact .inl ⟨_, rfl, a, dx, _, rfl, h2, rfl, a, n, rfl, hS2, fun u nu => fin u _ (ex_new nu) (by rw [upd_same]; unfold Tr.moms; rfl)⟩
      | ov ps m s =>
        obtain ⟨dx, kp, as', h2, _⟩ := (by unfold ShAt at hS2; exact hS2 : ∃ dx kp as, H2 a = some (.ins (OverC K) dx (overF kp m s)) ∧ H2 kp = some (.tup (as.map V.ref)) ∧ ShsAt K H2 ps as)
        exact .inr ⟨_, rfl, a, dx, _, rfl, h2, rfl, a, ps, m, s, rfl, hS2, Nat.le_trans (nestL_mem htm) hn, okL_mem hok htm, fun u H3 X3 nu hu => fin u H3 X3 hu⟩
    · rintro σ H2 ⟨O2, v2, rfl, hf⟩
      rw [List.take_of_length_le (by omega)] at hf
      exact ⟨_, rfl, q f H2 (fun b o e => O2 b o (ne_of_none e nf) e) nf hf⟩
theorem ok_row_moments {P : Program} {w : World} {K : PySem.W.Frag} {mg : Str → Option Value} {base : Heap} (T : Env K mg) {d L : Nat} (hL : 40 ≤ L) (r_Over_moments : Fc P w K mg base L (He.ma K (He.ga K "Over") "moments") [] (sp_Over_moments K d)) : Fc P w K mg base (L + 1) (He.ga K "row_moments") [] (sp_row_moments K (d)) := by
  obtain ⟨fd, D, F⟩ := fb_row_moments T hL r_Over_moments
  exact F.all (D.bindsN fun _ _ _ _ _ _ us hl => match us, hl with | [_], _ => rfl)
end
section
def sp_At_means_many (K : PySem.W.Frag) : Sp := fun vs H Q _ => ∃ a n, vs = [.ref a] ∧ AtAt K H a n ∧ Q (.int 1) H
theorem fb_At_means_many {P : Program} {w : World} {K : PySem.W.Frag} {mg : Str → Option Value} {base : Heap} (T : Env K mg) : ∃ fd, FunD K "means_many" "At.means_many" (defArgs s_At_means_many) (defBody s_At_means_many) (defScope s_At_means_many) [] [] (He.ma K (He.ga K "At") "means_many") fd ∧ Fb P w K mg base 1 (He.ma K (He.ga K "At") "means_many") fd ["self"] (sp_At_means_many K) := by
  obtain ⟨fd, F⟩ := T.f_At_means_many
  refine ⟨fd, F, fb_of F sc_At_means_many (fun vs H Q E h => ?_) (fun cdv A outer s H vs Q E hr h => ?_)⟩
  · obtain ⟨a, n, rfl, _⟩ := h
    rfl
  · obtain ⟨a, n, rfl, ⟨dx, ha⟩, q⟩ := h
    refine ⟨_, (pss_one (ps_ret pe_int)), ?_⟩
    exact q
theorem ok_At_means_many {P : Program} {w : World} {K : PySem.W.Frag} {mg : Str → Option Value} {base : Heap} (T : Env K mg) : Fc P w K mg base 1 (He.ma K (He.ga K "At") "means_many") [] (sp_At_means_many K ) := by
  obtain ⟨fd, D, F⟩ := fb_At_means_many T
  exact F.all (D.bindsN fun _ _ _ _ _ _ us hl => match us, hl with | [_], _ => rfl)
end
section
theorem range_opt {α : Type} (ts : List α) (f : α → V) : (List.range ts.length).filterMap (fun i => (ts[i]?).map f) = ts.map f := by
  induction ts with
  | nil => rfl
  | cons t r ih =>
    rw [List.length_cons, List.range_succ_eq_map, List.filterMap_cons, List.filterMap_map]
    show f t :: List.filterMap (fun i => (r[i]?).map f) (List.range r.length) = f t :: r.map f
    rw [ih]
theorem sum_many : ∀ ts : List Tr, (ts.map fun t => ((t.moms.length : Nat) : Int)).sum = (((momsL ts).length : Nat) : Int)
  | [] => rfl
  | t :: r => by
    rw [List.map_cons, List.sum_cons, sum_many r]
    have e : momsL (t :: r) = t.moms ++ momsL r := by simp [momsL]
    rw [e, List.length_append]
    omega
theorem sum_pcs : ∀ ts : List Tr, (ts.map fun t => ((t.pcs : Nat) : Int)).sum = ((pcsL ts : Nat) : Int)
  | [] => rfl
  | t :: r => by
    rw [List.map_cons, List.sum_cons, sum_pcs r]
    show _ = ((t.pcs + pcsL r : Nat) : Int)
    omega
def sp_row_many (K : PySem.W.Frag) (d : Nat) : Sp := fun vs H Q _ => ∃ (p : Addr) (as : List Addr) (ts : List Tr), vs = [.ref p] ∧ H p = some (.tup (as.map V.ref)) ∧ ShsAt K H ts as ∧ nestL ts ≤ d ∧ okL_ ts ∧ ts.length ≤ 20000 ∧ ∀ H', Ex H H' → Q (.int (((momsL ts).length : Nat) : Int)) H'
theorem fb_row_many {P : Program} {w : World} {K : PySem.W.Frag} {mg : Str → Option Value} {base : Heap} (T : Env K mg) {d L : Nat} (hL : 40 ≤ L) (r_Over_means_many : Fc P w K mg base L (He.ma K (He.ga K "Over") "means_many") [] (sp_Over_means_many K d)) : ∃ fd, FunD K "row_many" "row_many" (defArgs s_row_many) (defBody s_row_many) (defScope s_row_many) [] [] (He.ga K "row_many") fd ∧ Fb P w K mg base (L + 1) (He.ga K "row_many") fd ["parts"] (sp_row_many K (d)) := by
  obtain ⟨fd, F⟩ := T.f_row_many
  refine ⟨fd, F, fb_of F sc_row_many (fun vs H Q E h => ?_) (fun cdv A outer s H vs Q E hr h => ?_)⟩
  · obtain ⟨p, as, ts, rfl, _⟩ := h
    rfl
  · obtain ⟨p, as, ts, rfl, hp, hA, hn, hok, hl, q⟩ := h
    refine ⟨_, (pss_one (ps_ret (pe_callB (cr_sum rfl) (by rfl) T.n_sum (by decide +kernel) (pa_cons (pe_lc (own := [("one", 1)]) (by rfl) sc_row_many.nd (pi_tup (pv 0)) (blkOk_by (own := [("one", 1)]) (N := ["parts", "one"]) (sc := defScope s_row_many) (by decide +kernel)) (fun _ _ _ _ _ => (pg_name (i := 1) sc_row_many.nd rfl (Or.inl rfl))) (fun _ _ _ _ _ => pts_nil) (fun _ _ _ _ _ => (pe_orE (c_meth0 (pv 1) T.c_At T.m_At_means_many (ok_At_means_many T) (hr.mono (by omega)) takes0) (c_meth0 (pv 1) T.c_Over T.m_Over_means_many r_Over_means_many (hr.mono (by omega)) takes0)))) pa_nil)))), ?_⟩
    have hl1 := hA.len
    have hl2 := len_moms hok
    refine ⟨_, rfl, p, rfl, ⟨_, sq_tup hp⟩, fun A nA => lc_fm L2.walk_tup (fun i => (ts[i]?).map fun t => .int ((t.moms.length : Nat) : Int)) (fun H' => Ex H H') (fun H' z e => ex_mut e nA) (.refl _) (by rw [List.length_map]; omega) (fun H' e => sq_tup (e _ _ hp)) (fun i x H2 H3 acc N hi e hD la y k => ?_) fun H3 X3 d3 => ?_⟩
    · obtain ⟨rfl, y⟩ := y
      rw [List.getElem?_map] at y
      obtain ⟨a, ha, rfl⟩ := Option.map_eq_some_iff.mp y
      obtain ⟨t, ht, hS⟩ := hA.get ha
      have htm := List.mem_of_getElem? ht
      have hS2 := hS.mono e
      have k2 := fun H4 (X4 : Ex H3 H4) => k H4 (e.trans X4) (X4 _ _ hD)
      rw [ht] at k2
      have ok := okL_mem hok htm
      cases t with
      | «at» n =>
        unfold ShAt at hS2
        obtain ⟨dx, h2⟩ := id hS2
        exact ⟨rfl, .inl ⟨_, rfl, a, dx, _, rfl, h2, rfl, a, n, rfl, hS2, acc, hD, la, k2 H3 (.refl _)⟩⟩
      | ov ps m s =>
        obtain ⟨dx, kp, as', h2, _⟩ := (by unfold ShAt at hS2; exact hS2 : ∃ dx kp as, H3 a = some (.ins (OverC K) dx (overF kp m s)) ∧ H3 kp = some (.tup (as.map V.ref)) ∧ ShsAt K H3 ps as)
        obtain ⟨_, _, _, _, o5', _, o7⟩ := ov_facts ok
        have o5 : ps.length ≤ 20000 := by omega
        refine ⟨rfl, .inr ⟨_, rfl, a, dx, _, rfl, h2, rfl, a, ps, m, s, rfl, hS2, Nat.le_trans (nestL_mem htm) hn, o7, o5, fun H4 X4 => ⟨acc, X4 _ _ hD, la, ?_⟩⟩⟩
        have k3 : N (upd H4 A (.lst (acc ++ [.int (((Tr.ov ps m s).moms.length : Nat) : Int)]))) := k2 H4 X4
        rw [show (Tr.ov ps m s).moms.length = m * (momsL ps).length from by unfold Tr.moms; exact overN_len _ _ _] at k3
        exact k3
    · rw [List.length_map, hl1, range_opt ts (fun t => V.int ((t.moms.length : Nat) : Int))] at d3
      have e1 : ts.map (fun t => V.int ((t.moms.length : Nat) : Int)) = (ts.map fun t => ((t.moms.length : Nat) : Int)).map V.int := by
        rw [List.map_map]
        rfl
      rw [e1] at d3
      refine ⟨A, _, rfl, sq_lst d3, ?_⟩
      rw [sum_many]
      exact q _ X3
theorem ok_row_many {P : Program} {w : World} {K : PySem.W.Frag} {mg : Str → Option Value} {base : Heap} (T : Env K mg) {d L : Nat} (hL : 40 ≤ L) (r_Over_means_many : Fc P w K mg base L (He.ma K (He.ga K "Over") "means_many") [] (sp_Over_means_many K d)) : Fc P w K mg base (L + 1) (He.ga K "row_many") [] (sp_row_many K (d)) := by
  obtain ⟨fd, D, F⟩ := fb_row_many T hL r_Over_means_many
  exact F.all (D.bindsN fun _ _ _ _ _ _ us hl => match us, hl with | [_], _ => rfl)
end
section
def sp_At_pieces (K : PySem.W.Frag) : Sp := fun vs H Q _ => ∃ a n, vs = [.ref a] ∧ AtAt K H a n ∧ Q (.int 1) H
theorem fb_At_pieces {P : Program} {w : World} {K : PySem.W.Frag} {mg : Str → Option Value} {base : Heap} (T : Env K mg) : ∃ fd, FunD K "pieces" "At.pieces" (defArgs s_At_pieces) (defBody s_At_pieces) (defScope s_At_pieces) [] [] (He.ma K (He.ga K "At") "pieces") fd ∧ Fb P w K mg base 1 (He.ma K (He.ga K "At") "pieces") fd ["self"] (sp_At_pieces K) := by
  obtain ⟨fd, F⟩ := T.f_At_pieces
  refine ⟨fd, F, fb_of F sc_At_pieces (fun vs H Q E h => ?_) (fun cdv A outer s H vs Q E hr h => ?_)⟩
  · obtain ⟨a, n, rfl, _⟩ := h
    rfl
  · obtain ⟨a, n, rfl, ⟨dx, ha⟩, q⟩ := h
    refine ⟨_, (pss_one (ps_ret pe_int)), ?_⟩
    exact q
theorem ok_At_pieces {P : Program} {w : World} {K : PySem.W.Frag} {mg : Str → Option Value} {base : Heap} (T : Env K mg) : Fc P w K mg base 1 (He.ma K (He.ga K "At") "pieces") [] (sp_At_pieces K ) := by
  obtain ⟨fd, D, F⟩ := fb_At_pieces T
  exact F.all (D.bindsN fun _ _ _ _ _ _ us hl => match us, hl with | [_], _ => rfl)
end
section
def sp_row_pieces (K : PySem.W.Frag) (d : Nat) : Sp := fun vs H Q _ => ∃ (p : Addr) (as : List Addr) (ts : List Tr), vs = [.ref p] ∧ H p = some (.tup (as.map V.ref)) ∧ ShsAt K H ts as ∧ nestL ts ≤ d ∧ okL_ ts ∧ ts.length ≤ 20000 ∧ ∀ H', Ex H H' → Q (.int ((pcsL ts : Nat) : Int)) H'
theorem fb_row_pieces {P : Program} {w : World} {K : PySem.W.Frag} {mg : Str → Option Value} {base : Heap} (T : Env K mg) {d L : Nat} (hL : 40 ≤ L) (r_Over_pieces : Fc P w K mg base L (He.ma K (He.ga K "Over") "pieces") [] (sp_Over_pieces K d)) : ∃ fd, FunD K "row_pieces" "row_pieces" (defArgs s_row_pieces) (defBody s_row_pieces) (defScope s_row_pieces) [] [] (He.ga K "row_pieces") fd ∧ Fb P w K mg base (L + 1) (He.ga K "row_pieces") fd ["parts"] (sp_row_pieces K (d)) := by
  obtain ⟨fd, F⟩ := T.f_row_pieces
  refine ⟨fd, F, fb_of F sc_row_pieces (fun vs H Q E h => ?_) (fun cdv A outer s H vs Q E hr h => ?_)⟩
  · obtain ⟨p, as, ts, rfl, _⟩ := h
    rfl
  · obtain ⟨p, as, ts, rfl, hp, hA, hn, hok, hl, q⟩ := h
    refine ⟨_, (pss_one (ps_ret (pe_callB (cr_sum rfl) (by rfl) T.n_sum (by decide +kernel) (pa_cons (pe_lc (own := [("one", 1)]) (by rfl) sc_row_pieces.nd (pi_tup (pv 0)) (blkOk_by (own := [("one", 1)]) (N := ["parts", "one"]) (sc := defScope s_row_pieces) (by decide +kernel)) (fun _ _ _ _ _ => (pg_name (i := 1) sc_row_pieces.nd rfl (Or.inl rfl))) (fun _ _ _ _ _ => pts_nil) (fun _ _ _ _ _ => (pe_orE (c_meth0 (pv 1) T.c_At T.m_At_pieces (ok_At_pieces T) (hr.mono (by omega)) takes0) (c_meth0 (pv 1) T.c_Over T.m_Over_pieces r_Over_pieces (hr.mono (by omega)) takes0)))) pa_nil)))), ?_⟩
    have hl1 := hA.len
    have hl2 := len_moms hok
    refine ⟨_, rfl, p, rfl, ⟨_, sq_tup hp⟩, fun A nA => lc_fm L2.walk_tup (fun i => (ts[i]?).map fun t => .int ((t.pcs : Nat) : Int)) (fun H' => Ex H H') (fun H' z e => ex_mut e nA) (.refl _) (by rw [List.length_map]; omega) (fun H' e => sq_tup (e _ _ hp)) (fun i x H2 H3 acc N hi e hD la y k => ?_) fun H3 X3 d3 => ?_⟩
    · obtain ⟨rfl, y⟩ := y
      rw [List.getElem?_map] at y
      obtain ⟨a, ha, rfl⟩ := Option.map_eq_some_iff.mp y
      obtain ⟨t, ht, hS⟩ := hA.get ha
      have htm := List.mem_of_getElem? ht
      have hS2 := hS.mono e
      have k2 := fun H4 (X4 : Ex H3 H4) => k H4 (e.trans X4) (X4 _ _ hD)
      rw [ht] at k2
      have ok := okL_mem hok htm
      cases t with
      | «at» n =>
        unfold ShAt at hS2
        obtain ⟨dx, h2⟩ := id hS2
        exact ⟨rfl, .inl ⟨_, rfl, a, dx, _, rfl, h2, rfl, a, n, rfl, hS2, acc, hD, la, k2 H3 (.refl _)⟩⟩
      | ov ps m s =>
        obtain ⟨dx, kp, as', h2, _⟩ := (by unfold ShAt at hS2; exact hS2 : ∃ dx kp as, H3 a = some (.ins (OverC K) dx (overF kp m s)) ∧ H3 kp = some (.tup (as.map V.ref)) ∧ ShsAt K H3 ps as)
        obtain ⟨_, _, _, _, o5', _, o7⟩ := ov_facts ok
        have o5 : ps.length ≤ 20000 := by omega
        refine ⟨rfl, .inr ⟨_, rfl, a, dx, _, rfl, h2, rfl, a, ps, m, s, rfl, hS2, Nat.le_trans (nestL_mem htm) hn, o7, o5, fun H4 X4 => ⟨acc, X4 _ _ hD, la, ?_⟩⟩⟩
        have k3 := k2 H4 X4
        exact k3
    · rw [List.length_map, hl1, range_opt ts (fun t => V.int ((t.pcs : Nat) : Int))] at d3
      have e1 : ts.map (fun t => V.int ((t.pcs : Nat) : Int)) = (ts.map fun t => ((t.pcs : Nat) : Int)).map V.int := by
        rw [List.map_map]
        rfl
      rw [e1] at d3
      refine ⟨A, _, rfl, sq_lst d3, ?_⟩
      rw [sum_pcs]
      exact q _ X3
theorem ok_row_pieces {P : Program} {w : World} {K : PySem.W.Frag} {mg : Str → Option Value} {base : Heap} (T : Env K mg) {d L : Nat} (hL : 40 ≤ L) (r_Over_pieces : Fc P w K mg base L (He.ma K (He.ga K "Over") "pieces") [] (sp_Over_pieces K d)) : Fc P w K mg base (L + 1) (He.ga K "row_pieces") [] (sp_row_pieces K (d)) := by
  obtain ⟨fd, D, F⟩ := fb_row_pieces T hL r_Over_pieces
  exact F.all (D.bindsN fun _ _ _ _ _ _ us hl => match us, hl with | [_], _ => rfl)
end
section
def rowT (ws : List (List Nat)) : List Nat := if ws = [] then [45] else TL.joinL [44, 32] ws
mutual
/-- a short as it is written -/
def Tr.txt : Tr → List Nat
  | .at n => Mo.shw n
  | .ov ps m s => [40] ++ rowT (txtL ps) ++ [41, 32, 120] ++ TL.numL m ++ [32, 43] ++ TL.numL s
def txtL : List Tr → List (List Nat)
  | [] => []
  | t :: ts => t.txt :: txtL ts
end
mutual
def Tr.fit : Tr → Prop
  | .at n => n < 10 ^ 255
  | .ov ps m s => m < 10 ^ 255 ∧ s < 10 ^ 255 ∧ fitL ps
def fitL : List Tr → Prop
  | [] => True
  | t :: ts => t.fit ∧ fitL ts
end
theorem txtL_map (ts : List Tr) : txtL ts = ts.map Tr.txt := by
  induction ts with
  | nil => simp [txtL]
  | cons t r ih => simp [txtL, ih]
theorem fitL_mem {t : Tr} : ∀ {ts : List Tr}, fitL ts → t ∈ ts → t.fit
  | x :: r, h, hm => by
    unfold fitL at h
    rcases List.mem_cons.mp hm with rfl | hm
    · exact h.1
    · exact fitL_mem h.2 hm
theorem pcsL_mem {t : Tr} : ∀ {ts : List Tr}, t ∈ ts → t.pcs ≤ pcsL ts
  | x :: r, hm => by
    unfold pcsL
    rcases List.mem_cons.mp hm with rfl | hm
    · omega
    · have := pcsL_mem hm
      omega
theorem pcs_pos (t : Tr) : 1 ≤ t.pcs := by
  cases t <;> unfold Tr.pcs <;> omega
theorem len_pcsL (ts : List Tr) : ts.length ≤ pcsL ts := by
  induction ts with
  | nil => exact Nat.zero_le _
  | cons t r ih =>
    have := pcs_pos t
    unfold pcsL
    rw [List.length_cons]
    omega
mutual
theorem txt_len : ∀ {t : Tr}, t.fit → t.txt.length + 2 ≤ 600 * t.pcs
  | .at n, h => by
    unfold Tr.fit at h
    have := Mo.shw_len (by decide) h
    unfold Tr.txt Tr.pcs
    omega
  | .ov ps m s, h => by
    unfold Tr.fit at h
    obtain ⟨h1, h2, h3⟩ := h
    have l1 := TL.numL_len (by decide) h1
    have l2 := TL.numL_len (by decide) h2
    have l3 := row_len h3
    have l4 : (rowT (txtL ps)).length ≤ 600 * pcsL ps + 1 := by
      unfold rowT
      split
      · show 1 ≤ _
        omega
      · omega
    unfold Tr.txt Tr.pcs
    simp only [List.length_append, List.length_cons, List.length_nil]
    omega
theorem row_len : ∀ {ts : List Tr}, fitL ts → (TL.joinL [44, 32] (txtL ts)).length ≤ 600 * pcsL ts
  | [], _ => by
    unfold txtL
    exact Nat.zero_le _
  | [t], h => by
    unfold fitL at h
    have := txt_len h.1
    have e : txtL [t] = [t.txt] := by simp [txtL]
    rw [e]
    show t.txt.length ≤ _
    have e2 : pcsL [t] = t.pcs := by simp [pcsL]
    omega
  | t :: x :: r, h => by
    unfold fitL at h
    have h1 := txt_len h.1
    have h2 := row_len h.2
    have e : txtL (t :: x :: r) = t.txt :: x.txt :: txtL r := by simp [txtL]
    have e3 : txtL (x :: r) = x.txt :: txtL r := by simp [txtL]
    rw [e3] at h2
    rw [e]
    show (t.txt ++ ([44, 32] ++ TL.joinL [44, 32] (x.txt :: txtL r))).length ≤ _
    have e2 : pcsL (t :: x :: r) = t.pcs + pcsL (x :: r) := by rw [pcsL]
    simp only [List.length_append, List.length_cons, List.length_nil]
    omega
end
theorem rowT_len {ts : List Tr} (h : fitL ts) : (rowT (txtL ts)).length ≤ 600 * pcsL ts + 1 := by
  have := row_len h
  unfold rowT
  split
  · show 1 ≤ _
    omega
  · omega
theorem sum_txt : ∀ {ts : List Tr}, fitL ts → ((txtL ts).map (·.length)).sum + 2 * ts.length ≤ 600 * pcsL ts
  | [], _ => by simp [txtL, pcsL]
  | t :: r, h => by
    unfold fitL at h
    have h1 := txt_len h.1
    have h2 := sum_txt h.2
    unfold txtL pcsL
    simp only [List.map_cons, List.sum_cons, List.length_cons]
    omega
mutual
theorem fit_of : ∀ {t : Tr}, t.ok → (∀ n ∈ t.moms, n < 10 ^ 80) → t.fit
  | .at n, _, h => by
    unfold Tr.fit
    unfold Tr.moms at h
    exact Nat.lt_trans (h n List.mem_cons_self) (by decide +kernel)
  | .ov ps m s, ho, h => by
    have hf := ov_facts ho
    unfold Tr.ok at ho
    obtain ⟨h1, h2, h3, h4, h5, h6, h7⟩ := ho
    unfold Tr.moms at h
    obtain ⟨n, hn⟩ : ∃ n, n ∈ momsL ps := ⟨_, headD_mem (momsL_ne h7 h1)⟩
    have hs := h (n + 1 * s) (mem_overN.mpr ⟨1, n, by omega, hn, rfl⟩)
    unfold Tr.fit
    refine ⟨Nat.lt_of_le_of_lt hf.2.2.1 (by decide +kernel), Nat.lt_trans (show s < 10 ^ 80 by omega) (by decide +kernel), fitL_of h7 fun k hk => ?_⟩
    have := h (k + 0 * s) (mem_overN.mpr ⟨0, k, by omega, hk, rfl⟩)
    omega
theorem fitL_of : ∀ {ts : List Tr}, okL_ ts → (∀ n ∈ momsL ts, n < 10 ^ 80) → fitL ts
  | [], _, _ => by
    unfold fitL
    trivial
  | t :: r, ho, h => by
    unfold okL_ at ho
    unfold momsL at h
    unfold fitL
    exact ⟨fit_of ho.1 fun n hn => h n (List.mem_append_left _ hn), fitL_of ho.2 fun n hn => h n (List.mem_append_right _ hn)⟩
end
def sp_Over_str (K : PySem.W.Frag) (d : Nat) : Sp := fun vs H Q _ => ∃ a ps m s, vs = [.ref a] ∧ ShAt K H (.ov ps m s) a ∧ (Tr.ov ps m s).nest ≤ d ∧ (Tr.ov ps m s).fit ∧ (Tr.ov ps m s).pcs ≤ 10000 ∧ ∀ H', Ex H H' → Q (.str (SX.S (Tr.ov ps m s).txt)) H'
end
section
def sp_At_str (K : PySem.W.Frag) : Sp := fun vs H Q _ => ∃ a n, vs = [.ref a] ∧ AtAt K H a n ∧ n < 10 ^ 255 ∧ ∀ H', Ex H H' → Q (.str (SX.S (Mo.shw n))) H'
theorem fb_At_str {P : Program} {w : World} {K : PySem.W.Frag} {mg : Str → Option Value} {base : Heap} (T : Env K mg) : ∃ fd, FunD K "__str__" "At.__str__" (defArgs s_At_str) (defBody s_At_str) (defScope s_At_str) [] [] (He.ma K (He.ga K "At") "__str__") fd ∧ Fb P w K mg base 6 (He.ma K (He.ga K "At") "__str__") fd ["self"] (sp_At_str K) := by
  obtain ⟨fd, F⟩ := T.f_At_str
  refine ⟨fd, F, fb_of F sc_At_str (fun vs H Q E h => ?_) (fun cdv A outer s H vs Q E hr h => ?_)⟩
  · obtain ⟨a, n, rfl, _⟩ := h
    rfl
  · obtain ⟨a, n, rfl, ⟨dx, ha⟩, hn, q⟩ := h
    refine ⟨_, (pss_one (ps_ret (pe_joined1 (pe_fmt (c_call (ok_show_moment T) (hr.mono (by decide)) T.g_show_moment T.k_show_moment takes0 (pa_cons (pe_fld (pv 0) (by rfl)) pa_nil)))))), ?_⟩
    have hl := Mo.shw_len (by decide) hn

    refine ⟨_, rfl, _, _, _, _, _, rfl, ha, T.c_At, T.a_At_moment, rfl, ?_⟩
    dsimp only [tNil]
    refine sm_good hn fun H1 X1 => ?_
    refine .inl ⟨_, rfl, sz_le (by rw [SX.S_len]; omega), q H1 X1⟩
theorem ok_At_str {P : Program} {w : World} {K : PySem.W.Frag} {mg : Str → Option Value} {base : Heap} (T : Env K mg) : Fc P w K mg base 6 (He.ma K (He.ga K "At") "__str__") [] (sp_At_str K ) := by
  obtain ⟨fd, D, F⟩ := fb_At_str T
  exact F.all (D.bindsN fun _ _ _ _ _ _ us hl => match us, hl with | [_], _ => rfl)
end
section
def sp_row_text (K : PySem.W.Frag) (d : Nat) : Sp := fun vs H Q _ => ∃ (p : Addr) (as : List Addr) (ts : List Tr), vs = [.ref p] ∧ H p = some (.tup (as.map V.ref)) ∧ ShsAt K H ts as ∧ nestL ts ≤ d ∧ fitL ts ∧ pcsL ts ≤ 10000 ∧ ∀ H', Ex H H' → Q (.str (SX.S (rowT (txtL ts)))) H'
theorem fb_row_text {P : Program} {w : World} {K : PySem.W.Frag} {mg : Str → Option Value} {base : Heap} (T : Env K mg) {d L : Nat} (hL : 40 ≤ L) (r_Over_str : Fc P w K mg base L (He.ma K (He.ga K "Over") "__str__") [] (sp_Over_str K d)) : ∃ fd, FunD K "row_text" "row_text" (defArgs s_row_text) (defBody s_row_text) (defScope s_row_text) [] [] (He.ga K "row_text") fd ∧ Fb P w K mg base (L + 3) (He.ga K "row_text") fd ["parts"] (sp_row_text K (d)) := by
  obtain ⟨fd, F⟩ := T.f_row_text
  refine ⟨fd, F, fb_of F sc_row_text (fun vs H Q E h => ?_) (fun cdv A outer s H vs Q E hr h => ?_)⟩
  · obtain ⟨p, as, ts, rfl, _⟩ := h
    rfl
  · obtain ⟨p, as, ts, rfl, hp, hA, hn, hf, hc, q⟩ := h
    refine ⟨_, (pss_cons (ps_if (pt_cmpR op_eq (pe_callB call_len (by rfl) T.n_len (by decide +kernel) (pa_cons (pv 0) pa_nil)) pe_int (nomark _))
      (pss_one (ps_ret (pe_k T.v_NO_PARTS)))
      pss_nil)
      (pss_one (ps_ret (pe_join pe_str (pe_lc (own := [("one", 1)]) (by rfl) sc_row_text.nd (pi_tup (pv 0)) (blkOk_by (own := [("one", 1)]) (N := ["parts", "one"]) (sc := defScope s_row_text) (by decide +kernel)) (fun _ _ _ _ _ => (pg_name (i := 1) sc_row_text.nd rfl (Or.inl rfl))) (fun _ _ _ _ _ => pts_nil) (fun _ _ _ _ _ => (pe_orE (pe_callTy (call_strO T.m_At_str (ok_At_str T) (hr.mono (by omega))) (by rfl) T.n_str (by decide +kernel) (pa_cons (pv 1) pa_nil)) (pe_callTy (call_strO T.m_Over_str r_Over_str (hr.mono (by omega))) (by rfl) T.n_str (by decide +kernel) (pa_cons (pv 1) pa_nil))))))))), ?_⟩
    have hl1 := hA.len
    have hl2 := len_pcsL ts
    refine ⟨_, rfl, _, _, rfl, (.inr ⟨_, ⟨(sq_tup hp), rfl⟩⟩), rfl, _, rfl, ?_⟩
    by_cases h0 : ts = []
    · refine ifP (by rw [List.length_map, hl1, h0]; rfl) ?_
      rw [h0] at q
      exact q H (.refl _)
    · refine ifN (by rw [List.length_map, hl1]; exact vint_ne (by have := List.length_pos_iff.mpr h0; omega)) ?_
      refine ⟨⟨_, rfl⟩, _, rfl, _, rfl, ⟨_, (sq_tup hp)⟩, fun A nA => lc_fm L2.walk_tup (fun i => (ts[i]?).map fun t => .str (SX.S t.txt)) (fun H' => Ex H H') (fun H' z e => ex_mut e nA) (.refl _) (by rw [List.length_map]; omega) (fun H' e => sq_tup (e _ _ hp)) (fun i x H2 H3 acc N hi e hD la y k => ?_) fun H3 X3 d3 => ?_⟩
      · obtain ⟨rfl, y⟩ := y
        rw [List.getElem?_map] at y
        obtain ⟨b, hb, rfl⟩ := Option.map_eq_some_iff.mp y
        obtain ⟨t, ht, hS⟩ := hA.get hb
        have htm := List.mem_of_getElem? ht
        have hS2 := hS.mono e
        have k2 := fun H4 (X4 : Ex H3 H4) => k H4 (e.trans X4) (X4 _ _ hD)
        rw [ht] at k2
        have ft := fitL_mem hf htm
        have pt := pcsL_mem htm
        have nt := nestL_mem htm
        cases t with
        | «at» n =>
          unfold ShAt at hS2
          obtain ⟨dy, h2⟩ := id hS2
          unfold Tr.fit at ft
          refine ⟨rfl, .inl ⟨_, rfl, _, dy, _, rfl, h2, b, n, rfl, hS2, ft, fun H4 X4 => ⟨trivial, acc, X4 _ _ hD, la, ?_⟩⟩⟩
          unfold Tr.txt at k2
          exact k2 H4 X4
        | ov ps' m' s' =>
          obtain ⟨dy, kp', as', h2, _⟩ := (by unfold ShAt at hS2; exact hS2 : ∃ dx kp as, H3 b = some (.ins (OverC K) dx (overF kp m' s')) ∧ H3 kp = some (.tup (as.map V.ref)) ∧ ShsAt K H3 ps' as)
          exact ⟨rfl, .inr ⟨_, rfl, b, dy, _, rfl, h2, b, ps', m', s', rfl, hS2, by omega, ft, by omega, fun H4 X4 => ⟨trivial, acc, X4 _ _ hD, la, k2 H4 X4⟩⟩⟩
      · rw [List.length_map, hl1, range_opt ts (fun t => V.str (SX.S t.txt))] at d3
        have e1 : ts.map (fun t => V.str (SX.S t.txt)) = ((txtL ts).map SX.S).map V.str := by
          rw [txtL_map, List.map_map, List.map_map]
          rfl
        rw [e1] at d3
        have sl := sum_txt hf
        refine ⟨_, A, _, rfl, rfl, .inl (sq_lst d3), ?_, ?_⟩
        · rw [SX.lens, List.length_map, txtL_map, List.length_map]
          rw [txtL_map] at sl
          have z : (Str.ofString ", ").length = 2 := rfl
          rw [z]
          omega
        · rw [show Str.ofString ", " = SX.S [44, 32] from rfl, SX.join_S]
          have e2 : rowT (txtL ts) = TL.joinL [44, 32] (txtL ts) := if_neg (by rw [txtL_map]; intro z; exact h0 (List.map_eq_nil_iff.mp z))
          rw [e2] at q
          exact q H3 X3
theorem ok_row_text {P : Program} {w : World} {K : PySem.W.Frag} {mg : Str → Option Value} {base : Heap} (T : Env K mg) {d L : Nat} (hL : 40 ≤ L) (r_Over_str : Fc P w K mg base L (He.ma K (He.ga K "Over") "__str__") [] (sp_Over_str K d)) : Fc P w K mg base (L + 3) (He.ga K "row_text") [] (sp_row_text K (d)) := by
  obtain ⟨fd, D, F⟩ := fb_row_text T hL r_Over_str
  exact F.all (D.bindsN fun _ _ _ _ _ _ us hl => match us, hl with | [_], _ => rfl)
end
section
def sp_At_nested (K : PySem.W.Frag) : Sp := fun vs H Q _ => ∃ a n, vs = [.ref a] ∧ AtAt K H a n ∧ Q (.int 0) H
theorem fb_At_nested {P : Program} {w : World} {K : PySem.W.Frag} {mg : Str → Option Value} {base : Heap} (T : Env K mg) : ∃ fd, FunD K "nested" "At.nested" (defArgs s_At_nested) (defBody s_At_nested) (defScope s_At_nested) [] [] (He.ma K (He.ga K "At") "nested") fd ∧ Fb P w K mg base 1 (He.ma K (He.ga K "At") "nested") fd ["self"] (sp_At_nested K) := by
  obtain ⟨fd, F⟩ := T.f_At_nested
  refine ⟨fd, F, fb_of F sc_At_nested (fun vs H Q E h => ?_) (fun cdv A outer s H vs Q E hr h => ?_)⟩
  · obtain ⟨a, n, rfl, _⟩ := h
    rfl
  · obtain ⟨a, n, rfl, ⟨dx, ha⟩, q⟩ := h
    refine ⟨_, (pss_one (ps_ret pe_int)), ?_⟩
    exact q
theorem ok_At_nested {P : Program} {w : World} {K : PySem.W.Frag} {mg : Str → Option Value} {base : Heap} (T : Env K mg) : Fc P w K mg base 1 (He.ma K (He.ga K "At") "nested") [] (sp_At_nested K ) := by
  obtain ⟨fd, D, F⟩ := fb_At_nested T
  exact F.all (D.bindsN fun _ _ _ _ _ _ us hl => match us, hl with | [_], _ => rfl)
end
section
theorem fb_Over_means_many {P : Program} {w : World} {K : PySem.W.Frag} {mg : Str → Option Value} {base : Heap} (T : Env K mg) {d L : Nat} (hL : 40 ≤ L) (r_Over_means_many : Fc P w K mg base L (He.ma K (He.ga K "Over") "means_many") [] (sp_Over_means_many K d)) : ∃ fd, FunD K "means_many" "Over.means_many" (defArgs s_Over_means_many) (defBody s_Over_means_many) (defScope s_Over_means_many) [] [] (He.ma K (He.ga K "Over") "means_many") fd ∧ Fb P w K mg base (L + 2) (He.ma K (He.ga K "Over") "means_many") fd ["self"] (sp_Over_means_many K (d + 1)) := by
  obtain ⟨fd, F⟩ := T.f_Over_means_many
  refine ⟨fd, F, fb_of F sc_Over_means_many (fun vs H Q E h => ?_) (fun cdv A outer s H vs Q E hr h => ?_)⟩
  · obtain ⟨a, ps, m, s, rfl, _⟩ := h
    rfl
  · obtain ⟨a, ps, m, s_, rfl, hO, hn, hok, hl, q⟩ := h
    refine ⟨_, (pss_one (ps_ret (pe_op op_mul (pe_fld (pv 0) (by rfl)) (c_call (ok_row_many T hL r_Over_means_many) (hr.mono (by omega)) T.g_row_many T.k_row_many takes0 (pa_cons (pe_fld (pv 0) (by rfl)) pa_nil))))), ?_⟩
    have hfew := momsL_few hok
    have hnL := ov_nest hn
    obtain ⟨dx, kp, as, ha, hk, hA⟩ := (by unfold ShAt at hO; exact hO : ∃ dx kp as, H a = some (.ins (OverC K) dx (overF kp m s_)) ∧ H kp = some (.tup (as.map V.ref)) ∧ ShsAt K H ps as)
    refine ⟨_, rfl, a, _, dx, _, _, rfl, ha, T.c_Over, T.a_Over_many, rfl, _, rfl, a, _, dx, _, _, rfl, ha, T.c_Over, T.a_Over_kept, rfl, kp, as, ps, rfl, hk, hA, hnL, hok, hl, fun H1 X1 => ⟨_, _, rfl, rfl, .inr ⟨by omega, by omega⟩, ?_⟩⟩
    have e : ((m : Nat) : Int) * (((momsL ps).length : Nat) : Int) = ((m * (momsL ps).length : Nat) : Int) := by simp
    show Q (.int (((m : Nat) : Int) * (((momsL ps).length : Nat) : Int))) H1
    rw [e]
    exact q H1 X1
theorem ok_Over_means_many {P : Program} {w : World} {K : PySem.W.Frag} {mg : Str → Option Value} {base : Heap} (T : Env K mg) {d L : Nat} (hL : 40 ≤ L) (r_Over_means_many : Fc P w K mg base L (He.ma K (He.ga K "Over") "means_many") [] (sp_Over_means_many K d)) : Fc P w K mg base (L + 2) (He.ma K (He.ga K "Over") "means_many") [] (sp_Over_means_many K (d + 1)) := by
  obtain ⟨fd, D, F⟩ := fb_Over_means_many T hL r_Over_means_many
  exact F.all (D.bindsN fun _ _ _ _ _ _ us hl => match us, hl with | [_], _ => rfl)
theorem all_Over_means_many {P : Program} {w : World} {K : PySem.W.Frag} {mg : Str → Option Value} {base : Heap} (T : Env K mg) : ∀ d, Fc P w K mg base (40 + 2 * d) (He.ma K (He.ga K "Over") "means_many") [] (sp_Over_means_many K d)
  | 0 => fc_no fun vs H Q E h => by
    obtain ⟨a, ps, m, s, _, _, h, _⟩ := h
    unfold Tr.nest at h
    omega
  | d + 1 => ok_Over_means_many T (Nat.le_add_right 40 _) (all_Over_means_many T d)
end
section
theorem fb_Over_nested {P : Program} {w : World} {K : PySem.W.Frag} {mg : Str → Option Value} {base : Heap} (T : Env K mg) {d L : Nat} (hL : 40 ≤ L) (r_Over_nested : Fc P w K mg base L (He.ma K (He.ga K "Over") "nested") [] (sp_Over_nested K d)) : ∃ fd, FunD K "nested" "Over.nested" (defArgs s_Over_nested) (defBody s_Over_nested) (defScope s_Over_nested) [] [] (He.ma K (He.ga K "Over") "nested") fd ∧ Fb P w K mg base (L + 1) (He.ma K (He.ga K "Over") "nested") fd ["self"] (sp_Over_nested K (d + 1)) := by
  obtain ⟨fd, F⟩ := T.f_Over_nested
  refine ⟨fd, F, fb_of F sc_Over_nested (fun vs H Q E h => ?_) (fun cdv A outer s H vs Q E hr h => ?_)⟩
  · obtain ⟨a, ps, m, s, rfl, _⟩ := h
    rfl
  · obtain ⟨a, ps, m, s_, rfl, hO, hn, h0, hok, hl, q⟩ := h
    refine ⟨_, (pss_one (ps_ret (pe_op op_add pe_int (pe_callB (cr_max rfl) (by rfl) T.n_max (by decide +kernel) (pa_cons (pe_lc (own := [("one", 1)]) (by rfl) sc_Over_nested.nd (pi_tup (pe_fld (pv 0) (by rfl))) (blkOk_by (own := [("one", 1)]) (N := ["self", "one"]) (sc := defScope s_Over_nested) (by decide +kernel)) (fun _ _ _ _ _ => (pg_name (i := 1) sc_Over_nested.nd rfl (Or.inl rfl))) (fun _ _ _ _ _ => pts_nil) (fun _ _ _ _ _ => (pe_orE (c_meth0 (pv 1) T.c_At T.m_At_nested (ok_At_nested T) (hr.mono (by omega)) takes0) (c_meth0 (pv 1) T.c_Over T.m_Over_nested r_Over_nested (hr.mono (by omega)) takes0)))) pa_nil))))), ?_⟩
    have hnL := ov_nest hn
    obtain ⟨dx, kp, as, ha, hk, hA⟩ := (by unfold ShAt at hO; exact hO : ∃ dx kp as, H a = some (.ins (OverC K) dx (overF kp m s_)) ∧ H kp = some (.tup (as.map V.ref)) ∧ ShsAt K H ps as)
    have hl1 := hA.len
    have hl2 := len_moms hok
    refine ⟨_, rfl, a, _, dx, _, _, rfl, ha, T.c_Over, T.a_Over_kept, rfl, kp, rfl, ⟨_, sq_tup hk⟩, fun A nA => lc_fm L2.walk_tup (fun i => (ps[i]?).map fun t => .int ((t.nest : Nat) : Int)) (fun H' => Ex H H') (fun H' z e => ex_mut e nA) (.refl _) (by rw [List.length_map]; omega) (fun H' e => sq_tup (e _ _ hk)) (fun i x H2 H3 acc N hi e hD la y k => ?_) fun H3 X3 d3 => ?_⟩
    · obtain ⟨rfl, y⟩ := y
      rw [List.getElem?_map] at y
      obtain ⟨b, hb, rfl⟩ := Option.map_eq_some_iff.mp y
      obtain ⟨t, ht, hS⟩ := hA.get hb
      have htm := List.mem_of_getElem? ht
      have hS2 := hS.mono e
      have k2 := fun H4 (X4 : Ex H3 H4) => k H4 (e.trans X4) (X4 _ _ hD)
      rw [ht] at k2
      have ok := okL_mem hok htm
      cases t with
      | «at» n =>
        unfold ShAt at hS2
        obtain ⟨dy, h2⟩ := id hS2
        exact ⟨rfl, .inl ⟨_, rfl, b, dy, _, rfl, h2, rfl, b, n, rfl, hS2, acc, hD, la, k2 H3 (.refl _)⟩⟩
      | ov ps' m' s' =>
        obtain ⟨dy, kp', as', h2, _⟩ := (by unfold ShAt at hS2; exact hS2 : ∃ dx kp as, H3 b = some (.ins (OverC K) dx (overF kp m' s')) ∧ H3 kp = some (.tup (as.map V.ref)) ∧ ShsAt K H3 ps' as)
        obtain ⟨o1, _, _, _, o5', _, o7⟩ := ov_facts ok
        have o5 : ps'.length ≤ 20000 := by omega
        exact ⟨rfl, .inr ⟨_, rfl, b, dy, _, rfl, h2, rfl, b, ps', m', s', rfl, hS2, Nat.le_trans (nestL_mem htm) hnL, o1, o7, o5, fun H4 X4 => ⟨acc, X4 _ _ hD, la, k2 H4 X4⟩⟩⟩
    · rw [List.length_map, hl1, range_opt ps (fun t => V.int ((t.nest : Nat) : Int))] at d3
      have e1 : ps.map (fun t => V.int ((t.nest : Nat) : Int)) = (ps.map fun t => ((t.nest : Nat) : Int)).map V.int := by
        rw [List.map_map]
        rfl
      rw [e1] at d3
      refine ⟨A, _, rfl, sq_lst d3, by rw [List.length_map]; exact List.length_pos_iff.mpr h0, fun mx hm hall => ⟨_, _, rfl, rfl, ?_⟩⟩
      have em : mx = ((nestL ps : Nat) : Int) := by
        obtain ⟨t, ht, e⟩ := List.mem_map.mp hm
        have h1 := nestL_mem ht
        obtain ⟨t2, ht2, e2⟩ := nestL_max h0
        have h2 := hall _ (List.mem_map.mpr ⟨t2, ht2, rfl⟩)
        omega
      have e : (1 : Int) + mx = (((Tr.ov ps m s_).nest : Nat) : Int) := by
        unfold Tr.nest
        omega
      show Q (.int (1 + mx)) H3
      rw [e]
      exact q H3 X3
theorem ok_Over_nested {P : Program} {w : World} {K : PySem.W.Frag} {mg : Str → Option Value} {base : Heap} (T : Env K mg) {d L : Nat} (hL : 40 ≤ L) (r_Over_nested : Fc P w K mg base L (He.ma K (He.ga K "Over") "nested") [] (sp_Over_nested K d)) : Fc P w K mg base (L + 1) (He.ma K (He.ga K "Over") "nested") [] (sp_Over_nested K (d + 1)) := by
  obtain ⟨fd, D, F⟩ := fb_Over_nested T hL r_Over_nested
  exact F.all (D.bindsN fun _ _ _ _ _ _ us hl => match us, hl with | [_], _ => rfl)
theorem all_Over_nested {P : Program} {w : World} {K : PySem.W.Frag} {mg : Str → Option Value} {base : Heap} (T : Env K mg) : ∀ d, Fc P w K mg base (40 + 1 * d) (He.ma K (He.ga K "Over") "nested") [] (sp_Over_nested K d)
  | 0 => fc_no fun vs H Q E h => by
    obtain ⟨a, ps, m, s, _, _, h, _⟩ := h
    unfold Tr.nest at h
    omega
  | d + 1 => ok_Over_nested T (Nat.le_add_right 40 _) (all_Over_nested T d)
end
section
theorem isN_nat_of {n : Int} {x : V} (h0 : 0 ≤ n) (h : isN n x = true) : ∃ m : Nat, x = .int (m : Nat) ∧ n ≤ (m : Int) := by
  unfold isN at h
  obtain ⟨_, h2⟩ := Bool.and_eq_true_iff.mp h
  cases x with
  | int i =>
    have h3 : n ≤ i := of_decide_eq_true h2
    obtain ⟨m, rfl⟩ := Int.eq_ofNat_of_zero_le (Int.le_trans h0 h3)
    exact ⟨m, rfl, h3⟩
  | _ => cases h2
/-- whether an Over may be made -/
def ovB (ts : List Tr) (xm xs : V) : Bool := risB ts && (decide (ts ≠ []) && (isN 2 xm && (isN 1 xs && (match xm, xs with
  | .int m, .int s => decide (((momsL ts).getLastD 0 : Int) < s + ((momsL ts).headD 0 : Int)) && (decide (m * ((momsL ts).length : Int) ≤ 1440) && decide (nestL ts ≤ 7))
  | _, _ => false))))
def sp_Over_init (K : PySem.W.Frag) : Sp := fun vs H Q E => ∃ (a dx p : Addr) (as : List Addr) (ts : List Tr) (xm xs : V) (H0 : Hp), vs = [.ref a, .ref p, xm, xs] ∧ H a = some (.ins (OverC K) dx []) ∧ H0 a = none ∧ Ex H0 H ∧ SqA H0 p (as.map V.ref) ∧ ShsAt K H0 ts as ∧ nestL ts ≤ 8 ∧ okL_ ts ∧ ts.length ≤ 20000 ∧ ts.length ≤ 20000 ∧ Cl K H0 xm ∧ Cl K H0 xs ∧ (∀ m s : Nat, ovB ts xm xs = true → xm = .int (m : Nat) → xs = .int (s : Nat) → ∀ H', Oth a H H' → ShAt K H' (.ov ts m s) a → Q .non H') ∧ (ovB ts xm xs = false → ∀ H', Oth a H H' → E (.ref (He.ga K "NoPiece")) none H')
theorem fb_Over_init {P : Program} {w : World} {K : PySem.W.Frag} {mg : Str → Option Value} {base : Heap} (T : Env K mg) : ∃ fd, FunD K "__init__" "Over.__init__" (defArgs s_Over_init) (defBody s_Over_init) (defScope s_Over_init) [.int (2), .int (60)] [] (He.ma K (He.ga K "Over") "__init__") fd ∧ Fb P w K mg base 64 (He.ma K (He.ga K "Over") "__init__") fd ["self", "parts", "many", "step"] (sp_Over_init K) := by
  obtain ⟨fd, F⟩ := T.f_Over_init
  refine ⟨fd, F, fb_of F sc_Over_init (fun vs H Q E h => ?_) (fun cdv A outer s H vs Q E hr h => ?_)⟩
  · obtain ⟨a, dx, p, as, ts, xm, xs, H0, rfl, _⟩ := h
    rfl
  · obtain ⟨a, dx, p, as, ts, xm, xs, H0, rfl, ha, na0, X0, hp, hA, hn, hok, hlm, hlt, cm, cs, q, qe⟩ := h
    refine ⟨_, (pss_cons (ps_fld (pv 0) (c_call (ok_shorts_in T) (hr.mono (by decide)) T.g_shorts_in T.k_shorts_in (takes_of rfl rfl rfl rfl) (pa_cons (pv 1) pa_nil)) rfl)
      (pss_cons (ps_if (PW.pt (pw_or (pt_cmpR op_eq (pe_callB call_len (by rfl) T.n_len (by decide +kernel) (pa_cons (pe_fld (pv 0) (by rfl)) pa_nil)) pe_int (nomark _)) (pw_or (pt_not (pt_val (c_call (ok_is_number T) (hr.mono (by decide)) T.g_is_number T.k_is_number (takes_of rfl rfl rfl rfl) (pa_cons (pv 2) (pa_cons pe_int pa_nil))))) (pw_or1 (pt_not (pt_val (c_call (ok_is_number T) (hr.mono (by decide)) T.g_is_number T.k_is_number (takes_of rfl rfl rfl rfl) (pa_cons (pv 3) (pa_cons pe_int pa_nil)))))))))
      (pss_one (ps_raise rfl (takes_of rfl rfl rfl rfl) (pmk_own PySem.F.excBase_ValueError T.x_NoPiece.x T.g_NoPiece T.x_NoPiece.kp (raises_own T.x_NoPiece.sub T.x_NoPiece.ty) rfl)))
      pss_nil)
      (pss_cons (ps_if (pt_cmpR op_le (pv 3) (pe_op op_sub (pe_orE (c_meth0 (pe_ix ix_tup (pe_fld (pv 0) (by rfl)) (pe_un un_neg pe_int) (fun _ _ => rfl)) T.c_At T.m_At_ends (ok_At_ends T) (hr.mono (by decide)) (takes_of rfl rfl rfl rfl)) (c_meth0 (pe_ix ix_tup (pe_fld (pv 0) (by rfl)) (pe_un un_neg pe_int) (fun _ _ => rfl)) T.c_Over T.m_Over_ends (all_Over_ends T 9) (hr.mono (by decide)) (takes_of rfl rfl rfl rfl))) (pe_orE (c_meth0 (pe_ix ix_tup (pe_fld (pv 0) (by rfl)) pe_int (fun _ _ => rfl)) T.c_At T.m_At_begins (ok_At_begins T) (hr.mono (by decide)) (takes_of rfl rfl rfl rfl)) (c_meth0 (pe_ix ix_tup (pe_fld (pv 0) (by rfl)) pe_int (fun _ _ => rfl)) T.c_Over T.m_Over_begins (all_Over_begins T 9) (hr.mono (by decide)) (takes_of rfl rfl rfl rfl)))) (nomark _))
      (pss_one (ps_raise rfl (takes_of rfl rfl rfl rfl) (pmk_own PySem.F.excBase_ValueError T.x_NoPiece.x T.g_NoPiece T.x_NoPiece.kp (raises_own T.x_NoPiece.sub T.x_NoPiece.ty) rfl)))
      pss_nil)
      (pss_cons (ps_fld (pv 0) (pv 2) rfl)
      (pss_cons (ps_fld (pv 0) (pv 3) rfl)
      (pss_one (ps_if (PW.pt (pw_or (pt_cmpR op_gt (c_meth0 (pv 0) T.c_Over T.m_Over_means_many (all_Over_means_many T 9) (hr.mono (by decide)) (takes_of rfl rfl rfl rfl)) (pe_k T.v_MOST_MOMENTS) (nomark _)) (pw_or1 (pt_cmpR op_gt (c_meth0 (pv 0) T.c_Over T.m_Over_nested (all_Over_nested T 9) (hr.mono (by decide)) (takes_of rfl rfl rfl rfl)) (pe_k T.v_MOST_NESTED) (nomark _)))))
      (pss_one (ps_raise rfl (takes_of rfl rfl rfl rfl) (pmk_own PySem.F.excBase_ValueError T.x_NoPiece.x T.g_NoPiece T.x_NoPiece.kp (raises_own T.x_NoPiece.sub T.x_NoPiece.ty) rfl)))
      pss_nil))))))), ?_⟩
    have hl1 := hA.len
    have hpH : SqA H p (as.map V.ref) := hp.imp (fun h => X0 _ _ h) (fun h => X0 _ _ h)
    refine ⟨_, rfl, p, as, ts, rfl, hpH, hA.mono X0, by omega, hok, hlt, fun hr2 t H1 X1 ht => ?_, fun hr2 H1 X1 => qe (by unfold ovB; rw [hr2]; rfl) H1 (ex_oth X1)⟩
    refine ⟨_, rfl, a, _, dx, [], rfl, X1 _ _ ha, T.c_Over, T.a_Over_kept, by decide, ?_⟩
    have ta : t ≠ a := fun z => by rw [z, X1 _ _ ha] at ht; cases ht
    have O1 : Oth a H (upd H1 a (.ins (OverC K) dx (putF "kept" (.ref t) []))) := (ex_oth X1).upd
    have h2 : upd H1 a (.ins (OverC K) dx (putF "kept" (.ref t) [])) a = some (.ins (OverC K) dx [("kept", .ref t)]) := upd_same
    have ht2 : upd H1 a (.ins (OverC K) dx (putF "kept" (.ref t) [])) t = some (.tup (as.map V.ref)) := by rw [upd_ne ta]; exact ht
    generalize upd H1 a (.ins (OverC K) dx (putF "kept" (.ref t) [])) = H2 at O1 h2 ht2 ⊢
    have X02 : Ex H0 H2 := Oth.ex X0 na0 O1
    have hA2 : ShsAt K H2 ts as := hA.mono X02
    refine ⟨_, rfl, a, _, dx, _, _, rfl, h2, T.c_Over, T.a_Over_kept, rfl, _, as.length, rfl, .inr ⟨_, sq_tup ht2, (List.length_map _).symm⟩, rfl, _, rfl, ?_⟩
    by_cases h0 : ts = []
    · rw [decide_eq_true (show V.int ((as.length : Nat) : Int) = V.int 0 by rw [hl1, h0]; rfl)]
      refine iteT ?_
      refine qe ?_ H2 O1
      unfold ovB
      rw [hr2, decide_eq_false (fun z => z h0)]
      rfl
    have pos : 0 < ts.length := List.length_pos_iff.mpr h0
    rw [decide_eq_false (show ¬ V.int ((as.length : Nat) : Int) = V.int 0 from fun z => by injection z with z; omega)]
    refine iteF ?_
    refine ⟨_, rfl, xm, 2, rfl, cm.mono X02, _, rfl, ?_⟩
    cases hm2 : isN 2 xm with
    | false =>
      refine iteT ?_
      refine qe ?_ H2 O1
      unfold ovB
      rw [hr2, decide_eq_true h0, hm2]
      rfl
    | true =>
    refine iteF ?_
    refine ⟨_, rfl, xs, 1, rfl, cs.mono X02, _, rfl, ?_⟩
    cases hs2 : isN 1 xs with
    | false =>
      refine iteT ?_
      refine qe ?_ H2 O1
      unfold ovB
      rw [hr2, decide_eq_true h0, hm2, hs2]
      rfl
    | true =>
    refine iteF ?_
    obtain ⟨m, rfl, hm⟩ := isN_nat_of (by decide) hm2
    obtain ⟨s_, rfl, hs1⟩ := isN_nat_of (by decide) hs2
    have eB : ovB ts (.int (m : Nat)) (.int (s_ : Nat)) = (decide (((momsL ts).getLastD 0 : Int) < ((s_ : Nat) : Int) + ((momsL ts).headD 0 : Int)) && (decide (((m : Nat) : Int) * ((momsL ts).length : Int) ≤ 1440) && decide (nestL ts ≤ 7))) := by
      unfold ovB
      rw [hr2, decide_eq_true h0, hm2, hs2]
      rfl
    have nn := momsL_ne hok h0
    obtain ⟨zf, rf, tf, rt, eas, ets, hSf⟩ : ∃ z r t u, as = z :: r ∧ ts = t :: u ∧ ShAt K H2 t z := by
      cases ts with
      | nil => exact absurd rfl h0
      | cons t u =>
        unfold ShsAt at hA2
        obtain ⟨z, r, e, h1, _⟩ := hA2
        exact ⟨z, r, t, u, e, rfl, h1⟩
    have as0 : as ≠ [] := fun z => by rw [z] at eas; cases eas
    obtain ⟨zl, gl, aL⟩ := last_ref as0
    obtain ⟨tl, htl, hSl⟩ := hA2.get gl
    have ep : ts = ts.dropLast ++ [tl] := by
      have e := (List.dropLast_concat_getLast h0).symm
      have e2 : ts.getLast h0 = tl := by
        rw [List.getLast_eq_getElem]
        rw [hl1] at htl
        obtain ⟨_, e⟩ := List.getElem?_eq_some_iff.mp htl
        exact e
      rw [e2] at e
      exact e
    have eL : (momsL ts).getLastD 0 = tl.moms.getLastD 0 := by
      have o7 := hok
      rw [ep] at o7 ⊢
      exact momsL_last o7
    have eF : (momsL ts).headD 0 = tf.moms.headD 0 := by
      have o7 := hok
      rw [ets] at o7 ⊢
      exact momsL_head o7
    have mf : tf ∈ ts := by rw [ets]; exact List.mem_cons_self
    have ml := List.mem_of_getElem? htl
    have aF : atI (as.map V.ref) 0 = some (.ref zf) := by rw [eas]; exact atI_nat (j := 0) rfl
    refine ⟨_, rfl, ?_⟩
    refine sh_ends hSl (okL_mem hok ml) (Nat.le_trans (nestL_mem ml) (by omega)) (fun R r => ⟨_, rfl, a, _, dx, _, _, rfl, h2, T.c_Over, T.a_Over_kept, rfl, _, rfl, t, _, _, _, rfl, rfl, sq_tup ht2, aL, r⟩) ?_
    refine sh_begins hSf (okL_mem hok mf) (Nat.le_trans (nestL_mem mf) (by omega)) (fun R r => ⟨_, rfl, a, _, dx, _, _, rfl, h2, T.c_Over, T.a_Over_kept, rfl, t, _, _, _, rfl, rfl, sq_tup ht2, aF, r⟩) ?_
    refine ⟨_, _, rfl, rfl, _, _, rfl, rfl, _, rfl, ?_⟩
    rw [← eL, ← eF]
    by_cases c1 : ((momsL ts).getLastD 0 : Int) < ((s_ : Nat) : Int) + ((momsL ts).headD 0 : Int)
    · rw [decide_eq_false (show ¬ ((s_ : Nat) : Int) ≤ (((momsL ts).getLastD 0 : Nat) : Int) - (((momsL ts).headD 0 : Nat) : Int) by omega)]
      refine iteF ?_
      refine ⟨_, rfl, _, rfl, a, _, dx, _, rfl, h2, T.c_Over, T.a_Over_many, Nat.le_of_ble_eq_true rfl, ?_⟩
      refine ⟨_, rfl, _, rfl, a, _, dx, _, rfl, upd_same, T.c_Over, T.a_Over_step, Nat.le_of_ble_eq_true rfl, ?_⟩
      rw [upd_upd]
      rw [show putF "step" (V.int (s_ : Nat)) (putF "many" (V.int (m : Nat)) [("kept", V.ref t)]) = overF t m s_ from rfl]
      have O3 : Oth a H (upd H2 a (.ins (OverC K) dx (overF t m s_))) := O1.upd
      have X03 : Ex H0 (upd H2 a (.ins (OverC K) dx (overF t m s_))) := Oth.ex X0 na0 O3
      have h3 : upd H2 a (.ins (OverC K) dx (overF t m s_)) a = some (.ins (OverC K) dx (overF t m s_)) := upd_same
      have hO : ShAt K (upd H2 a (.ins (OverC K) dx (overF t m s_))) (.ov ts m s_) a := by
        unfold ShAt
        exact ⟨dx, t, as, h3, by rw [upd_ne ta]; exact ht2, hA.mono X03⟩
      generalize upd H2 a (.ins (OverC K) dx (overF t m s_)) = H3 at O3 X03 hO h3 ⊢
      have hn9 : (Tr.ov ts m s_).nest ≤ 9 := by
        unfold Tr.nest
        omega
      refine ⟨_, rfl, a, dx, _, rfl, h3, rfl, a, ts, m, s_, rfl, hO, hn9, hok, hlm, fun H4 X4 => ⟨_, _, rfl, rfl, _, rfl, ?_⟩⟩
      have em : ((m * (momsL ts).length : Nat) : Int) = ((m : Nat) : Int) * ((momsL ts).length : Int) := by simp
      by_cases c2 : ((m : Nat) : Int) * ((momsL ts).length : Int) ≤ 1440
      · rw [decide_eq_false (show ¬ (1440 : Int) < ((m * (momsL ts).length : Nat) : Int) by omega)]
        refine iteF ?_
        refine ⟨_, rfl, a, dx, _, rfl, X4 _ _ h3, rfl, a, ts, m, s_, rfl, hO.mono X4, hn9, h0, hok, hlm, fun H5 X5 => ⟨_, _, rfl, rfl, _, rfl, ?_⟩⟩
        have O5 := O3.trans (ex_oth (X4.trans X5))
        by_cases c3 : nestL ts ≤ 7
        · rw [decide_eq_false (show ¬ (8 : Int) < (((Tr.ov ts m s_).nest : Nat) : Int) by unfold Tr.nest; omega)]
          refine iteF ?_
          exact q m s_ (by rw [eB, decide_eq_true c1, decide_eq_true c2, decide_eq_true c3]; rfl) rfl rfl H5 O5 (hO.mono (X4.trans X5))
        · rw [decide_eq_true (show (8 : Int) < (((Tr.ov ts m s_).nest : Nat) : Int) by unfold Tr.nest; omega)]
          refine iteT ?_
          exact qe (by rw [eB, decide_eq_false c3, Bool.and_false, Bool.and_false]) H5 O5
      · rw [decide_eq_true (show (1440 : Int) < ((m * (momsL ts).length : Nat) : Int) by omega)]
        exact iteT (qe (by rw [eB, decide_eq_false c2, Bool.false_and, Bool.and_false]) H4 (O3.trans (ex_oth X4)))
    · rw [decide_eq_true (show ((s_ : Nat) : Int) ≤ (((momsL ts).getLastD 0 : Nat) : Int) - (((momsL ts).headD 0 : Nat) : Int) by omega)]
      refine iteT ?_
      exact qe (by rw [eB, decide_eq_false c1]; rfl) H2 O1
theorem ovB_of {ts : List Tr} {m s : Nat} (h : (Tr.ov ts m s).ok) (hn : (Tr.ov ts m s).nest ≤ 8) : ovB ts (.int (m : Nat)) (.int (s : Nat)) = true := by
  unfold Tr.ok at h
  obtain ⟨h1, h2, h3, h4, h5, h6, h7⟩ := h
  unfold Tr.nest at hn
  have e4 : ((m : Nat) : Int) * ((momsL ts).length : Int) ≤ 1440 := by
    have : ((m * (momsL ts).length : Nat) : Int) ≤ 1440 := by omega
    rw [Int.natCast_mul] at this
    exact this
  unfold ovB
  rw [ris_of h7 h6, decide_eq_true h1, show isN 2 (.int (m : Nat)) = true from isN_nat (m := 2) h2, show isN 1 (.int (s : Nat)) = true from isN_nat (m := 1) h3]
  show (decide _ && (decide _ && decide _)) = true
  rw [decide_eq_true (by omega), decide_eq_true e4, decide_eq_true (by omega)]
  rfl
theorem over_newT {K : PySem.W.Frag} {H : Hp} {x dx p : Addr} {as : List Addr} {ts : List Tr} {m s : Nat} {Q : VK} {E : XK} (nx : H x = none) (nd : H dx = none) (ne : dx ≠ x) (hp : SqA H p (as.map V.ref)) (hA : ShsAt K H ts as) (hok : (Tr.ov ts m s).ok) (hn : (Tr.ov ts m s).nest ≤ 8) (q : ∀ H', Ex H H' → ShAt K H' (.ov ts m s) x → Q .non H') :
    sp_Over_init K [.ref x, .ref p, .int (m : Nat), .int (s : Nat)] (upd (upd H dx (.own x)) x (.ins (OverC K) dx [])) Q E := by
  have X1 := ex_made (o1 := .own x) (o2 := .ins (OverC K) dx []) nx nd ne
  have hb := ovB_of hok hn
  obtain ⟨o1, m2, hm, hml, hl2, hpl, hokL⟩ := ov_facts hok
  unfold Tr.nest at hn
  refine ⟨x, dx, p, as, ts, _, _, H, rfl, upd_same, nx, X1, hp, hA, by omega, hokL, by omega, by omega, cl_int _, cl_int _, fun m' s' _ em es H' k d => ?_, fun z => by rw [hb] at z; cases z⟩
  have e1 : m = m' := by injection em with em; omega
  have e2 : s = s' := by injection es with es; omega
  subst e1 e2
  exact q H' (fun b o e => k b o (ne_of_none e nx) (X1 _ _ e)) d
theorem ok_Over_init {P : Program} {w : World} {K : PySem.W.Frag} {mg : Str → Option Value} {base : Heap} (T : Env K mg) : Fc P w K mg base 64 (He.ma K (He.ga K "Over") "__init__") [] (fun vs H Q E => vs.length = 4 + ([] : List Str).length ∧ sp_Over_init K  (pick [.inl 0, .inl 1, .inl 2, .inl 3] vs [.int (2), .int (60)]) H Q E) := by
  obtain ⟨fd, D, F⟩ := fb_Over_init T
  exact Fb.shape D F 4 [] (fun us its => pick [.inl 0, .inl 1, .inl 2, .inl 3] us its) (by decide) (fun r1 r2 => pick_vals _ r1 r2) (fun T kV doc pm an cdv ct us ws its h1 h2 h3 => match us, ws, its, h1, h2, h3 with | [_, _, _, _], [], [_, _], _, _, _ => ⟨_, rfl, rfl⟩)
end
section
def sp_Over_parts (K : PySem.W.Frag) : Sp := fun vs H Q _ => ∃ a ps m s, vs = [.ref a] ∧ ShAt K H (.ov ps m s) a ∧ ∀ as p, ShsAt K H ps as → H p = none → Q (.ref p) (upd H p (.lst (as.map V.ref)))
theorem fb_Over_parts {P : Program} {w : World} {K : PySem.W.Frag} {mg : Str → Option Value} {base : Heap} (T : Env K mg) : ∃ fd, FunD K "parts" "Over.parts" (defArgs s_Over_parts) (defBody s_Over_parts) (defScope s_Over_parts) [] [] (He.ma K (He.ga K "Over") "parts") fd ∧ Fb P w K mg base 1 (He.ma K (He.ga K "Over") "parts") fd ["self"] (sp_Over_parts K) := by
  obtain ⟨fd, F⟩ := T.f_Over_parts
  refine ⟨fd, F, fb_of F sc_Over_parts (fun vs H Q E h => ?_) (fun cdv A outer s H vs Q E hr h => ?_)⟩
  · obtain ⟨a, ps, m, s, rfl, _⟩ := h
    rfl
  · obtain ⟨a, ps, m, s_, rfl, hO, q⟩ := h
    refine ⟨_, (pss_one (ps_ret (pe_callTy call_list_of (by rfl) T.n_list (by decide +kernel) (pa_cons (pe_fld (pv 0) (by rfl)) pa_nil)))), ?_⟩
    unfold ShAt at hO
    obtain ⟨dx, kp, as, ha, hk, hA⟩ := hO
    exact ⟨_, rfl, a, _, dx, _, _, rfl, ha, T.c_Over, T.a_Over_kept, rfl, kp, _, rfl, .inr (sq_tup hk), fun p np => q as p hA np⟩
theorem ok_Over_parts {P : Program} {w : World} {K : PySem.W.Frag} {mg : Str → Option Value} {base : Heap} (T : Env K mg) : Fc P w K mg base 1 (He.ma K (He.ga K "Over") "parts") [] (sp_Over_parts K ) := by
  obtain ⟨fd, D, F⟩ := fb_Over_parts T
  exact F.all (D.bindsN fun _ _ _ _ _ _ us hl => match us, hl with | [_], _ => rfl)
end
section
theorem fb_Over_moments {P : Program} {w : World} {K : PySem.W.Frag} {mg : Str → Option Value} {base : Heap} (T : Env K mg) {d L : Nat} (hL : 40 ≤ L) (r_Over_moments : Fc P w K mg base L (He.ma K (He.ga K "Over") "moments") [] (sp_Over_moments K d)) : ∃ fd, FunD K "moments" "Over.moments" (defArgs s_Over_moments) (defBody s_Over_moments) (defScope s_Over_moments) [] [] (He.ma K (He.ga K "Over") "moments") fd ∧ Fb P w K mg base (L + 2) (He.ma K (He.ga K "Over") "moments") fd ["self"] (sp_Over_moments K (d + 1)) := by
  obtain ⟨fd, F⟩ := T.f_Over_moments
  refine ⟨fd, F, fb_of F sc_Over_moments (fun vs H Q E h => ?_) (fun cdv A outer s H vs Q E hr h => ?_)⟩
  · obtain ⟨a, ps, m, s, rfl, _⟩ := h
    rfl
  · obtain ⟨a, ps, m, s_, rfl, hO, hn, hok, q⟩ := h
    refine ⟨_, (pss_cons (ps_set (i := 1) sc_Over_moments.nd rfl (Or.inl rfl) (c_call (ok_row_moments T hL r_Over_moments) (hr.mono (by omega)) T.g_row_moments T.k_row_moments takes0 (pa_cons (pe_fld (pv 0) (by rfl)) pa_nil)))
      (pss_cons (ps_set (i := 2) sc_Over_moments.nd rfl (Or.inl rfl) (pe_lst pa_nil))
      (pss_cons (ps_for (passes_of rfl) rfl (pi_range1 (by rfl) T.n_range (pa_cons (pe_fld (pv 0) (by rfl)) pa_nil)) (pg_name (i := 3) sc_Over_moments.nd rfl (Or.inr rfl))
      (pss_one (ps_expr (pe_bm PySem.F.plainAttrs_list PySem.F.slot_list_extend PySem.F.type_list_extend mt_extend (pv 2) (pa_cons (pe_lc (own := [("moment", 4)]) (by rfl) sc_Over_moments.nd (pi_list (pv 1)) (blkOk_by (own := [("moment", 4)]) (N := ["self", "own", "found", "time", "moment"]) (sc := defScope s_Over_moments) (by decide +kernel)) (fun _ _ _ _ _ => (pg_name (i := 4) sc_Over_moments.nd rfl (Or.inl rfl))) (fun _ _ _ _ _ => pts_nil) (fun _ _ _ _ _ => (pe_op op_add (pv 4) (pe_op op_mul (pv 3) (pe_fldK K (pv 0) (by rfl)))))) pa_nil)))))
      (pss_one (ps_ret (pv 2)))))), ?_⟩
    obtain ⟨_, m2, hm, hml, hl, hpl, hokL⟩ := ov_facts hok
    have hnL := ov_nest hn
    unfold Tr.moms at q
    unfold ShAt at hO
    obtain ⟨dx, kp, as, ha, hk, hA⟩ := hO
    generalize hns : momsL ps = ns at *
    refine ⟨_, rfl, a, _, dx, _, _, rfl, ha, T.c_Over, T.a_Over_kept, rfl, kp, as, ps, rfl, hk, hA, hnL, hokL, by rw [hns]; exact hl, fun w H1 X1 nw hw => ?_⟩
    rw [hns] at hw
    refine ⟨by show 0 ≤ sizeLine; decide, fun f nf => ?_⟩
    have nf0 := ex_fresh X1 nf
    have X2 := X1.trans (ex_new (o := .lst []) nf)
    have wf : w ≠ f := ne_of_none hw nf
    have af : a ≠ f := ne_of_none ha nf0
    have ha2 := X2 _ _ ha
    have hw2 := ex_new (o := .lst []) nf _ _ hw
    have hf2 : upd H1 f (.lst []) f = some (.lst []) := upd_same
    generalize upd H1 f (.lst []) = H2 at X2 ha2 hw2 hf2 ⊢
    refine ⟨_, rfl, a, _, dx, _, _, rfl, ha2, T.c_Over, T.a_Over_many, rfl, _, rfl, by omega, by omega, for_range (fun i σ H' => Oth f H2 H' ∧ ∃ v3 v4, σ = [some (.ref a), some (.ref w), some (.ref f), v3, v4] ∧ H' f = some (.lst (natV (overN ns i s_)))) ⟨Oth.refl _ _, _, _, rfl, hf2⟩ ?_ ?_⟩
    · rintro i σ H3 hi ⟨O3, v3, v4, rfl, hf3⟩
      have hi2 : i < m := by omega
      have hw3 := O3 _ _ wf hw2
      have ha3 := O3 _ _ af ha2
      have ll : (overN ns i s_).length = i * ns.length := overN_len ns i s_
      have l2 : i * ns.length ≤ m * ns.length := Nat.mul_le_mul_right _ (by omega)
      refine ⟨_, rfl, .inl ⟨rfl, _, sq_lst hf3⟩, _, rfl, w, rfl, ⟨_, sq_lst hw3⟩, fun A nA => lc_on ns (fun n : Nat => V.int n) L2.walk_list (fun n => some (.int ((n + i * s_ : Nat) : Int))) (fun H' => Ex H3 H') (fun H' z e => ex_mut e nA) (.refl _) (by omega) (fun H' e => sq_lst (e _ _ hw3)) (fun j n H4 acc N hn X4 hD la k => ?_) fun H4 X4 d4 => ?_⟩
      · refine ⟨rfl, _, rfl, _, rfl, _, rfl, a, _, dx, _, _, rfl, X4 _ _ ha3, T.c_Over, T.a_Over_step, rfl, _, _, rfl, rfl, .inl ⟨by omega, by omega⟩, _, _, rfl, rfl, acc, hD, la, ?_⟩
        have e : ((n : Nat) : Int) + (0 + ((i : Nat) : Int)) * ((s_ : Nat) : Int) = ((n + i * s_ : Nat) : Int) := by simp
        show N (upd H4 A (.lst (acc ++ [.int (((n : Nat) : Int) + (0 + ((i : Nat) : Int)) * ((s_ : Nat) : Int))])))
        rw [e]
        exact k H4 X4 hD
      · have ed : ns.filterMap (fun n => some (V.int ((n + i * s_ : Nat) : Int))) = natV (ns.map fun n => n + i * s_) := by
          unfold natV
          rw [List.filterMap_eq_map', List.map_map]
          rfl
        rw [ed] at d4
        refine ⟨f, A, _, _, rfl, rfl, X4 _ _ hf3, d4, sz_le (by rw [natV_len, natV_len, List.length_map, ll]; omega), (O3.trans (ex_oth X4)).upd, _, _, rfl, ?_⟩
        rw [upd_same, overN_succ]
        unfold natV
        rw [List.map_append]
    · rintro σ H3 ⟨O3, v3, v4, rfl, hf3⟩
      rw [show ((m : Nat) : Int).toNat = m by omega] at hf3
      exact ⟨_, rfl, q f H3 (Oth.ex X2 nf0 O3) nf0 hf3⟩
theorem ok_Over_moments {P : Program} {w : World} {K : PySem.W.Frag} {mg : Str → Option Value} {base : Heap} (T : Env K mg) {d L : Nat} (hL : 40 ≤ L) (r_Over_moments : Fc P w K mg base L (He.ma K (He.ga K "Over") "moments") [] (sp_Over_moments K d)) : Fc P w K mg base (L + 2) (He.ma K (He.ga K "Over") "moments") [] (sp_Over_moments K (d + 1)) := by
  obtain ⟨fd, D, F⟩ := fb_Over_moments T hL r_Over_moments
  exact F.all (D.bindsN fun _ _ _ _ _ _ us hl => match us, hl with | [_], _ => rfl)
theorem all_Over_moments {P : Program} {w : World} {K : PySem.W.Frag} {mg : Str → Option Value} {base : Heap} (T : Env K mg) : ∀ d, Fc P w K mg base (40 + 2 * d) (He.ma K (He.ga K "Over") "moments") [] (sp_Over_moments K d)
  | 0 => fc_no fun vs H Q E h => by
    obtain ⟨a, ps, m, s, _, _, h, _⟩ := h
    unfold Tr.nest at h
    omega
  | d + 1 => ok_Over_moments T (Nat.le_add_right 40 _) (all_Over_moments T d)
end
section
theorem fb_Over_pieces {P : Program} {w : World} {K : PySem.W.Frag} {mg : Str → Option Value} {base : Heap} (T : Env K mg) {d L : Nat} (hL : 40 ≤ L) (r_Over_pieces : Fc P w K mg base L (He.ma K (He.ga K "Over") "pieces") [] (sp_Over_pieces K d)) : ∃ fd, FunD K "pieces" "Over.pieces" (defArgs s_Over_pieces) (defBody s_Over_pieces) (defScope s_Over_pieces) [] [] (He.ma K (He.ga K "Over") "pieces") fd ∧ Fb P w K mg base (L + 2) (He.ma K (He.ga K "Over") "pieces") fd ["self"] (sp_Over_pieces K (d + 1)) := by
  obtain ⟨fd, F⟩ := T.f_Over_pieces
  refine ⟨fd, F, fb_of F sc_Over_pieces (fun vs H Q E h => ?_) (fun cdv A outer s H vs Q E hr h => ?_)⟩
  · obtain ⟨a, ps, m, s, rfl, _⟩ := h
    rfl
  · obtain ⟨a, ps, m, s_, rfl, hO, hn, hok, hl, q⟩ := h
    refine ⟨_, (pss_one (ps_ret (pe_op op_add pe_int (c_call (ok_row_pieces T hL r_Over_pieces) (hr.mono (by omega)) T.g_row_pieces T.k_row_pieces takes0 (pa_cons (pe_fld (pv 0) (by rfl)) pa_nil))))), ?_⟩
    have hnL := ov_nest hn
    obtain ⟨dx, kp, as, ha, hk, hA⟩ := (by unfold ShAt at hO; exact hO : ∃ dx kp as, H a = some (.ins (OverC K) dx (overF kp m s_)) ∧ H kp = some (.tup (as.map V.ref)) ∧ ShsAt K H ps as)
    refine ⟨_, rfl, a, _, dx, _, _, rfl, ha, T.c_Over, T.a_Over_kept, rfl, kp, as, ps, rfl, hk, hA, hnL, hok, hl, fun H1 X1 => ⟨_, _, rfl, rfl, ?_⟩⟩
    have e : (1 : Int) + ((pcsL ps : Nat) : Int) = (((Tr.ov ps m s_).pcs : Nat) : Int) := by
      unfold Tr.pcs
      omega
    show Q (.int ((1 : Int) + ((pcsL ps : Nat) : Int))) H1
    rw [e]
    exact q H1 X1
theorem ok_Over_pieces {P : Program} {w : World} {K : PySem.W.Frag} {mg : Str → Option Value} {base : Heap} (T : Env K mg) {d L : Nat} (hL : 40 ≤ L) (r_Over_pieces : Fc P w K mg base L (He.ma K (He.ga K "Over") "pieces") [] (sp_Over_pieces K d)) : Fc P w K mg base (L + 2) (He.ma K (He.ga K "Over") "pieces") [] (sp_Over_pieces K (d + 1)) := by
  obtain ⟨fd, D, F⟩ := fb_Over_pieces T hL r_Over_pieces
  exact F.all (D.bindsN fun _ _ _ _ _ _ us hl => match us, hl with | [_], _ => rfl)
theorem all_Over_pieces {P : Program} {w : World} {K : PySem.W.Frag} {mg : Str → Option Value} {base : Heap} (T : Env K mg) : ∀ d, Fc P w K mg base (40 + 2 * d) (He.ma K (He.ga K "Over") "pieces") [] (sp_Over_pieces K d)
  | 0 => fc_no fun vs H Q E h => by
    obtain ⟨a, ps, m, s, _, _, h, _⟩ := h
    unfold Tr.nest at h
    omega
  | d + 1 => ok_Over_pieces T (Nat.le_add_right 40 _) (all_Over_pieces T d)
end
section
theorem fb_Over_str {P : Program} {w : World} {K : PySem.W.Frag} {mg : Str → Option Value} {base : Heap} (T : Env K mg) {d L : Nat} (hL : 40 ≤ L) (r_Over_str : Fc P w K mg base L (He.ma K (He.ga K "Over") "__str__") [] (sp_Over_str K d)) : ∃ fd, FunD K "__str__" "Over.__str__" (defArgs s_Over_str) (defBody s_Over_str) (defScope s_Over_str) [] [] (He.ma K (He.ga K "Over") "__str__") fd ∧ Fb P w K mg base (L + 4) (He.ma K (He.ga K "Over") "__str__") fd ["self"] (sp_Over_str K (d + 1)) := by
  obtain ⟨fd, F⟩ := T.f_Over_str
  refine ⟨fd, F, fb_of F sc_Over_str (fun vs H Q E h => ?_) (fun cdv A outer s H vs Q E hr h => ?_)⟩
  · obtain ⟨a, ps, m, s, rfl, _⟩ := h
    rfl
  · obtain ⟨a, ps, m, s_, rfl, hO, hn, hf, hc, q⟩ := h
    refine ⟨_, (pss_one (ps_ret (pe_joined (PJ.cons pe_str (PJ.cons (pe_fmt (c_call (ok_row_text T hL r_Over_str) (hr.mono (by omega)) T.g_row_text T.k_row_text takes0 (pa_cons (pe_fld (pv 0) (by rfl)) pa_nil))) (PJ.cons pe_str (PJ.cons (pe_fmt (pe_fld (pv 0) (by rfl))) (PJ.cons pe_str (PJ.cons (pe_fmt (pe_fld (pv 0) (by rfl))) PJ.nil))))))))), ?_⟩
    have hnL := ov_nest hn
    have htl := txt_len hf
    unfold Tr.pcs at hc htl
    unfold Tr.fit at hf
    unfold Tr.txt at q htl
    obtain ⟨f1, f2, f3⟩ := hf
    have rl := rowT_len f3
    unfold ShAt at hO
    obtain ⟨dx, kp, as, ha, hk, hA⟩ := hO
    have b1 := log_small f1
    have b2 := log_small f2
    have hpl : pcsL ps ≤ 10000 := by omega
    refine ⟨_, rfl, (by decide), _, rfl, _, _, _, _, _, rfl, ha, T.c_Over, T.a_Over_kept, rfl, _, _, _, rfl, hk, hA, hnL, f3, hpl, ?_⟩
    intro H1 X1
    have ha1 := X1 _ _ ha
    rw [show Str.empty ++ Str.ofString "(" = SX.S [40] from rfl]
    refine .inl ⟨_, rfl, sz_big (by rw [SX.S_len]; omega), _, rfl, ?_⟩
    rw [SX.S_cat]
    refine ⟨sz_big (by rw [SX.S_len, List.length_append]; show 1 + _ ≤ _; omega), _, rfl, ?_⟩
    rw [show Str.ofString ") x" = SX.S [41, 32, 120] from rfl, SX.S_cat]
    refine ⟨sz_big (by rw [SX.S_len]; simp only [List.length_append, List.length_cons, List.length_nil]; omega), ?_⟩
    refine ⟨_, rfl, _, _, _, _, _, rfl, ha1, T.c_Over, T.a_Over_many, rfl, .inr ⟨_, rfl, b1, _, rfl, ?_⟩⟩
    rw [SX.num_S, SX.S_cat]
    have l1 := TL.numL_len (by decide) f1
    have l2 := TL.numL_len (by decide) f2
    refine ⟨sz_big (by rw [SX.S_len]; simp only [List.length_append, List.length_cons, List.length_nil]; omega), _, rfl, ?_⟩
    rw [show Str.ofString " +" = SX.S [32, 43] from rfl, SX.S_cat]
    refine ⟨sz_big (by rw [SX.S_len]; simp only [List.length_append, List.length_cons, List.length_nil]; omega), ?_⟩
    refine ⟨_, rfl, _, _, _, _, _, rfl, ha1, T.c_Over, T.a_Over_step, rfl, .inr ⟨_, rfl, b2, _, rfl, ?_⟩⟩
    rw [SX.num_S, SX.S_cat]
    refine ⟨sz_big (by rw [SX.S_len]; simp only [List.length_append, List.length_cons, List.length_nil]; omega), ?_⟩
    exact q H1 X1
theorem ok_Over_str {P : Program} {w : World} {K : PySem.W.Frag} {mg : Str → Option Value} {base : Heap} (T : Env K mg) {d L : Nat} (hL : 40 ≤ L) (r_Over_str : Fc P w K mg base L (He.ma K (He.ga K "Over") "__str__") [] (sp_Over_str K d)) : Fc P w K mg base (L + 4) (He.ma K (He.ga K "Over") "__str__") [] (sp_Over_str K (d + 1)) := by
  obtain ⟨fd, D, F⟩ := fb_Over_str T hL r_Over_str
  exact F.all (D.bindsN fun _ _ _ _ _ _ us hl => match us, hl with | [_], _ => rfl)
theorem all_Over_str {P : Program} {w : World} {K : PySem.W.Frag} {mg : Str → Option Value} {base : Heap} (T : Env K mg) : ∀ d, Fc P w K mg base (40 + 4 * d) (He.ma K (He.ga K "Over") "__str__") [] (sp_Over_str K d)
  | 0 => fc_no fun vs H Q E h => by
    obtain ⟨a, ps, m, s, _, _, h, _⟩ := h
    unfold Tr.nest at h
    omega
  | d + 1 => ok_Over_str T (Nat.le_add_right 40 _) (all_Over_str T d)
end
section
abbrev SpreadC (K : PySem.W.Frag) : Addr := He.ga K "Spread"
def sprF (kp hd : Addr) : List (Str × V) := [("kept", .ref kp), ("held", .ref hd)]
/-- at a a spread of these shorts -/
def SprAt (K : PySem.W.Frag) (H : Hp) (a : Addr) (ts : List Tr) : Prop := ∃ dx kp hd as, H a = some (.ins (SpreadC K) dx (sprF kp hd)) ∧ H kp = some (.tup (as.map V.ref)) ∧ H hd = some (.lst (natV (momsL ts))) ∧ ShsAt K H ts as
theorem SprAt.mono {K : PySem.W.Frag} {H H' : Hp} {a : Addr} {ts : List Tr} (h : SprAt K H a ts) (e : Ex H H') : SprAt K H' a ts := let ⟨dx, kp, hd, as, h1, h2, h3, h4⟩ := h; ⟨dx, kp, hd, as, e _ _ h1, e _ _ h2, e _ _ h3, h4.mono e⟩
theorem sprF_inj {a b c d : Addr} (h : sprF a b = sprF c d) : a = c ∧ b = d := by
  unfold sprF at h
  simpa using h
theorem ins_inj {C dx dy : Addr} {fs gs : List (Str × V)} (h : some (HO.ins C dx fs) = some (HO.ins C dy gs)) : dx = dy ∧ fs = gs := by
  cases h
  exact ⟨rfl, rfl⟩
/-- the list that a spread holds stands at a place that N tells -/
def HeldN (K : PySem.W.Frag) (N : Addr → Prop) (H : Hp) (a : Addr) : Prop := ∀ dx kp hd, H a = some (.ins (SpreadC K) dx (sprF kp hd)) → N hd
theorem HeldN.ex {K : PySem.W.Frag} {N : Addr → Prop} {H H' : Hp} {a : Addr} {ts : List Tr} (h : HeldN K N H a) (s : SprAt K H a ts) (e : ∀ o, H a = some o → H' a = some o) : HeldN K N H' a := fun dx kp hd z => by
  obtain ⟨dx2, kp2, hd2, as2, h2, _⟩ := s
  obtain ⟨_, e5⟩ := ins_inj ((e _ h2).symm.trans z)
  obtain ⟨e6, e7⟩ := sprF_inj e5
  rw [← e7]
  exact h _ _ _ h2
theorem SprAt.put {K : PySem.W.Frag} {N : Addr → Prop} {H : Hp} {a f : Addr} {ts : List Tr} {xs ys : List V} (s : SprAt K H a ts) (h : HeldN K N H a) (n : ∀ b, N b → b ≠ f) (hf : H f = some (.lst xs)) : SprAt K (upd H f (.lst ys)) a ts ∧ HeldN K N (upd H f (.lst ys)) a := by
  have keep : ∀ b o, H b = some o → (∀ zs, o ≠ .lst zs) → upd H f (.lst ys) b = some o := fun b o hb ho => by
    rw [upd_ne (fun z => by rw [z, hf] at hb; cases hb; exact ho _ rfl)]
    exact hb
  obtain ⟨dx, kp, hd, as, h1, h2, h3, h4⟩ := id s
  refine ⟨⟨dx, kp, hd, as, keep _ _ h1 (fun _ z => nomatch z), keep _ _ h2 (fun _ z => nomatch z), ?_, h4.oth ((Oth.refl f H).upd) fun ob ho => ?_⟩, h.ex s fun o ho => ?_⟩
  · rw [upd_ne (n _ (h _ _ _ h1))]
    exact h3
  · rw [hf] at ho
    cases ho
    exact ⟨_, rfl⟩
  · rw [h1] at ho
    cases ho
    exact keep _ _ h1 (fun _ z => nomatch z)
def sprB (ts : List Tr) : Bool := risB ts && decide ((momsL ts).length ≤ 1440)
def sp_Spread_init (K : PySem.W.Frag) : Sp := fun vs H Q E => ∃ (a dx p : Addr) (as : List Addr) (ts : List Tr) (H0 : Hp), vs = [.ref a, .ref p] ∧ H a = some (.ins (SpreadC K) dx []) ∧ H0 a = none ∧ Ex H0 H ∧ SqA H0 p (as.map V.ref) ∧ ShsAt K H0 ts as ∧ nestL ts ≤ 8 ∧ okL_ ts ∧ ts.length ≤ 20000 ∧ ts.length ≤ 20000 ∧ (sprB ts = true → ∀ H', Oth a H H' → SprAt K H' a ts → HeldN K (fun b => H0 b = none) H' a → Q .non H') ∧ (sprB ts = false → ∀ H', Oth a H H' → E (.ref (He.ga K "NoPiece")) none H')
theorem fb_Spread_init {P : Program} {w : World} {K : PySem.W.Frag} {mg : Str → Option Value} {base : Heap} (T : Env K mg) : ∃ fd, FunD K "__init__" "Spread.__init__" (defArgs s_Spread_init) (defBody s_Spread_init) (defScope s_Spread_init) [] [] (He.ma K (He.ga K "Spread") "__init__") fd ∧ Fb P w K mg base 64 (He.ma K (He.ga K "Spread") "__init__") fd ["self", "parts"] (sp_Spread_init K) := by
  obtain ⟨fd, F⟩ := T.f_Spread_init
  refine ⟨fd, F, fb_of F sc_Spread_init (fun vs H Q E h => ?_) (fun cdv A outer s H vs Q E hr h => ?_)⟩
  · obtain ⟨a, dx, p, as, ts, H0, rfl, _⟩ := h
    rfl
  · obtain ⟨a, dx, p, as, ts, H0, rfl, ha, na0, X0, hp, hA, hn, hok, hlm, hlt, q, qe⟩ := h
    refine ⟨_, (pss_cons (ps_fld (pv 0) (c_call (ok_shorts_in T) (hr.mono (by decide)) T.g_shorts_in T.k_shorts_in (takes_of rfl rfl rfl rfl) (pa_cons (pv 1) pa_nil)) rfl)
      (pss_cons (ps_if (pt_cmpR op_gt (c_call (ok_row_many T (Nat.le_add_right 40 _) (all_Over_means_many T 9)) (hr.mono (by decide)) T.g_row_many T.k_row_many (takes_of rfl rfl rfl rfl) (pa_cons (pe_fld (pv 0) (by rfl)) pa_nil)) (pe_k T.v_MOST_MOMENTS) (nomark _))
      (pss_one (ps_raise rfl (takes_of rfl rfl rfl rfl) (pmk_own PySem.F.excBase_ValueError T.x_NoPiece.x T.g_NoPiece T.x_NoPiece.kp (raises_own T.x_NoPiece.sub T.x_NoPiece.ty) rfl)))
      pss_nil)
      (pss_one (ps_fld (pv 0) (c_call (ok_row_moments T (Nat.le_add_right 40 _) (all_Over_moments T 9)) (hr.mono (by decide)) T.g_row_moments T.k_row_moments (takes_of rfl rfl rfl rfl) (pa_cons (pe_fld (pv 0) (by rfl)) pa_nil)) rfl)))), ?_⟩
    have hpH : SqA H p (as.map V.ref) := hp.imp (fun h => X0 _ _ h) (fun h => X0 _ _ h)
    refine ⟨_, rfl, p, as, ts, rfl, hpH, hA.mono X0, by omega, hok, hlt, fun hr2 t H1 X1 ht => ?_, fun hr2 H1 X1 => qe (by unfold sprB; rw [hr2]; rfl) H1 (ex_oth X1)⟩
    refine ⟨_, rfl, a, _, dx, [], rfl, X1 _ _ ha, T.c_Spread, T.a_Spread_kept, by decide, ?_⟩
    have ta : t ≠ a := fun z => by rw [z, X1 _ _ ha] at ht; cases ht
    have O1 : Oth a H (upd H1 a (.ins (SpreadC K) dx (putF "kept" (.ref t) []))) := (ex_oth X1).upd
    have h2 : upd H1 a (.ins (SpreadC K) dx (putF "kept" (.ref t) [])) a = some (.ins (SpreadC K) dx [("kept", .ref t)]) := upd_same
    have ht2 : upd H1 a (.ins (SpreadC K) dx (putF "kept" (.ref t) [])) t = some (.tup (as.map V.ref)) := by rw [upd_ne ta]; exact ht
    generalize upd H1 a (.ins (SpreadC K) dx (putF "kept" (.ref t) [])) = H2 at O1 h2 ht2 ⊢
    have X02 : Ex H0 H2 := Oth.ex X0 na0 O1
    have hA2 : ShsAt K H2 ts as := hA.mono X02
    refine ⟨_, rfl, a, _, dx, _, _, rfl, h2, T.c_Spread, T.a_Spread_kept, rfl, t, as, ts, rfl, ht2, hA2, by omega, hok, hlm, fun H3 X3 => ⟨_, _, rfl, rfl, _, rfl, ?_⟩⟩
    by_cases c : (momsL ts).length ≤ 1440
    · rw [decide_eq_false (show ¬ (1440 : Int) < (((momsL ts).length : Nat) : Int) by omega)]
      refine iteF ?_
      refine ⟨_, rfl, a, _, dx, _, _, rfl, X3 _ _ h2, T.c_Spread, T.a_Spread_kept, rfl, t, as, ts, rfl, X3 _ _ ht2, hA2.mono X3, by omega, hok, c, fun hd H4 X4 nhd hhd => ?_⟩
      have X34 := X3.trans X4
      have hda : hd ≠ a := fun z => by rw [z, X34 _ _ h2] at hhd; cases hhd
      refine ⟨_, rfl, a, _, dx, _, rfl, X34 _ _ h2, T.c_Spread, T.a_Spread_held, Nat.le_of_ble_eq_true rfl, ?_⟩
      have O4 : Oth a H (upd H4 a (.ins (SpreadC K) dx (sprF t hd))) := (O1.trans (ex_oth X34)).upd
      refine q (by unfold sprB; rw [hr2, decide_eq_true c]; rfl) _ O4 ⟨dx, t, hd, as, upd_same, by rw [upd_ne ta]; exact X34 _ _ ht2, by rw [upd_ne hda]; exact hhd, hA.mono (Oth.ex X0 na0 O4)⟩ fun dx' kp' hd' e => ?_
      rw [upd_same] at e
      rw [← (sprF_inj (ins_inj e).2).2]
      exact ex_fresh (X02.trans X3) nhd
    · rw [decide_eq_true (show (1440 : Int) < (((momsL ts).length : Nat) : Int) by omega)]
      exact iteT (qe (by unfold sprB; rw [decide_eq_false c, Bool.and_false]) H3 (O1.trans (ex_oth X3)))
theorem spread_newH {K : PySem.W.Frag} {H : Hp} {x dx p : Addr} {as : List Addr} {ts : List Tr} {Q : VK} {E : XK} (nx : H x = none) (nd : H dx = none) (ne : dx ≠ x) (hp : SqA H p (as.map V.ref)) (hA : ShsAt K H ts as) (hn : nestL ts ≤ 8) (hok : okL_ ts) (hb : sprB ts = true) (q : ∀ H', Ex H H' → SprAt K H' x ts → HeldN K (fun b => H b = none) H' x → Q .non H') :
    sp_Spread_init K [.ref x, .ref p] (upd (upd H dx (.own x)) x (.ins (SpreadC K) dx [])) Q E := by
  have X1 := ex_made (o1 := .own x) (o2 := .ins (SpreadC K) dx []) nx nd ne
  have hl : (momsL ts).length ≤ 1440 := of_decide_eq_true (Bool.and_eq_true_iff.mp hb).2
  have h2 := len_moms hok
  refine ⟨x, dx, p, as, ts, H, rfl, upd_same, nx, X1, hp, hA, hn, hok, by omega, by omega, fun _ H' k d e => ?_, fun z => by rw [hb] at z; cases z⟩
  exact q H' (fun b o e => k b o (ne_of_none e nx) (X1 _ _ e)) d e
theorem ok_Spread_init {P : Program} {w : World} {K : PySem.W.Frag} {mg : Str → Option Value} {base : Heap} (T : Env K mg) : Fc P w K mg base 64 (He.ma K (He.ga K "Spread") "__init__") [] (sp_Spread_init K ) := by
  obtain ⟨fd, D, F⟩ := fb_Spread_init T
  exact F.all (D.bindsN fun _ _ _ _ _ _ us hl => match us, hl with | [_, _], _ => rfl)
end
section
def sp_Spread_parts (K : PySem.W.Frag) : Sp := fun vs H Q _ => ∃ a ts, vs = [.ref a] ∧ SprAt K H a ts ∧ ∀ as p, ShsAt K H ts as → H p = none → Q (.ref p) (upd H p (.lst (as.map V.ref)))
theorem fb_Spread_parts {P : Program} {w : World} {K : PySem.W.Frag} {mg : Str → Option Value} {base : Heap} (T : Env K mg) : ∃ fd, FunD K "parts" "Spread.parts" (defArgs s_Spread_parts) (defBody s_Spread_parts) (defScope s_Spread_parts) [] [] (He.ma K (He.ga K "Spread") "parts") fd ∧ Fb P w K mg base 1 (He.ma K (He.ga K "Spread") "parts") fd ["self"] (sp_Spread_parts K) := by
  obtain ⟨fd, F⟩ := T.f_Spread_parts
  refine ⟨fd, F, fb_of F sc_Spread_parts (fun vs H Q E h => ?_) (fun cdv A outer s H vs Q E hr h => ?_)⟩
  · obtain ⟨a, ts, rfl, _⟩ := h
    rfl
  · obtain ⟨a, ts, rfl, hO, q⟩ := h
    refine ⟨_, (pss_one (ps_ret (pe_callTy call_list_of (by rfl) T.n_list (by decide +kernel) (pa_cons (pe_fld (pv 0) (by rfl)) pa_nil)))), ?_⟩
    obtain ⟨dx, kp, hd, as, ha, hk, hh, hA⟩ := id hO
    exact ⟨_, rfl, a, _, dx, _, _, rfl, ha, T.c_Spread, T.a_Spread_kept, rfl, kp, _, rfl, .inr (sq_tup hk), fun p np => q as p hA np⟩
theorem ok_Spread_parts {P : Program} {w : World} {K : PySem.W.Frag} {mg : Str → Option Value} {base : Heap} (T : Env K mg) : Fc P w K mg base 1 (He.ma K (He.ga K "Spread") "parts") [] (sp_Spread_parts K ) := by
  obtain ⟨fd, D, F⟩ := fb_Spread_parts T
  exact F.all (D.bindsN fun _ _ _ _ _ _ us hl => match us, hl with | [_], _ => rfl)
end
section
def sp_Spread_moments (K : PySem.W.Frag) : Sp := fun vs H Q _ => ∃ a ts, vs = [.ref a] ∧ SprAt K H a ts ∧ ∀ p, H p = none → Q (.ref p) (upd H p (.lst (natV (momsL ts))))
theorem fb_Spread_moments {P : Program} {w : World} {K : PySem.W.Frag} {mg : Str → Option Value} {base : Heap} (T : Env K mg) : ∃ fd, FunD K "moments" "Spread.moments" (defArgs s_Spread_moments) (defBody s_Spread_moments) (defScope s_Spread_moments) [] [] (He.ma K (He.ga K "Spread") "moments") fd ∧ Fb P w K mg base 1 (He.ma K (He.ga K "Spread") "moments") fd ["self"] (sp_Spread_moments K) := by
  obtain ⟨fd, F⟩ := T.f_Spread_moments
  refine ⟨fd, F, fb_of F sc_Spread_moments (fun vs H Q E h => ?_) (fun cdv A outer s H vs Q E hr h => ?_)⟩
  · obtain ⟨a, ts, rfl, _⟩ := h
    rfl
  · obtain ⟨a, ts, rfl, hO, q⟩ := h
    refine ⟨_, (pss_one (ps_ret (pe_callTy call_list_of (by rfl) T.n_list (by decide +kernel) (pa_cons (pe_fld (pv 0) (by rfl)) pa_nil)))), ?_⟩
    obtain ⟨dx, kp, hd, as, ha, hk, hh, hA⟩ := id hO
    exact ⟨_, rfl, a, _, dx, _, _, rfl, ha, T.c_Spread, T.a_Spread_held, rfl, hd, _, rfl, .inl (sq_lst hh), q⟩
theorem ok_Spread_moments {P : Program} {w : World} {K : PySem.W.Frag} {mg : Str → Option Value} {base : Heap} (T : Env K mg) : Fc P w K mg base 1 (He.ma K (He.ga K "Spread") "moments") [] (sp_Spread_moments K ) := by
  obtain ⟨fd, D, F⟩ := fb_Spread_moments T
  exact F.all (D.bindsN fun _ _ _ _ _ _ us hl => match us, hl with | [_], _ => rfl)
end
section
def sp_Spread_pieces (K : PySem.W.Frag) : Sp := fun vs H Q _ => ∃ a ts, vs = [.ref a] ∧ SprAt K H a ts ∧ nestL ts ≤ 8 ∧ okL_ ts ∧ (momsL ts).length ≤ 1440 ∧ ∀ H', Ex H H' → Q (.int ((pcsL ts : Nat) : Int)) H'
theorem fb_Spread_pieces {P : Program} {w : World} {K : PySem.W.Frag} {mg : Str → Option Value} {base : Heap} (T : Env K mg) : ∃ fd, FunD K "pieces" "Spread.pieces" (defArgs s_Spread_pieces) (defBody s_Spread_pieces) (defScope s_Spread_pieces) [] [] (He.ma K (He.ga K "Spread") "pieces") fd ∧ Fb P w K mg base 64 (He.ma K (He.ga K "Spread") "pieces") fd ["self"] (sp_Spread_pieces K) := by
  obtain ⟨fd, F⟩ := T.f_Spread_pieces
  refine ⟨fd, F, fb_of F sc_Spread_pieces (fun vs H Q E h => ?_) (fun cdv A outer s H vs Q E hr h => ?_)⟩
  · obtain ⟨a, ts, rfl, _⟩ := h
    rfl
  · obtain ⟨a, ts, rfl, hO, q⟩ := h
    refine ⟨_, (pss_one (ps_ret (c_call (ok_row_pieces T (Nat.le_add_right 40 _) (all_Over_pieces T 9)) (hr.mono (by decide)) T.g_row_pieces T.k_row_pieces takes0 (pa_cons (pe_fld (pv 0) (by rfl)) pa_nil)))), ?_⟩
    obtain ⟨dx, kp, hd, as, ha, hk, hh, hA⟩ := id hO
    obtain ⟨hn, hok, hl, q⟩ := q
    have hl2 := len_moms hok
    exact ⟨_, rfl, a, _, dx, _, _, rfl, ha, T.c_Spread, T.a_Spread_kept, rfl, kp, as, ts, rfl, hk, hA, by omega, hok, by omega, fun H1 X1 => q H1 X1⟩
theorem ok_Spread_pieces {P : Program} {w : World} {K : PySem.W.Frag} {mg : Str → Option Value} {base : Heap} (T : Env K mg) : Fc P w K mg base 64 (He.ma K (He.ga K "Spread") "pieces") [] (sp_Spread_pieces K ) := by
  obtain ⟨fd, D, F⟩ := fb_Spread_pieces T
  exact F.all (D.bindsN fun _ _ _ _ _ _ us hl => match us, hl with | [_], _ => rfl)
end
section
def sp_Spread_len (K : PySem.W.Frag) : Sp := fun vs H Q _ => ∃ a ts, vs = [.ref a] ∧ SprAt K H a ts ∧ Q (.int (((momsL ts).length : Nat) : Int)) H
theorem fb_Spread_len {P : Program} {w : World} {K : PySem.W.Frag} {mg : Str → Option Value} {base : Heap} (T : Env K mg) : ∃ fd, FunD K "__len__" "Spread.__len__" (defArgs s_Spread_len) (defBody s_Spread_len) (defScope s_Spread_len) [] [] (He.ma K (He.ga K "Spread") "__len__") fd ∧ Fb P w K mg base 1 (He.ma K (He.ga K "Spread") "__len__") fd ["self"] (sp_Spread_len K) := by
  obtain ⟨fd, F⟩ := T.f_Spread_len
  refine ⟨fd, F, fb_of F sc_Spread_len (fun vs H Q E h => ?_) (fun cdv A outer s H vs Q E hr h => ?_)⟩
  · obtain ⟨a, ts, rfl, _⟩ := h
    rfl
  · obtain ⟨a, ts, rfl, hO, q⟩ := h
    refine ⟨_, (pss_one (ps_ret (pe_callB call_len (by rfl) T.n_len (by decide +kernel) (pa_cons (pe_fld (pv 0) (by rfl)) pa_nil)))), ?_⟩
    obtain ⟨dx, kp, hd, as, ha, hk, hh, hA⟩ := id hO
    exact ⟨_, rfl, a, _, dx, _, _, rfl, ha, T.c_Spread, T.a_Spread_held, rfl, _, (momsL ts).length, rfl, .inl ⟨_, sq_lst hh, (natV_len _).symm⟩, q⟩
theorem ok_Spread_len {P : Program} {w : World} {K : PySem.W.Frag} {mg : Str → Option Value} {base : Heap} (T : Env K mg) : Fc P w K mg base 1 (He.ma K (He.ga K "Spread") "__len__") [] (sp_Spread_len K ) := by
  obtain ⟨fd, D, F⟩ := fb_Spread_len T
  exact F.all (D.bindsN fun _ _ _ _ _ _ us hl => match us, hl with | [_], _ => rfl)
end
section
def sp_Spread_str (K : PySem.W.Frag) : Sp := fun vs H Q _ => ∃ a ts, vs = [.ref a] ∧ SprAt K H a ts ∧ nestL ts ≤ 9 ∧ fitL ts ∧ pcsL ts ≤ 10000 ∧ ∀ H', Ex H H' → Q (.str (SX.S (rowT (txtL ts)))) H'
theorem fb_Spread_str {P : Program} {w : World} {K : PySem.W.Frag} {mg : Str → Option Value} {base : Heap} (T : Env K mg) : ∃ fd, FunD K "__str__" "Spread.__str__" (defArgs s_Spread_str) (defBody s_Spread_str) (defScope s_Spread_str) [] [] (He.ma K (He.ga K "Spread") "__str__") fd ∧ Fb P w K mg base 80 (He.ma K (He.ga K "Spread") "__str__") fd ["self"] (sp_Spread_str K) := by
  obtain ⟨fd, F⟩ := T.f_Spread_str
  refine ⟨fd, F, fb_of F sc_Spread_str (fun vs H Q E h => ?_) (fun cdv A outer s H vs Q E hr h => ?_)⟩
  · obtain ⟨a, ts, rfl, _⟩ := h
    rfl
  · obtain ⟨a, ts, rfl, hO, hn, hf, hc, q⟩ := h
    refine ⟨_, (pss_one (ps_ret (pe_joined1 (pe_fmt (c_call (ok_row_text T (Nat.le_add_right 40 _) (all_Over_str T 9)) (hr.mono (by decide)) T.g_row_text T.k_row_text takes0 (pa_cons (pe_fld (pv 0) (by rfl)) pa_nil)))))), ?_⟩
    have rl := rowT_len hf
    obtain ⟨dx, kp, hd, as, ha, hk, hA, hh⟩ := hO
    refine ⟨_, rfl, _, _, _, _, _, rfl, ha, T.c_Spread, T.a_Spread_kept, rfl, _, _, _, rfl, hk, hh, hn, hf, hc, ?_⟩
    intro H1 X1
    exact .inl ⟨_, rfl, sz_big (by rw [SX.S_len]; omega), q H1 X1⟩
theorem ok_Spread_str {P : Program} {w : World} {K : PySem.W.Frag} {mg : Str → Option Value} {base : Heap} (T : Env K mg) : Fc P w K mg base 80 (He.ma K (He.ga K "Spread") "__str__") [] (sp_Spread_str K ) := by
  obtain ⟨fd, D, F⟩ := fb_Spread_str T
  exact F.all (D.bindsN fun _ _ _ _ _ _ us hl => match us, hl with | [_], _ => rfl)
end
section
/-- a pot: what is left of a cell's digits, and what mixes -/
def Pot (H : Hp) (p : Addr) : Prop := ∃ a b : Int, H p = some (.lst [.int a, .int b]) ∧ 0 ≤ b ∧ b < 4294967296
def sp__law_pot (K : PySem.W.Frag) : Sp := fun vs H Q _ => ∃ (a : Addr) (ns : List Int) (k : Int), vs = [.ref a, .int k] ∧ SqL K H a (ns.map V.int) ∧ 0 ≤ k ∧ k < 1000 ∧ ∀ p H', H p = none → Pot H' p → (∀ b, b ≠ p → H' b = H b) → Q (.ref p) H'
theorem fb__law_pot {P : Program} {w : World} {K : PySem.W.Frag} {mg : Str → Option Value} {base : Heap} (T : Env K mg) : ∃ fd, FunD K "_law_pot" "_law_pot" (defArgs s__law_pot) (defBody s__law_pot) (defScope s__law_pot) [] [] (He.ga K "_law_pot") fd ∧ Fb P w K mg base 1 (He.ga K "_law_pot") fd ["_law_script", "_law_k"] (sp__law_pot K) := by
  obtain ⟨fd, F⟩ := T.f__law_pot
  refine ⟨fd, F, fb_of F sc__law_pot (fun vs H Q E h => ?_) (fun cdv A outer s H vs Q E hr h => ?_)⟩
  · obtain ⟨a, ns, k, rfl, _⟩ := h
    rfl
  · obtain ⟨a, ns, k, rfl, hS, k0, k1, q⟩ := h
    refine ⟨_, (pss_cons (ps_set (i := 2) sc__law_pot.nd rfl (Or.inl rfl) pe_int)
      (Evl.pss_cut (ps_if (pt_cmpR op_lt (pv 1) (pe_callB call_len (by rfl) T.n_len (by decide +kernel) (pa_cons (pv 0) pa_nil)) (nomark _))
      (pss_one (ps_set (i := 2) sc__law_pot.nd rfl (Or.inl rfl) (pe_ix ix_list (pv 0) (pv 1) (fun _ _ => rfl))))
      pss_nil)
      (pss_one (ps_ret (pe_lst (pa_cons (pe_callB (call_max2 rfl) (by rfl) T.n_max (by decide +kernel) (pa_cons pe_int (pa_cons (pe_op op_sub (pv 2) (pe_op op_pow pe_int pe_int)) pa_nil))) (pa_cons (pe_op op_add (pe_op op_add (pe_op op_mod (pv 2) pe_int) (pe_op op_mul pe_int (pv 1))) pe_int) pa_nil))))))), ?_⟩
    refine ⟨fun σ' H' => H' = H ∧ ∃ cell : Int, σ' = [some (.ref a), some (.int k), some (.int cell)], ?_, ?_⟩
    · refine ⟨_, rfl, _, rfl, _, _, rfl, .inl ⟨_, hS, rfl⟩, _, _, rfl, rfl, _, rfl, ite2 (fun c => ?_) (fun c => ?_)⟩
      · have c2 : k < ((ns.map V.int).length : Int) := of_decide_eq_true c
        rw [List.length_map] at c2
        obtain ⟨i, rfl⟩ := Int.eq_ofNat_of_zero_le k0
        have hi : i < ns.length := Int.ofNat_lt.mp c2
        refine ⟨_, rfl, _, rfl, a, _, _, .int ns[i], rfl, rfl, hS, ?_, rfl, ns[i], rfl⟩
        exact atI_nat (by rw [List.getElem?_map, List.getElem?_eq_getElem hi]; rfl)
      · exact ⟨rfl, 0, rfl⟩
    · rintro σ' H' ⟨rfl, cell, rfl⟩
      have m1 := Int.emod_nonneg cell (show (2147483629 : Int) ≠ 0 by decide)
      have m2 := Int.emod_lt_of_pos cell (show (0 : Int) < 2147483629 by decide)
      refine ⟨_, rfl, _, _, rfl, rfl, ⟨by decide, by decide, by decide⟩, _, _, rfl, rfl, _, _, rfl, ?_⟩
      refine ⟨_, rfl, _, _, rfl, rfl, (by show (0 : Int) < 2147483629; decide), _, rfl, _, _, rfl, rfl, .inl (by decide), _, _, rfl, rfl, _, _, rfl, rfl, by show 2 ≤ sizeLine; decide, fun p hp => ?_⟩
      exact q p _ hp ⟨_, _, upd_same, by omega, by omega⟩ fun b n => upd_ne n
theorem ok__law_pot {P : Program} {w : World} {K : PySem.W.Frag} {mg : Str → Option Value} {base : Heap} (T : Env K mg) : Fc P w K mg base 1 (He.ga K "_law_pot") [] (sp__law_pot K ) := by
  obtain ⟨fd, D, F⟩ := fb__law_pot T
  exact F.all (D.bindsN fun _ _ _ _ _ _ us hl => match us, hl with | [_, _], _ => rfl)
end
section
/-- the pot at p is drawn from: everything else stays -/
def PotOn (H H' : Hp) (p : Addr) : Prop := Pot H' p ∧ ∀ b o, b ≠ p → H b = some o → H' b = some o
theorem PotOn.refl {H : Hp} {p : Addr} (h : Pot H p) : PotOn H H p := ⟨h, fun _ _ _ e => e⟩
theorem PotOn.trans {H H1 H2 : Hp} {p : Addr} (a : PotOn H H1 p) (b : PotOn H1 H2 p) : PotOn H H2 p := ⟨b.1, fun c o n e => b.2 c o n (a.2 c o n e)⟩
def sp__law_draw (K : PySem.W.Frag) : Sp := fun vs H Q _ => ∃ (p : Addr) (n : Int), vs = [.ref p, .int n] ∧ Pot H p ∧ 0 < n ∧ n < 1073741824 ∧ ∀ (d : Int) H', 0 ≤ d → d < n → PotOn H H' p → Q (.int d) H'
theorem fb__law_draw {P : Program} {w : World} {K : PySem.W.Frag} {mg : Str → Option Value} {base : Heap} (T : Env K mg) : ∃ fd, FunD K "_law_draw" "_law_draw" (defArgs s__law_draw) (defBody s__law_draw) (defScope s__law_draw) [] [] (He.ga K "_law_draw") fd ∧ Fb P w K mg base 1 (He.ga K "_law_draw") fd ["_law_pot_here", "_law_many"] (sp__law_draw K) := by
  obtain ⟨fd, F⟩ := T.f__law_draw
  refine ⟨fd, F, fb_of F sc__law_draw (fun vs H Q E h => ?_) (fun cdv A outer s H vs Q E hr h => ?_)⟩
  · obtain ⟨p, n, rfl, _⟩ := h
    rfl
  · obtain ⟨p, n, rfl, ⟨a, b, hp, b0, b1⟩, n0, n1, q⟩ := h
    refine ⟨_, (pss_cons (ps_if (pt_cmpR op_gt (pe_ix ix_list (pv 0) pe_int (fun _ _ => rfl)) pe_int (nomark _))
      (pss_cons (ps_asg (pe_callB call_divmodW (by rfl) T.n_divmod (by decide +kernel) (pa_cons (pe_ix ix_list (pv 0) pe_int (fun _ _ => rfl)) (pa_cons (pv 1) pa_nil))) (pg_tup (by rfl) (pgs_cons (pg_sub (pv 0) pe_int set_list) (pgs_cons (pg_name (i := 2) sc__law_draw.nd rfl (Or.inl rfl)) pgs_nil))))
      (pss_one (ps_ret (pv 2))))
      pss_nil)
      (pss_cons (ps_asg (pe_op op_mod (pe_op op_add (pe_op op_mul (pe_ix ix_list (pv 0) pe_int (fun _ _ => rfl)) pe_int) pe_int) pe_int) (pg_sub (pv 0) pe_int set_list))
      (pss_one (ps_ret (pe_op op_mod (pe_op op_fdiv (pe_op op_mod (pe_op op_mul (pe_ix ix_list (pv 0) pe_int (fun _ _ => rfl)) (pe_ix ix_list (pv 0) pe_int (fun _ _ => rfl))) pe_int) pe_int) (pv 1)))))), ?_⟩
    refine ⟨_, rfl, p, _, _, .int a, rfl, rfl, sq_lst hp, rfl, _, _, rfl, rfl, _, rfl, ite2 (fun _ => ?_) (fun _ => ?_)⟩
    · refine ⟨_, rfl, p, _, _, .int a, rfl, rfl, sq_lst hp, rfl, _, rfl, a, n, rfl, ⟨n0, PyProof.noPylong_small (by omega)⟩, fun t ht => ?_⟩
      have pt : p ≠ t := ne_of_none hp ht
      refine ⟨t, _, rfl, sq_tup upd_same, rfl, _, _, rfl, _, rfl, p, [.int a, .int b], 0, 0, rfl, rfl, (by rw [upd_ne pt]; exact hp), rfl, _, _, rfl, rfl, _, rfl, ?_⟩
      refine q _ _ (Int.emod_nonneg _ (by omega)) (Int.emod_lt_of_pos _ n0) ⟨⟨_, _, upd_same, b0, b1⟩, fun x o nx e => ?_⟩
      rw [upd_ne nx, upd_ne (ne_of_none e ht)]
      exact e
    · refine ⟨_, rfl, p, _, _, .int b, rfl, rfl, sq_lst hp, rfl, _, _, rfl, rfl, .inr (by decide), _, _, rfl, rfl, _, _, rfl, rfl, (by show (0 : Int) < 2147483629; decide), _, rfl, p, _, 1, 1, rfl, rfl, hp, rfl, ?_⟩
      have m1 := Int.emod_nonneg (b * 48271 + 8191) (show (2147483629 : Int) ≠ 0 by decide)
      have m2 := Int.emod_lt_of_pos (b * 48271 + 8191) (show (0 : Int) < 2147483629 by decide)
      refine ⟨_, rfl, p, _, _, .int ((b * 48271 + 8191) % 2147483629), rfl, rfl, sq_lst upd_same, rfl, _, rfl, p, _, _, .int ((b * 48271 + 8191) % 2147483629), rfl, rfl, sq_lst upd_same, rfl, _, _, rfl, rfl, .inl ⟨by omega, by omega⟩, _, _, rfl, rfl, (by show (0 : Int) < 2147483587; decide), _, _, rfl, rfl, ⟨by decide, by decide⟩, _, rfl, _, _, rfl, rfl, n0, ?_⟩
      refine q _ _ (Int.emod_nonneg _ (by omega)) (Int.emod_lt_of_pos _ n0) ⟨⟨_, _, upd_same, m1, by omega⟩, fun x o nx e => ?_⟩
      rw [upd_ne nx]
      exact e
theorem PotOn.ex {H0 H H' : Hp} {p : Addr} (e : Ex H0 H) (n : H0 p = none) (P : PotOn H H' p) : Ex H0 H' := fun b o h => P.2 b o (ne_of_none h n) (e b o h)
theorem PotOn.ex2 {H H1 H2 : Hp} {p : Addr} (P : PotOn H H1 p) (e : Ex H1 H2) : PotOn H H2 p := by
  obtain ⟨⟨x, y, h, r⟩, k⟩ := P
  exact ⟨⟨x, y, e _ _ h, r⟩, fun b u nb h => e _ _ (k b u nb h)⟩
theorem pot_ne {H H' : Hp} {p l : Addr} (P : PotOn H H' p) (n : H' l = none) : l ≠ p := fun z => by
  obtain ⟨_, _, e, _⟩ := P.1
  rw [z, e] at n
  cases n
theorem at_mem {xs : List V} {i : Int} (h0 : 0 ≤ i) (h1 : i < (xs.length : Nat)) : ∃ x, x ∈ xs ∧ atI xs i = some x := by
  obtain ⟨n, rfl⟩ := Int.eq_ofNat_of_zero_le h0
  have hn : n < xs.length := Int.ofNat_lt.mp h1
  exact ⟨xs[n], List.getElem_mem hn, atI_nat (List.getElem?_eq_getElem hn)⟩
theorem PotOn.fresh {H H' : Hp} {p b : Addr} (P : PotOn H H' p) (n : H' b = none) : H b = none := by
  cases e : H b with
  | none => rfl
  | some o =>
    by_cases hb : b = p
    · obtain ⟨_, _, e2, _⟩ := P.1
      rw [hb, e2] at n
      cases n
    · rw [P.2 b o hb e] at n
      cases n
theorem pot_other {H : Hp} {p b : Addr} {o : HO} (hp : Pot H p) (h : H b = some o) (ho : ∀ x y : Int, o ≠ .lst [.int x, .int y]) : b ≠ p := fun w => by
  obtain ⟨x, y, e, _⟩ := hp
  rw [w, e] at h
  exact ho x y (Option.some.inj h).symm
theorem ok__law_draw {P : Program} {w : World} {K : PySem.W.Frag} {mg : Str → Option Value} {base : Heap} (T : Env K mg) : Fc P w K mg base 1 (He.ga K "_law_draw") [] (sp__law_draw K ) := by
  obtain ⟨fd, D, F⟩ := fb__law_draw T
  exact F.all (D.bindsN fun _ _ _ _ _ _ us hl => match us, hl with | [_, _], _ => rfl)
end
section
mutual
/-- at a what a law has drawn for a short -/
def DtAt (H : Hp) : Tr → Addr → Prop
  | .at n, a => H a = some (.tup [.str "at", .int (n : Nat)])
  | .ov ps m s, a => ∃ r as, H a = some (.tup [.str "over", .ref r, .int (m : Nat), .int (s : Nat)]) ∧ H r = some (.tup (as.map V.ref)) ∧ DtsAt H ps as
def DtsAt (H : Hp) : List Tr → List Addr → Prop
  | [], as => as = []
  | t :: ts, as => ∃ a r, as = a :: r ∧ DtAt H t a ∧ DtsAt H ts r
end
mutual
theorem DtAt.keep {H H' : Hp} (e : ∀ b xs, H b = some (.tup xs) → H' b = some (.tup xs)) : ∀ {t : Tr} {a : Addr}, DtAt H t a → DtAt H' t a
  | .at n, a, h => by
    unfold DtAt at h ⊢
    exact e _ _ h
  | .ov ps m s, a, h => by
    unfold DtAt at h ⊢
    obtain ⟨r, as, h1, h2, h3⟩ := h
    exact ⟨r, as, e _ _ h1, e _ _ h2, DtsAt.keep e h3⟩
theorem DtsAt.keep {H H' : Hp} (e : ∀ b xs, H b = some (.tup xs) → H' b = some (.tup xs)) : ∀ {ts : List Tr} {as : List Addr}, DtsAt H ts as → DtsAt H' ts as
  | [], as, h => by
    unfold DtsAt at h ⊢
    exact h
  | t :: ts, as, h => by
    unfold DtsAt at h ⊢
    obtain ⟨a, r, h1, h2, h3⟩ := h
    exact ⟨a, r, h1, DtAt.keep e h2, DtsAt.keep e h3⟩
end
theorem DtAt.mono {H H' : Hp} {t : Tr} {a : Addr} (h : DtAt H t a) (e : Ex H H') : DtAt H' t a := h.keep fun b xs z => e _ _ z
theorem DtsAt.mono {H H' : Hp} {ts : List Tr} {as : List Addr} (h : DtsAt H ts as) (e : Ex H H') : DtsAt H' ts as := h.keep fun b xs z => e _ _ z
theorem DtsAt.len {H : Hp} : ∀ {ts : List Tr} {as : List Addr}, DtsAt H ts as → as.length = ts.length
  | [], as, h => by
    unfold DtsAt at h
    rw [h]
    rfl
  | t :: ts, as, h => by
    unfold DtsAt at h
    obtain ⟨a, r, rfl, _, h3⟩ := h
    rw [List.length_cons, List.length_cons, DtsAt.len h3]
theorem DtsAt.get {H : Hp} : ∀ {ts : List Tr} {as : List Addr} {i : Nat} {a : Addr}, DtsAt H ts as → as[i]? = some a → ∃ t, ts[i]? = some t ∧ DtAt H t a
  | [], as, i, a, h, hi => by
    unfold DtsAt at h
    rw [h] at hi
    cases hi
  | t :: ts, as, i, a, h, hi => by
    unfold DtsAt at h
    obtain ⟨b, r, rfl, h2, h3⟩ := h
    cases i with
    | zero =>
      cases hi
      exact ⟨t, rfl, h2⟩
    | succ i => exact DtsAt.get (i := i) h3 hi
theorem DtsAt.snoc {H : Hp} {t : Tr} {a : Addr} : ∀ {ts : List Tr} {as : List Addr}, DtsAt H ts as → DtAt H t a → DtsAt H (ts ++ [t]) (as ++ [a])
  | [], as, h, ha => by
    unfold DtsAt at h
    rw [h]
    show DtsAt H [t] [a]
    unfold DtsAt
    exact ⟨a, [], rfl, ha, by unfold DtsAt; rfl⟩
  | x :: ts, as, h, ha => by
    unfold DtsAt at h
    obtain ⟨b, r, rfl, h2, h3⟩ := h
    show DtsAt H (x :: (ts ++ [t])) (b :: (r ++ [a]))
    unfold DtsAt
    exact ⟨b, r ++ [a], rfl, h2, DtsAt.snoc h3 ha⟩
def sp__law_moments (K : PySem.W.Frag) (d : Nat) : Sp := fun vs H Q _ => ∃ (a : Addr) (t : Tr), vs = [.ref a] ∧ DtAt H t a ∧ t.nest + 1 ≤ d ∧ t.ok ∧ t.moms.length ≤ 1440 ∧ ∀ p H', Ex H H' → H p = none → H' p = some (.lst (natV t.moms)) → Q (.ref p) H'
end
section
def sp__law_row_moments (K : PySem.W.Frag) (d : Nat) : Sp := fun vs H Q _ => ∃ (p : Addr) (as : List Addr) (ts : List Tr), vs = [.ref p] ∧ H p = some (.tup (as.map V.ref)) ∧ DtsAt H ts as ∧ (∀ t ∈ ts, t.nest + 1 ≤ d) ∧ okL_ ts ∧ (momsL ts).length ≤ 1440 ∧ ∀ t H', Ex H H' → H t = none → H' t = some (.lst (natV (momsL ts))) → Q (.ref t) H'
theorem fb__law_row_moments {P : Program} {w : World} {K : PySem.W.Frag} {mg : Str → Option Value} {base : Heap} (T : Env K mg) {d L : Nat} (hL : 40 ≤ L) (r__law_moments : Fc P w K mg base L (He.ga K "_law_moments") [] (sp__law_moments K d)) : ∃ fd, FunD K "_law_row_moments" "_law_row_moments" (defArgs s__law_row_moments) (defBody s__law_row_moments) (defScope s__law_row_moments) [] [] (He.ga K "_law_row_moments") fd ∧ Fb P w K mg base (L + 1) (He.ga K "_law_row_moments") fd ["_law_row_here"] (sp__law_row_moments K (d)) := by
  obtain ⟨fd, F⟩ := T.f__law_row_moments
  refine ⟨fd, F, fb_of F sc__law_row_moments (fun vs H Q E h => ?_) (fun cdv A outer s H vs Q E hr h => ?_)⟩
  · obtain ⟨p, as, ts, rfl, _⟩ := h
    rfl
  · obtain ⟨p, as, ts, rfl, hp, hA, hn, hok, hl, q⟩ := h
    refine ⟨_, (pss_cons (ps_set (i := 1) sc__law_row_moments.nd rfl (Or.inl rfl) (pe_lst pa_nil))
      (pss_cons (ps_for (passes_of rfl) rfl (pi_tup (pv 0)) (pg_name (i := 2) sc__law_row_moments.nd rfl (Or.inl rfl))
      (pss_one (ps_expr (pe_bm PySem.F.plainAttrs_list PySem.F.slot_list_extend PySem.F.type_list_extend mt_extend (pv 1) (pa_cons (c_call r__law_moments (hr.mono (by omega)) T.g__law_moments T.k__law_moments takes0 (pa_cons (pv 2) pa_nil)) pa_nil)))))
      (pss_one (ps_ret (pv 1))))), ?_⟩
    refine ⟨by show 0 ≤ sizeLine; decide, fun f nf => ?_⟩
    have X0 := ex_new (o := .lst []) nf
    have hl1 := hA.len
    have pf : p ≠ f := ne_of_none hp nf
    refine ⟨_, rfl, p, rfl, ⟨_, sq_tup (X0 _ _ hp)⟩, for_on as V.ref L2.walk_tup (fun i σ H' => Oth f H H' ∧ ∃ v2, σ = [some (.ref p), some (.ref f), v2] ∧ H' f = some (.lst (natV (momsL (ts.take i))))) ⟨ex_oth X0, _, rfl, upd_same⟩ (fun i σ H' z => sq_tup (z.1 _ _ pf hp)) ?_ ?_⟩
    · rintro i a σ H2 hx ⟨O2, v2, rfl, hf⟩
      obtain ⟨t, ht, hS⟩ := hA.get hx
      have htm := List.mem_of_getElem? ht
      have X2 : Ex H H2 := fun b o e => O2 b o (ne_of_none e nf) e
      have eT := momsL_take ht
      have bT := momsL_take_len ts (i + 1)
      rw [eT, List.length_append] at bT
      refine ⟨_, rfl, .inl ⟨rfl, _, sq_lst hf⟩, _, rfl, a, t, rfl, hS.mono X2, hn t htm, okL_mem hok htm, by omega, fun u H3 X3 nu hu => ?_⟩
      refine ⟨f, u, _, _, rfl, rfl, X3 _ _ hf, hu, sz_le (by rw [natV_len, natV_len]; omega), (O2.trans (ex_oth X3)).upd, _, rfl, ?_⟩
      rw [upd_same, eT]
      unfold natV
      rw [List.map_append]
    · rintro σ H2 ⟨O2, v2, rfl, hf⟩
      rw [List.take_of_length_le (by omega)] at hf
      exact ⟨_, rfl, q f H2 (fun b o e => O2 b o (ne_of_none e nf) e) nf hf⟩
theorem ok__law_row_moments {P : Program} {w : World} {K : PySem.W.Frag} {mg : Str → Option Value} {base : Heap} (T : Env K mg) {d L : Nat} (hL : 40 ≤ L) (r__law_moments : Fc P w K mg base L (He.ga K "_law_moments") [] (sp__law_moments K d)) : Fc P w K mg base (L + 1) (He.ga K "_law_row_moments") [] (sp__law_row_moments K (d)) := by
  obtain ⟨fd, D, F⟩ := fb__law_row_moments T hL r__law_moments
  exact F.all (D.bindsN fun _ _ _ _ _ _ us hl => match us, hl with | [_], _ => rfl)
end
section
theorem fb__law_moments {P : Program} {w : World} {K : PySem.W.Frag} {mg : Str → Option Value} {base : Heap} (T : Env K mg) {d L : Nat} (hL : 40 ≤ L) (r__law_moments : Fc P w K mg base L (He.ga K "_law_moments") [] (sp__law_moments K d)) : ∃ fd, FunD K "_law_moments" "_law_moments" (defArgs s__law_moments) (defBody s__law_moments) (defScope s__law_moments) [] [] (He.ga K "_law_moments") fd ∧ Fb P w K mg base (L + 2) (He.ga K "_law_moments") fd ["_law_short_here"] (sp__law_moments K (d + 1)) := by
  obtain ⟨fd, F⟩ := T.f__law_moments
  refine ⟨fd, F, fb_of F sc__law_moments (fun vs H Q E h => ?_) (fun cdv A outer s H vs Q E hr h => ?_)⟩
  · obtain ⟨a, t, rfl, _⟩ := h
    rfl
  · obtain ⟨a, t, rfl, hD, hn, hok, hl, q⟩ := h
    refine ⟨_, (pss_cons (ps_if (pt_cmpR op_eq (pe_ix ix_tup (pv 0) pe_int (fun _ _ => rfl)) pe_str (nomark _))
      (pss_one (ps_ret (pe_lst (pa_cons (pe_ix ix_tup (pv 0) pe_int (fun _ _ => rfl)) pa_nil))))
      pss_nil)
      (pss_cons (ps_set (i := 1) sc__law_moments.nd rfl (Or.inl rfl) (c_call (ok__law_row_moments T hL r__law_moments) (hr.mono (by omega)) T.g__law_row_moments T.k__law_row_moments takes0 (pa_cons (pe_ix ix_tup (pv 0) pe_int (fun _ _ => rfl)) pa_nil)))
      (pss_cons (ps_set (i := 2) sc__law_moments.nd rfl (Or.inl rfl) (pe_lst pa_nil))
      (pss_cons (ps_for (passes_of rfl) rfl (pi_range1 (by rfl) T.n_range (pa_cons (pe_ix ix_tup (pv 0) pe_int (fun _ _ => rfl)) pa_nil)) (pg_name (i := 3) sc__law_moments.nd rfl (Or.inr rfl))
      (pss_one (ps_expr (pe_bm PySem.F.plainAttrs_list PySem.F.slot_list_extend PySem.F.type_list_extend mt_extend (pv 2) (pa_cons (pe_lc (own := [("_law_moment", 4)]) (by rfl) sc__law_moments.nd (pi_list (pv 1)) (blkOk_by (own := [("_law_moment", 4)]) (N := ["_law_short_here", "_law_own", "_law_found", "_law_time_here", "_law_moment"]) (sc := defScope s__law_moments) (by decide +kernel)) (fun _ _ _ _ _ => (pg_name (i := 4) sc__law_moments.nd rfl (Or.inl rfl))) (fun _ _ _ _ _ => pts_nil) (fun _ _ _ _ _ => (pe_op op_add (pv 4) (pe_op op_mul (pv 3) (pe_ix (ix_tupK K) (pv 0) pe_int (fun _ _ => rfl)))))) pa_nil)))))
      (pss_one (ps_ret (pv 2))))))), ?_⟩
    cases t with
    | «at» n =>
      unfold DtAt at hD
      refine ⟨_, rfl, a, _, 0, _, rfl, rfl, sq_tup hD, rfl, rfl, _, rfl, iteT ?_⟩
      refine ⟨_, rfl, a, _, 1, _, rfl, rfl, sq_tup hD, rfl, by show 1 ≤ sizeLine; decide, fun p np => q p _ (ex_new np) np ?_⟩
      rw [upd_same]
      unfold Tr.moms
      rfl
    | ov ps m s_ =>
      unfold DtAt at hD
      obtain ⟨r, as, hD, hr2, hA⟩ := hD
      obtain ⟨_, m2, hm, hml, hl2, hpl, hokL⟩ := ov_facts hok
      unfold Tr.moms at q
      refine ⟨_, rfl, a, _, 0, _, rfl, rfl, sq_tup hD, rfl, rfl, _, rfl, iteF ?_⟩
      generalize hns : momsL ps = ns at *
      refine ⟨_, rfl, a, _, 1, _, rfl, rfl, sq_tup hD, rfl, r, as, ps, rfl, hr2, hA, fun t ht => ?_, hokL, by rw [hns]; exact hl2, fun w H1 X1 nw hw => ?_⟩
      · have := nestL_mem ht
        unfold Tr.nest at hn
        omega
      rw [hns] at hw
      refine ⟨by show 0 ≤ sizeLine; decide, fun f nf => ?_⟩
      have nf0 := ex_fresh X1 nf
      have X2 := X1.trans (ex_new (o := .lst []) nf)
      have wf : w ≠ f := ne_of_none hw nf
      have af : a ≠ f := ne_of_none hD nf0
      have ha2 := X2 _ _ hD
      have hw2 := ex_new (o := .lst []) nf _ _ hw
      have hf2 : upd H1 f (.lst []) f = some (.lst []) := upd_same
      generalize upd H1 f (.lst []) = H2 at X2 ha2 hw2 hf2 ⊢
      refine ⟨_, rfl, a, _, 2, _, rfl, rfl, sq_tup ha2, rfl, _, rfl, by omega, by omega, for_range (fun i σ H' => Oth f H2 H' ∧ ∃ v3 v4, σ = [some (.ref a), some (.ref w), some (.ref f), v3, v4] ∧ H' f = some (.lst (natV (overN ns i s_)))) ⟨Oth.refl _ _, _, _, rfl, hf2⟩ ?_ ?_⟩
      · rintro i σ H3 hi ⟨O3, v3, v4, rfl, hf3⟩
        have hi2 : i < m := by omega
        have hw3 := O3 _ _ wf hw2
        have ha3 := O3 _ _ af ha2
        have ll : (overN ns i s_).length = i * ns.length := overN_len ns i s_
        have l2 : i * ns.length ≤ m * ns.length := Nat.mul_le_mul_right _ (by omega)
        refine ⟨_, rfl, .inl ⟨rfl, _, sq_lst hf3⟩, _, rfl, w, rfl, ⟨_, sq_lst hw3⟩, fun A nA => lc_on ns (fun n : Nat => V.int n) L2.walk_list (fun n => some (.int ((n + i * s_ : Nat) : Int))) (fun H' => Ex H3 H') (fun H' z e => ex_mut e nA) (.refl _) (by omega) (fun H' e => sq_lst (e _ _ hw3)) (fun j n H4 acc N hn X4 hD la k => ?_) fun H4 X4 d4 => ?_⟩
        · refine ⟨rfl, _, rfl, _, rfl, _, rfl, a, _, 3, _, rfl, rfl, sq_tup (X4 _ _ ha3), rfl, _, _, rfl, rfl, .inl ⟨by omega, by omega⟩, _, _, rfl, rfl, acc, hD, la, ?_⟩
          have e : ((n : Nat) : Int) + (0 + ((i : Nat) : Int)) * ((s_ : Nat) : Int) = ((n + i * s_ : Nat) : Int) := by simp
          show N (upd H4 A (.lst (acc ++ [.int (((n : Nat) : Int) + (0 + ((i : Nat) : Int)) * ((s_ : Nat) : Int))])))
          rw [e]
          exact k H4 X4 hD
        · have ed : ns.filterMap (fun n => some (V.int ((n + i * s_ : Nat) : Int))) = natV (ns.map fun n => n + i * s_) := by
            unfold natV
            rw [List.filterMap_eq_map', List.map_map]
            rfl
          rw [ed] at d4
          refine ⟨f, A, _, _, rfl, rfl, X4 _ _ hf3, d4, sz_le (by rw [natV_len, natV_len, List.length_map, ll]; omega), (O3.trans (ex_oth X4)).upd, _, _, rfl, ?_⟩
          rw [upd_same, overN_succ]
          unfold natV
          rw [List.map_append]
      · rintro σ H3 ⟨O3, v3, v4, rfl, hf3⟩
        rw [show ((m : Nat) : Int).toNat = m by omega] at hf3
        exact ⟨_, rfl, q f H3 (Oth.ex X2 nf0 O3) nf0 hf3⟩
theorem ok__law_moments {P : Program} {w : World} {K : PySem.W.Frag} {mg : Str → Option Value} {base : Heap} (T : Env K mg) {d L : Nat} (hL : 40 ≤ L) (r__law_moments : Fc P w K mg base L (He.ga K "_law_moments") [] (sp__law_moments K d)) : Fc P w K mg base (L + 2) (He.ga K "_law_moments") [] (sp__law_moments K (d + 1)) := by
  obtain ⟨fd, D, F⟩ := fb__law_moments T hL r__law_moments
  exact F.all (D.bindsN fun _ _ _ _ _ _ us hl => match us, hl with | [_], _ => rfl)
theorem all__law_moments {P : Program} {w : World} {K : PySem.W.Frag} {mg : Str → Option Value} {base : Heap} (T : Env K mg) : ∀ d, Fc P w K mg base (40 + 2 * d) (He.ga K "_law_moments") [] (sp__law_moments K d)
  | 0 => fc_no fun vs H Q E h => by
    obtain ⟨a, t, _, _, h, _⟩ := h
    omega
  | d + 1 => ok__law_moments T (Nat.le_add_right 40 _) (all__law_moments T d)
end
section
def sp__law_wide (K : PySem.W.Frag) : Sp := fun vs H Q _ => ∃ p, vs = [.ref p] ∧ Pot H p ∧ ∀ (n : Nat) H', n < 10 ^ 50 → PotOn H H' p → Q (.int (n : Nat)) H'
theorem fb__law_wide {P : Program} {w : World} {K : PySem.W.Frag} {mg : Str → Option Value} {base : Heap} (T : Env K mg) : ∃ fd, FunD K "_law_wide" "_law_wide" (defArgs s__law_wide) (defBody s__law_wide) (defScope s__law_wide) [] [] (He.ga K "_law_wide") fd ∧ Fb P w K mg base 2 (He.ga K "_law_wide") fd ["_law_pot_here"] (sp__law_wide K) := by
  obtain ⟨fd, F⟩ := T.f__law_wide
  refine ⟨fd, F, fb_of F sc__law_wide (fun vs H Q E h => ?_) (fun cdv A outer s H vs Q E hr h => ?_)⟩
  · obtain ⟨p, rfl, _⟩ := h
    rfl
  · obtain ⟨p, rfl, hp, q⟩ := h
    refine ⟨_, (pss_cons (ps_set (i := 1) sc__law_wide.nd rfl (Or.inl rfl) pe_int)
      (pss_cons (ps_for (passes_of rfl) rfl (pi_range1 (by rfl) T.n_range (pa_cons pe_int pa_nil)) (pg_name (i := 2) sc__law_wide.nd rfl (Or.inl rfl))
      (pss_one (ps_set (i := 1) sc__law_wide.nd rfl (Or.inl rfl) (pe_op op_add (pe_op op_mul (pv 1) (pe_op op_pow pe_int pe_int)) (c_call (ok__law_draw T) (hr.mono (by decide)) T.g__law_draw T.k__law_draw takes0 (pa_cons (pv 0) (pa_cons (pe_op op_pow pe_int pe_int) pa_nil)))))))
      (pss_one (ps_ret (pe_op op_mod (pv 1) (pe_op op_pow pe_int pe_int)))))), ?_⟩
    refine ⟨_, rfl, by decide, by decide, for_range (fun i σ H' => PotOn H H' p ∧ ∃ (f : Nat) (v3 : Option V), σ = [some (.ref p), some (.int (f : Nat)), v3]) ⟨.refl hp, 0, _, rfl⟩ ?_ ?_⟩
    · rintro i σ H2 hi ⟨P2, f, v3, rfl⟩
      refine ⟨_, rfl, _, _, rfl, rfl, ⟨by decide, by decide, by decide⟩, _, _, rfl, rfl, .inr (by decide), _, rfl, _, _, rfl, rfl, ⟨by decide, by decide, by decide⟩, p, _, rfl, P2.1, by decide, by decide, fun d H3 d0 d1 P3 => ⟨_, _, rfl, rfl, P2.trans P3, ?_⟩⟩
      obtain ⟨n, rfl⟩ := Int.eq_ofNat_of_zero_le d0
      refine ⟨f * 10 ^ 9 + n, some (.int (0 + (i : Nat))), ?_⟩
      have e : ((f * 10 ^ 9 + n : Nat) : Int) = ((f : Nat) : Int) * (10 : Int) ^ (9 : Int).toNat + ((n : Nat) : Int) := by
        rw [Int.natCast_add, Int.natCast_mul]
        rfl
      rw [e]
      rfl
    · rintro σ H2 ⟨P2, f, v3, rfl⟩
      refine ⟨_, rfl, _, _, rfl, rfl, ⟨by decide, by decide, by decide⟩, _, _, rfl, rfl, (by show (0 : Int) < 10 ^ 50; decide), ?_⟩
      have e : ((f : Nat) : Int) % (10 : Int) ^ (50 : Int).toNat = ((f % 10 ^ 50 : Nat) : Int) := by
        rw [Int.natCast_emod]
        rfl
      show Q (.int (((f : Nat) : Int) % (10 : Int) ^ (50 : Int).toNat)) H2
      rw [e]
      exact q _ H2 (Nat.mod_lt _ (by decide +kernel)) P2
theorem ok__law_wide {P : Program} {w : World} {K : PySem.W.Frag} {mg : Str → Option Value} {base : Heap} (T : Env K mg) : Fc P w K mg base 2 (He.ga K "_law_wide") [] (sp__law_wide K ) := by
  obtain ⟨fd, D, F⟩ := fb__law_wide T
  exact F.all (D.bindsN fun _ _ _ _ _ _ us hl => match us, hl with | [_], _ => rfl)
end
section
def sp__law_gap (K : PySem.W.Frag) : Sp := fun vs H Q _ => ∃ p, vs = [.ref p] ∧ Pot H p ∧ ∀ (n : Nat) H', n < 10 ^ 50 → PotOn H H' p → Q (.int (n : Nat)) H'
theorem fb__law_gap {P : Program} {w : World} {K : PySem.W.Frag} {mg : Str → Option Value} {base : Heap} (T : Env K mg) : ∃ fd, FunD K "_law_gap" "_law_gap" (defArgs s__law_gap) (defBody s__law_gap) (defScope s__law_gap) [] [] (He.ga K "_law_gap") fd ∧ Fb P w K mg base 3 (He.ga K "_law_gap") fd ["_law_pot_here"] (sp__law_gap K) := by
  obtain ⟨fd, F⟩ := T.f__law_gap
  refine ⟨fd, F, fb_of F sc__law_gap (fun vs H Q E h => ?_) (fun cdv A outer s H vs Q E hr h => ?_)⟩
  · obtain ⟨p, rfl, _⟩ := h
    rfl
  · obtain ⟨p, rfl, hp, q⟩ := h
    refine ⟨_, (pss_cons (ps_set (i := 1) sc__law_gap.nd rfl (Or.inl rfl) (c_call (ok__law_draw T) (hr.mono (by decide)) T.g__law_draw T.k__law_draw takes0 (pa_cons (pv 0) (pa_cons pe_int pa_nil))))
      (pss_cons (ps_if (pt_cmpR op_lt (pv 1) pe_int (nomark _))
      (pss_one (ps_ret pe_int))
      pss_nil)
      (pss_cons (ps_if (pt_cmpR op_lt (pv 1) pe_int (nomark _))
      (pss_one (ps_ret (c_call (ok__law_draw T) (hr.mono (by decide)) T.g__law_draw T.k__law_draw takes0 (pa_cons (pv 0) (pa_cons pe_int pa_nil)))))
      pss_nil)
      (pss_cons (ps_if (pt_cmpR op_eq (pv 1) pe_int (nomark _))
      (pss_one (ps_ret (pe_op op_mul pe_int (c_call (ok__law_draw T) (hr.mono (by decide)) T.g__law_draw T.k__law_draw takes0 (pa_cons (pv 0) (pa_cons pe_int pa_nil))))))
      pss_nil)
      (pss_cons (ps_if (pt_cmpR op_eq (pv 1) pe_int (nomark _))
      (pss_one (ps_ret (c_call (ok__law_draw T) (hr.mono (by decide)) T.g__law_draw T.k__law_draw takes0 (pa_cons (pv 0) (pa_cons pe_int pa_nil)))))
      pss_nil)
      (pss_cons (ps_if (pt_cmpR op_eq (pv 1) pe_int (nomark _))
      (pss_one (ps_ret (pe_op op_mul pe_int (c_call (ok__law_draw T) (hr.mono (by decide)) T.g__law_draw T.k__law_draw takes0 (pa_cons (pv 0) (pa_cons pe_int pa_nil))))))
      pss_nil)
      (pss_one (ps_ret (c_call (ok__law_wide T) (hr.mono (by decide)) T.g__law_wide T.k__law_wide takes0 (pa_cons (pv 0) pa_nil)))))))))), ?_⟩
    have big : ∀ {n : Nat}, n ≤ 1000000 → n < 10 ^ 50 := fun {n} h => Nat.lt_of_le_of_lt h (by decide +kernel)
    refine ⟨_, rfl, p, 9, rfl, hp, by decide, by decide, fun way H1 w0 w1 P1 => ?_⟩
    refine ⟨_, rfl, _, _, rfl, rfl, _, rfl, ite2 (fun _ => ?_) (fun _ => ?_)⟩
    · exact q 0 H1 (by decide +kernel) P1
    refine ⟨_, rfl, _, _, rfl, rfl, _, rfl, ite2 (fun _ => ?_) (fun _ => ?_)⟩
    · refine ⟨_, rfl, p, 6, rfl, P1.1, by decide, by decide, fun d H2 d0 d1 P2 => ?_⟩
      obtain ⟨n, rfl⟩ := Int.eq_ofNat_of_zero_le d0
      exact q n H2 (big (by omega)) (P1.trans P2)
    refine ⟨_, rfl, rfl, _, rfl, ite2 (fun _ => ?_) (fun _ => ?_)⟩
    · refine ⟨_, rfl, p, 24, rfl, P1.1, by decide, by decide, fun d H2 d0 d1 P2 => ⟨_, _, rfl, rfl, .inl (by decide), ?_⟩⟩
      obtain ⟨n, rfl⟩ := Int.eq_ofNat_of_zero_le d0
      have e : (60 : Int) * ((n : Nat) : Int) = ((60 * n : Nat) : Int) := by omega
      show Q (.int ((60 : Int) * ((n : Nat) : Int))) H2
      rw [e]
      exact q _ H2 (big (by omega)) (P1.trans P2)
    refine ⟨_, rfl, rfl, _, rfl, ite2 (fun _ => ?_) (fun _ => ?_)⟩
    · refine ⟨_, rfl, p, 1440, rfl, P1.1, by decide, by decide, fun d H2 d0 d1 P2 => ?_⟩
      obtain ⟨n, rfl⟩ := Int.eq_ofNat_of_zero_le d0
      exact q n H2 (big (by omega)) (P1.trans P2)
    refine ⟨_, rfl, rfl, _, rfl, ite2 (fun _ => ?_) (fun _ => ?_)⟩
    · refine ⟨_, rfl, p, 100, rfl, P1.1, by decide, by decide, fun d H2 d0 d1 P2 => ⟨_, _, rfl, rfl, .inl (by decide), ?_⟩⟩
      obtain ⟨n, rfl⟩ := Int.eq_ofNat_of_zero_le d0
      have e : (1440 : Int) * ((n : Nat) : Int) = ((1440 * n : Nat) : Int) := by omega
      show Q (.int ((1440 : Int) * ((n : Nat) : Int))) H2
      rw [e]
      exact q _ H2 (big (by omega)) (P1.trans P2)
    exact ⟨_, rfl, p, rfl, P1.1, fun n H2 hn P2 => q n H2 hn (P1.trans P2)⟩
theorem ok__law_gap {P : Program} {w : World} {K : PySem.W.Frag} {mg : Str → Option Value} {base : Heap} (T : Env K mg) : Fc P w K mg base 3 (He.ga K "_law_gap") [] (sp__law_gap K ) := by
  obtain ⟨fd, D, F⟩ := fb__law_gap T
  exact F.all (D.bindsN fun _ _ _ _ _ _ us hl => match us, hl with | [_], _ => rfl)
end
section
abbrev GAP : Nat := 10 ^ 51
theorem okL_snoc {t : Tr} : ∀ {ts : List Tr}, okL_ ts → t.ok → okL_ (ts ++ [t])
  | [], _, h => by
    show okL_ [t]
    unfold okL_
    exact ⟨h, by unfold okL_; trivial⟩
  | x :: r, h, ht => by
    unfold okL_ at h
    show okL_ (x :: (r ++ [t]))
    unfold okL_
    exact ⟨h.1, okL_snoc h.2 ht⟩
theorem risB_snoc {t : Tr} : ∀ {ts : List Tr}, okL_ ts → risB ts = true → (ts ≠ [] → (momsL ts).getLastD 0 < t.moms.headD 0) → risB (ts ++ [t]) = true
  | [], _, _, _ => rfl
  | [x], h, _, hb => by
    have hb := hb (by simp)
    have e : momsL [x] = x.moms := by simp [momsL]
    rw [e] at hb
    show (decide (x.moms.getLastD 0 < t.moms.headD 0) && true) = true
    rw [decide_eq_true hb]
    rfl
  | x :: y :: r, h, hr, hb => by
    obtain ⟨h1, h2⟩ := risB_cons hr
    have hok : okL_ (y :: r) := by
      unfold okL_ at h
      exact h.2
    have e : momsL (x :: y :: r) = x.moms ++ momsL (y :: r) := by rw [momsL]
    have ih := risB_snoc hok h2 fun _ => by
      have hb := hb (by simp)
      rw [e, lastD_app (momsL_ne hok (by simp))] at hb
      exact hb
    show (decide (x.moms.getLastD 0 < y.moms.headD 0) && risB (y :: r ++ [t])) = true
    rw [decide_eq_true h1, ih]
    rfl
theorem momsL_snoc (ts : List Tr) (t : Tr) : momsL (ts ++ [t]) = momsL ts ++ t.moms := by
  have e : momsL [t] = t.moms := by simp [momsL]
  rw [momsL_app, e]
theorem at_lastN {ns : List Nat} (h : ns ≠ []) : atI (natV ns) (-1) = some (.int ((ns.getLastD 0 : Nat) : Int)) := by
  have e := List.dropLast_concat_getLast h
  have e2 : ns.getLastD 0 = ns.getLast h := by
    rw [List.getLastD_eq_getLast?, List.getLast?_eq_some_getLast h]
    rfl
  rw [e2]
  have e3 : natV ns = natV ns.dropLast ++ [.int ((ns.getLast h : Nat) : Int)] := by
    unfold natV
    rw [← List.map_singleton (f := fun n : Nat => V.int (n : Int)), ← List.map_append, e]
  rw [e3]
  exact atI_last _ _
theorem at_headN {ns : List Nat} (h : ns ≠ []) : atI (natV ns) 0 = some (.int ((ns.headD 0 : Nat) : Int)) := by
  cases ns with
  | nil => exact absurd rfl h
  | cons x r => exact atI_nat (j := 0) rfl
theorem nestL_le {d : Nat} : ∀ {ts : List Tr}, (∀ t ∈ ts, t.nest ≤ d) → nestL ts ≤ d
  | [], _ => by
    unfold nestL
    exact Nat.zero_le _
  | t :: r, h => by
    unfold nestL
    have h1 := h t List.mem_cons_self
    have h2 := nestL_le (ts := r) fun x hx => h x (List.mem_cons_of_mem _ hx)
    exact Nat.max_le.mpr ⟨h1, h2⟩
theorem over_bound {at_ la st m' len V G : Nat} (h1 : la + 1 ≤ at_ + len * V) (h2 : st ≤ len * V + G) (hl : 1 ≤ len) : la + m' * st + 1 ≤ at_ + (m' + 1) * len * (V + G) := by
  have e1 : m' * st ≤ m' * (len * V) + m' * G := by
    rw [← Nat.mul_add]
    exact Nat.mul_le_mul_left _ h2
  have e2 : (m' + 1) * len * (V + G) = m' * (len * V) + len * V + (m' + 1) * len * G := by
    rw [Nat.mul_add, Nat.mul_assoc (m' + 1) len V, Nat.add_mul m' 1 (len * V), Nat.one_mul]
  have e3 : m' * G ≤ (m' + 1) * len * G := Nat.mul_le_mul_right _ (Nat.le_trans (Nat.le_succ _) (Nat.le_mul_of_pos_right _ hl))
  omega
theorem momsL_mem {t : Tr} {n : Nat} : ∀ {ts : List Tr}, t ∈ ts → n ∈ t.moms → n ∈ momsL ts
  | x :: r, h, hn => by
    rw [momsL, List.mem_append]
    rcases List.mem_cons.mp h with rfl | h
    · exact .inl hn
    · exact .inr (momsL_mem h hn)
theorem momsL_le {t : Tr} : ∀ {ts : List Tr}, t ∈ ts → t.moms.length ≤ (momsL ts).length
  | x :: r, h => by
    rw [momsL, List.length_append]
    rcases List.mem_cons.mp h with rfl | h
    · omega
    · have := momsL_le h
      omega
end
section
/-- the pot at p and the list at l are drawn from: everything else stays -/
def PotL (H H' : Hp) (p l : Addr) : Prop := Pot H' p ∧ ∀ b o, b ≠ p → b ≠ l → H b = some o → H' b = some o
theorem PotL.refl {H : Hp} {p l : Addr} (h : Pot H p) : PotL H H p l := ⟨h, fun _ _ _ _ e => e⟩
theorem PotL.trans {H H1 H2 : Hp} {p l : Addr} (a : PotL H H1 p l) (b : PotL H1 H2 p l) : PotL H H2 p l := ⟨b.1, fun c o n1 n2 e => b.2 c o n1 n2 (a.2 c o n1 n2 e)⟩
theorem PotL.on {H H1 H2 : Hp} {p l : Addr} (a : PotL H H1 p l) (b : PotOn H1 H2 p) : PotL H H2 p l := ⟨b.1, fun c o n1 n2 e => b.2 c o n1 (a.2 c o n1 n2 e)⟩
theorem PotL.ex {H H1 H2 : Hp} {p l : Addr} (a : PotL H H1 p l) (e : Ex H1 H2) : PotL H H2 p l := by
  obtain ⟨⟨x, y, h, r⟩, k⟩ := a
  exact ⟨⟨x, y, e _ _ h, r⟩, fun b o n1 n2 h => e _ _ (k b o n1 n2 h)⟩
theorem PotL.put {H H1 : Hp} {p l : Addr} {o : HO} (a : PotL H H1 p l) (n : l ≠ p) : PotL H (upd H1 l o) p l := by
  obtain ⟨⟨x, y, h, r⟩, k⟩ := a
  refine ⟨⟨x, y, by rw [upd_ne (Ne.symm n)]; exact h, r⟩, fun b u n1 n2 h => ?_⟩
  rw [upd_ne n2]
  exact k b u n1 n2 h
theorem PotL.put2 {H H1 : Hp} {p l f : Addr} {o : HO} (a : PotL H H1 p l) (nf : H f = none) (n : f ≠ p) : PotL H (upd H1 f o) p l := by
  obtain ⟨⟨x, y, h, r⟩, k⟩ := a
  refine ⟨⟨x, y, by rw [upd_ne (Ne.symm n)]; exact h, r⟩, fun b u n1 n2 h => ?_⟩
  rw [upd_ne (ne_of_none h nf)]
  exact k b u n1 n2 h
theorem potL_ne {H H' : Hp} {p l f : Addr} (P : PotL H H' p l) (n : H' f = none) : f ≠ p := fun z => by
  obtain ⟨_, _, e, _⟩ := P.1
  rw [z, e] at n
  cases n
/-- tuples stay -/
theorem PotL.tup {H H' : Hp} {p l : Addr} {ys : List V} (hp : Pot H p) (hl : H l = some (.lst ys)) (P : PotL H H' p l) : ∀ b xs, H b = some (.tup xs) → H' b = some (.tup xs) := fun b xs e => by
  obtain ⟨x, y, h, _⟩ := hp
  exact P.2 _ _ (fun z => by rw [z, h] at e; cases e) (fun z => by rw [z, hl] at e; cases e) e
def sp__law_short (K : PySem.W.Frag) (d : Nat) : Sp := fun vs H Q _ => ∃ (p l : Addr) (at_ room deep : Nat) (k : Int), vs = [.ref p, .int (at_ : Nat), .int (room : Nat), .int (deep : Nat), .ref l] ∧ Pot H p ∧ H l = some (.lst [.int k]) ∧ l ≠ p ∧ 1 ≤ room ∧ room ≤ 1440 ∧ deep ≤ 8 ∧ deep + 1 ≤ d ∧ 1 ≤ k ∧ ∀ (a : Addr) (t : Tr) (k' : Int) H', DtAt H' t a → 0 ≤ k' → (t.pcs : Int) + k' ≤ k → t.ok → t.nest ≤ deep → t.moms.headD 0 = at_ → t.moms.length ≤ room → t.moms.getLastD 0 + 1 ≤ at_ + t.moms.length * ((2 * deep + 1) * GAP) → H' l = some (.lst [.int k']) → PotL H H' p l → Q (.ref a) H'
def sp__law_row (K : PySem.W.Frag) (d : Nat) : Sp := fun vs H Q _ => ∃ (p l : Addr) (at_ room deep : Nat) (k : Int), vs = [.ref p, .int (at_ : Nat), .int (room : Nat), .int (deep : Nat), .ref l] ∧ Pot H p ∧ H l = some (.lst [.int k]) ∧ l ≠ p ∧ 1 ≤ room ∧ room ≤ 1440 ∧ deep ≤ 8 ∧ deep + 1 ≤ d ∧ 1 ≤ k ∧ ∀ (r : Addr) (as : List Addr) (ts : List Tr) (k' : Int) H', 0 ≤ k' → (pcsL ts : Int) + k' ≤ k → H' r = some (.tup (as.map V.ref)) → DtsAt H' ts as → ts ≠ [] → okL_ ts → (∀ t ∈ ts, t.nest ≤ deep) → risB ts = true → (momsL ts).headD 0 = at_ → (momsL ts).length ≤ room → (momsL ts).getLastD 0 + 1 ≤ at_ + (momsL ts).length * ((2 * deep + 2) * GAP) → H' l = some (.lst [.int k']) → PotL H H' p l → Q (.ref r) H'
theorem tup_on {H H' : Hp} {p : Addr} (hp : Pot H p) (P : PotOn H H' p) : ∀ b xs, H b = some (.tup xs) → H' b = some (.tup xs) := fun b xs e => P.2 _ _ (pot_other hp e (fun _ _ z => by cases z)) e
theorem tup_upd {H : Hp} {f : Addr} {ys : List V} {o : HO} (hf : H f = some (.lst ys)) : ∀ b xs, H b = some (.tup xs) → upd H f o b = some (.tup xs) := fun b xs e => by
  rw [upd_ne (fun z => by rw [z, hf] at e; cases e)]
  exact e
end
section
theorem fb__law_row {P : Program} {w : World} {K : PySem.W.Frag} {mg : Str → Option Value} {base : Heap} (T : Env K mg) {d L : Nat} (hL : 60 ≤ L) (r__law_short : Fc P w K mg base L (He.ga K "_law_short") [] (sp__law_short K d)) : ∃ fd, FunD K "_law_row" "_law_row" (defArgs s__law_row) (defBody s__law_row) (defScope s__law_row) [] [] (He.ga K "_law_row") fd ∧ Fb P w K mg base (L + 1) (He.ga K "_law_row") fd ["_law_pot_here", "_law_at", "_law_room", "_law_deep", "_law_left"] (sp__law_row K (d)) := by
  obtain ⟨fd, F⟩ := T.f__law_row
  refine ⟨fd, F, fb_of F sc__law_row (fun vs H Q E h => ?_) (fun cdv A outer s H vs Q E hr h => ?_)⟩
  · obtain ⟨p, l, at_, room, deep, k, rfl, _⟩ := h
    rfl
  · obtain ⟨p, l, at_, room, deep, k, rfl, hp, hl, lp, r1, r2, d8, dd, k1, q⟩ := h
    refine ⟨_, (pss_cons (ps_set (i := 5) sc__law_row.nd rfl (Or.inl rfl) (pe_lst pa_nil))
      (pss_cons (ps_set (i := 6) sc__law_row.nd rfl (Or.inl rfl) (pv 1))
      (pss_cons (ps_set (i := 7) sc__law_row.nd rfl (Or.inl rfl) (pe_op op_add pe_int (c_call (ok__law_draw T) (hr.mono (by omega)) T.g__law_draw T.k__law_draw takes0 (pa_cons (pv 0) (pa_cons (pe_callB (call_min2 rfl) (by rfl) T.n_min (by decide +kernel) (pa_cons pe_int (pa_cons (pv 2) pa_nil))) pa_nil)))))
      (pss_cons (ps_for (passes_of rfl) rfl (pi_range1 (by rfl) T.n_range (pa_cons (pv 7) pa_nil)) (pg_name (i := 8) sc__law_row.nd rfl (Or.inl rfl))
      (pss_one (ps_if (PW.pt (pw_or (pt_cmpR op_eq (pv 8) pe_int (nomark _)) (pw_or1 (pt_cmpR op_gt (pe_ix ix_list (pv 4) pe_int (fun _ _ => rfl)) pe_int (nomark _)))))
      (pss_cons (ps_set (i := 9) sc__law_row.nd rfl (Or.inl rfl) (c_call r__law_short (hr.mono (by omega)) T.g__law_short T.k__law_short takes0 (pa_cons (pv 0) (pa_cons (pv 6) (pa_cons (pe_op op_fdiv (pv 2) (pv 7)) (pa_cons (pv 3) (pa_cons (pv 4) pa_nil)))))))
      (pss_cons (ps_expr (pe_bm PySem.F.plainAttrs_list PySem.F.slot_list_append PySem.F.type_list_append mt_append (pv 5) (pa_cons (pv 9) pa_nil)))
      (pss_one (ps_set (i := 6) sc__law_row.nd rfl (Or.inl rfl) (pe_op op_add (pe_op op_add (pe_ix ix_list (c_call (all__law_moments T 9) (hr.mono (by omega)) T.g__law_moments T.k__law_moments takes0 (pa_cons (pv 9) pa_nil)) (pe_un un_neg pe_int) (fun _ _ => rfl)) pe_int) (c_call (ok__law_gap T) (hr.mono (by omega)) T.g__law_gap T.k__law_gap takes0 (pa_cons (pv 0) pa_nil)))))))
      pss_nil)))
      (pss_one (ps_ret (pe_callTy call_tuple_of (by rfl) T.n_tuple (by decide +kernel) (pa_cons (pv 5) pa_nil)))))))), ?_⟩
    refine ⟨by show 0 ≤ sizeLine; decide, fun f nf => ?_⟩
    have fp : f ≠ p := potL_ne (.refl hp (l := l)) nf
    have fl : f ≠ l := fun z => by rw [z, hl] at nf; cases nf
    have P1 : PotL H (upd H f (.lst [])) p l := (PotL.refl hp).ex (ex_new nf)
    have hf1 : upd H f (.lst []) f = some (.lst []) := upd_same
    have hl1 : upd H f (.lst []) l = some (.lst [.int k]) := ex_new nf _ _ hl
    generalize upd H f (.lst []) = H1 at P1 hf1 hl1 ⊢
    refine ⟨_, rfl, ?_⟩
    have em : (if ((room : Nat) : Int) < 3 then ((room : Nat) : Int) else 3) = ((min 3 room : Nat) : Int) := by split <;> omega
    refine ⟨_, rfl, _, rfl, _, _, rfl, p, _, rfl, P1.1, by rw [em]; omega, by rw [em]; omega, fun dv H2 d0 d1 P2 => ⟨_, _, rfl, rfl, ?_⟩⟩
    rw [em] at d1
    obtain ⟨e, rfl⟩ := Int.eq_ofNat_of_zero_le d0
    obtain ⟨mny, hmny⟩ : ∃ n : Nat, n = 1 + e := ⟨_, rfl⟩
    have e1 : (1 : Int) + ((e : Nat) : Int) = ((mny : Nat) : Int) := by omega
    have mn1 : 1 ≤ mny ∧ mny ≤ 3 ∧ mny ≤ room := by omega
    have P2' := P1.on P2
    have rq : 1 ≤ room / mny := (Nat.le_div_iff_mul_le (by omega)).mpr (by omega)
    have rq2 : room / mny ≤ 1440 := Nat.le_trans (Nat.div_le_self _ _) r2
    have rq3 : mny * (room / mny) ≤ room := Nat.mul_div_le _ _
    obtain ⟨W, hW⟩ : ∃ W, W = (2 * deep + 1) * GAP := ⟨_, rfl⟩
    have hW2 : (2 * deep + 2) * GAP = W + GAP := by rw [hW, ← Nat.succ_mul]
    refine ⟨_, rfl, _, rfl, by show -(2 ^ 62) ≤ (1 : Int) + ((e : Nat) : Int); omega, by show (1 : Int) + ((e : Nat) : Int) < 2 ^ 62; omega, for_range (fun i σ H' => PotL H H' p l ∧ ∃ (ts : List Tr) (as : List Addr) (here : Nat) (k' : Int) (v8 v9 : Option V), H' f = some (.lst (as.map V.ref)) ∧ DtsAt H' ts as ∧ okL_ ts ∧ (∀ t ∈ ts, t.nest ≤ deep) ∧ risB ts = true ∧ (i = 0 → ts = [] ∧ here = at_) ∧ (0 < i → ts ≠ []) ∧ (ts ≠ [] → (momsL ts).headD 0 = at_ ∧ (momsL ts).getLastD 0 < here ∧ (momsL ts).getLastD 0 + 1 ≤ at_ + (momsL ts).length * (W + GAP)) ∧ here ≤ at_ + (momsL ts).length * (W + GAP) ∧ (momsL ts).length ≤ i * (room / mny) ∧ ts.length ≤ i ∧ 0 ≤ k' ∧ (pcsL ts : Int) + k' ≤ k ∧ (i = 0 → k' = k) ∧ H' l = some (.lst [.int k']) ∧ σ = [some (.ref p), some (.int (at_ : Nat)), some (.int (room : Nat)), some (.int (deep : Nat)), some (.ref l), some (.ref f), some (.int (here : Nat)), some (.int ((1 : Int) + ((e : Nat) : Int))), v8, v9]) ⟨P2', [], [], at_, k, _, _, P2.2 _ _ fp hf1, by unfold DtsAt; rfl, by unfold okL_; trivial, (fun t z => nomatch z), rfl, fun _ => ⟨rfl, rfl⟩, fun z => absurd z (Nat.lt_irrefl _), fun z => absurd rfl z, by omega, Nat.zero_le _, Nat.le_refl _, by omega, by simp [pcsL], fun _ => rfl, P2.2 _ _ lp hl1, rfl⟩ ?_ ?_⟩
    · rintro i σ H3 hi ⟨P3, ts, as, here, k', v8, v9, hf, hD, hok, hne, hri, hi0, hi1, hfa, hhe, hle, htl, kz, kp, ki, hl3, rfl⟩
      have hi' : i < mny := by omega
      have draw : 1 ≤ k' → (tSeq (tAsg (tFc (sp__law_short K d) (fun _ _ _ _ => False) (tCons (tVar 0) (tCons (tVar 6) (tCons (tOp (rI CDiv fun i j => V.int (i / j)) (tVar 2) (tVar 7)) (tCons (tVar 3) (tCons (tVar 4) tNil)))))) (gName 9)) (tSeq (tDrop (tBM K "list" rAppend (tVar 5) (tCons (tVar 9) tNil))) (tAsg (tOp (rI0 fun i j => V.int (i + j)) (tOp (rI0 fun i j => V.int (i + j)) (tOp (rIxL K) (tFc (sp__law_moments K 9) (fun _ _ _ _ => False) (tCons (tVar 9) tNil)) (tUn (rU fun i => V.int (-i)) (tC (V.int 1)))) (tC (V.int 1))) (tFc (sp__law_gap K) (fun _ _ _ _ => False) (tCons (tVar 0) tNil))) (gName 6)))) { nx := fun σ H' => PotL H H' p l ∧ ∃ (ts : List Tr) (as : List Addr) (here : Nat) (k' : Int) (v8 v9 : Option V), H' f = some (.lst (as.map V.ref)) ∧ DtsAt H' ts as ∧ okL_ ts ∧ (∀ t ∈ ts, t.nest ≤ deep) ∧ risB ts = true ∧ (i + 1 = 0 → ts = [] ∧ here = at_) ∧ (0 < i + 1 → ts ≠ []) ∧ (ts ≠ [] → (momsL ts).headD 0 = at_ ∧ (momsL ts).getLastD 0 < here ∧ (momsL ts).getLastD 0 + 1 ≤ at_ + (momsL ts).length * (W + GAP)) ∧ here ≤ at_ + (momsL ts).length * (W + GAP) ∧ (momsL ts).length ≤ (i + 1) * (room / mny) ∧ ts.length ≤ i + 1 ∧ 0 ≤ k' ∧ (pcsL ts : Int) + k' ≤ k ∧ (i + 1 = 0 → k' = k) ∧ H' l = some (.lst [.int k']) ∧ σ = [some (.ref p), some (.int (at_ : Nat)), some (.int (room : Nat)), some (.int (deep : Nat)), some (.ref l), some (.ref f), some (.int (here : Nat)), some (.int ((1 : Int) + ((e : Nat) : Int))), v8, v9], rt := Q } [some (.ref p), some (.int (at_ : Nat)), some (.int (room : Nat)), some (.int (deep : Nat)), some (.ref l), some (.ref f), some (.int (here : Nat)), some (.int ((1 : Int) + ((e : Nat) : Int))), some (.int (0 + (i : Nat))), v9] H3 := fun kk => by
        have ed : ((room : Nat) : Int) / ((1 : Int) + ((e : Nat) : Int)) = ((room / mny : Nat) : Int) := by
          rw [e1]
          exact (Int.natCast_ediv room mny).symm
        refine ⟨_, rfl, _, rfl, _, rfl, _, rfl, _, _, rfl, rfl, ⟨by omega, by omega⟩, _, rfl, _, rfl, p, l, here, room / mny, deep, k', by rw [← ed], P3.1, hl3, lp, rq, rq2, d8, dd, kk, fun a t k2 H4 hDt kz2 kp2 htok htn hth htl2 htb hl4 P4 => ?_⟩
        have P34 := P3.trans P4
        have hf4 := P4.2 _ _ fp fl hf
        have hD4 : DtsAt H4 ts as := hD.keep (P4.tup P3.1 hl3)
        have al := hD.len
        have B1 := pos_moms t htok
        refine ⟨_, rfl, .inl ⟨rfl, _, sq_lst hf4⟩, _, rfl, f, _, _, rfl, rfl, hf4, small_len (by rw [List.length_map]; omega), ?_⟩
        have P5 := P34.put2 (o := .lst (as.map V.ref ++ [.ref a])) nf fp
        have hf5 : upd H4 f (.lst (as.map V.ref ++ [.ref a])) f = some (.lst ((as ++ [a]).map V.ref)) := by rw [upd_same, List.map_append]; rfl
        have hl5 : upd H4 f (.lst (as.map V.ref ++ [.ref a])) l = some (.lst [.int k2]) := by rw [upd_ne (Ne.symm fl)]; exact hl4
        have hDt5 : DtAt (upd H4 f (.lst (as.map V.ref ++ [.ref a]))) t a := hDt.keep (tup_upd hf4)
        have hD5 : DtsAt (upd H4 f (.lst (as.map V.ref ++ [.ref a]))) (ts ++ [t]) (as ++ [a]) := (hD4.keep (tup_upd hf4)).snoc hDt5
        generalize upd H4 f (.lst (as.map V.ref ++ [.ref a])) = H5 at P5 hf5 hl5 hDt5 hD5 ⊢
        refine ⟨_, rfl, a, t, rfl, hDt5, by omega, htok, by omega, fun u H6 X6 nu hu => ?_⟩
        have P6 := P5.ex X6
        refine ⟨_, rfl, u, _, _, _, rfl, rfl, sq_lst hu, at_lastN (moms_ne htok), _, _, rfl, rfl, _, rfl, p, rfl, P6.1, fun g H7 hg P7 => ⟨_, _, rfl, rfl, ?_⟩⟩
        have lenE : (momsL (ts ++ [t])).length = (momsL ts).length + t.moms.length := by rw [momsL_snoc, List.length_append]
        have eM : ((momsL ts).length + t.moms.length) * (W + GAP) = (momsL ts).length * (W + GAP) + (t.moms.length * W + t.moms.length * GAP) := by rw [Nat.add_mul, Nat.mul_add t.moms.length]
        have eG : GAP ≤ t.moms.length * GAP := Nat.le_mul_of_pos_left _ B1
        have gG : g < GAP := Nat.lt_trans hg (by decide +kernel)
        have tne : ts ++ [t] ≠ [] := by simp
        have lastE : (momsL (ts ++ [t])).getLastD 0 = t.moms.getLastD 0 := by rw [momsL_snoc, lastD_app (moms_ne htok)]
        have htb' : t.moms.getLastD 0 + 1 ≤ here + t.moms.length * W := by rw [hW]; exact htb
        refine ⟨P6.on P7, ts ++ [t], as ++ [a], t.moms.getLastD 0 + 1 + g, k2, some (.int (0 + (i : Nat))), some (.ref a), P7.2 _ _ fp (X6 _ _ hf5), (hD5.mono X6).keep (tup_on P6.1 P7), okL_snoc hok htok, fun x hx => ?_, risB_snoc hok hri fun z => by rw [hth]; exact (hfa z).2.1, fun z => by omega, fun _ => tne, fun _ => ⟨?_, by rw [lastE]; omega, by rw [lastE, lenE, eM]; omega⟩, by rw [lenE, eM]; omega, ?_, by rw [List.length_append]; show _ + 1 ≤ _; omega, kz2, by rw [pcsL_app, show pcsL [t] = t.pcs by simp [pcsL]]; omega, (fun z => by omega), P7.2 _ _ lp (X6 _ _ hl5), ?_⟩
        · rcases List.mem_append.mp hx with hx | hx
          · exact hne x hx
          · rw [List.mem_singleton.mp hx]
            exact htn
        · by_cases t0 : ts = []
          · subst t0
            have : i = 0 := Decidable.by_contra fun z => hi1 (by omega) rfl
            rw [momsL_snoc]
            show t.moms.headD 0 = at_
            rw [hth]
            exact (hi0 this).2
          · rw [momsL_snoc, headD_app (momsL_ne hok t0)]
            exact (hfa t0).1
        · rw [lenE, Nat.add_mul, Nat.one_mul]
          omega
        · have e9 : ((t.moms.getLastD 0 + 1 + g : Nat) : Int) = ((t.moms.getLastD 0 : Nat) : Int) + 1 + ((g : Nat) : Int) := by omega
          rw [e9]
          rfl
      refine ⟨_, rfl, rfl, _, rfl, ite2 (fun cz => ?_) (fun c0 => ?_)⟩
      · exact draw (by
          have z := of_decide_eq_true cz
          injection z with z
          have := ki (by omega)
          omega)
      · refine ⟨_, rfl, l, _, 0, _, rfl, rfl, sq_lst hl3, rfl, _, _, rfl, rfl, _, rfl, ite2 (fun cz => draw (by have := of_decide_eq_true cz; omega)) (fun _ => ?_)⟩
        have i0 : i ≠ 0 := fun z => c0 (by rw [z]; rfl)
        refine ⟨P3, ts, as, here, k', _, _, hf, hD, hok, hne, hri, (fun z => by omega), fun _ => hi1 (by omega), hfa, hhe, Nat.le_trans hle (Nat.mul_le_mul_right _ (by omega)), by omega, kz, kp, (fun z => by omega), hl3, rfl⟩
    · rintro σ H3 ⟨P3, ts, as, here, k', v8, v9, hf, hD, hok, hne, hri, hi0, hi1, hfa, hhe, hle, htl, kz, kp, ki, hl3, rfl⟩
      have en : ((1 : Int) + ((e : Nat) : Int)).toNat = mny := by omega
      rw [en] at hi1 hle
      have ts0 := hi1 (by omega)
      refine ⟨_, rfl, f, _, rfl, .inl ⟨sq_lst hf, fun r nr => ?_⟩⟩
      have X4 := ex_new (o := .tup (as.map V.ref)) nr
      obtain ⟨g1, g2, g3⟩ := hfa ts0
      exact q r as ts k' _ kz kp upd_same (hD.mono X4) ts0 hok hne hri g1 (by omega) (by rw [hW2]; exact g3) (X4 _ _ hl3) (P3.ex X4)
theorem ok__law_row {P : Program} {w : World} {K : PySem.W.Frag} {mg : Str → Option Value} {base : Heap} (T : Env K mg) {d L : Nat} (hL : 60 ≤ L) (r__law_short : Fc P w K mg base L (He.ga K "_law_short") [] (sp__law_short K d)) : Fc P w K mg base (L + 1) (He.ga K "_law_row") [] (sp__law_row K (d)) := by
  obtain ⟨fd, D, F⟩ := fb__law_row T hL r__law_short
  exact F.all (D.bindsN fun _ _ _ _ _ _ us hl => match us, hl with | [_, _, _, _, _], _ => rfl)
end
section
theorem fb__law_short {P : Program} {w : World} {K : PySem.W.Frag} {mg : Str → Option Value} {base : Heap} (T : Env K mg) {d L : Nat} (hL : 60 ≤ L) (r__law_short : Fc P w K mg base L (He.ga K "_law_short") [] (sp__law_short K d)) : ∃ fd, FunD K "_law_short" "_law_short" (defArgs s__law_short) (defBody s__law_short) (defScope s__law_short) [] [] (He.ga K "_law_short") fd ∧ Fb P w K mg base (L + 2) (He.ga K "_law_short") fd ["_law_pot_here", "_law_at", "_law_room", "_law_deep", "_law_left"] (sp__law_short K (d + 1)) := by
  obtain ⟨fd, F⟩ := T.f__law_short
  refine ⟨fd, F, fb_of F sc__law_short (fun vs H Q E h => ?_) (fun cdv A outer s H vs Q E hr h => ?_)⟩
  · obtain ⟨p, l, at_, room, deep, k, rfl, _⟩ := h
    rfl
  · obtain ⟨p, l, at_, room, deep, k, rfl, hp, hl, lp, r1, r2, d8, dd, k1, q⟩ := h
    refine ⟨_, (pss_cons (ps_asg (pe_op op_sub (pe_ix ix_list (pv 4) pe_int (fun _ _ => rfl)) pe_int) (pg_sub (pv 4) pe_int set_list))
      (Evl.pss_cut (ps_if (PW.pt (pw_or (pt_cmpR op_eq (c_call (ok__law_draw T) (hr.mono (by omega)) T.g__law_draw T.k__law_draw takes0 (pa_cons (pv 0) (pa_cons pe_int pa_nil))) pe_int (nomark _)) (pw_or (pt_cmpR op_lt (pv 2) pe_int (nomark _)) (pw_or (pt_cmpR op_eq (pv 3) pe_int (nomark _)) (pw_or1 (pt_cmpR op_lt (pe_ix ix_list (pv 4) pe_int (fun _ _ => rfl)) pe_int (nomark _)))))))
      (pss_one (ps_ret (pe_tup (pa_cons pe_str (pa_cons (pv 1) pa_nil)))))
      pss_nil)
      (pss_cons (ps_set (i := 5) sc__law_short.nd rfl (Or.inl rfl) (c_call (ok__law_row T hL r__law_short) (hr.mono (by omega)) T.g__law_row T.k__law_row takes0 (pa_cons (pv 0) (pa_cons (pv 1) (pa_cons (pe_op op_fdiv (pv 2) pe_int) (pa_cons (pe_op op_sub (pv 3) pe_int) (pa_cons (pv 4) pa_nil)))))))
      (pss_cons (ps_set (i := 6) sc__law_short.nd rfl (Or.inl rfl) (c_call (ok__law_row_moments T (Nat.le_add_right 40 _) (all__law_moments T 9)) (hr.mono (by omega)) T.g__law_row_moments T.k__law_row_moments takes0 (pa_cons (pv 5) pa_nil)))
      (pss_cons (ps_set (i := 7) sc__law_short.nd rfl (Or.inl rfl) (pe_ix ix_list (pe_lst (pa_cons pe_int (pa_cons pe_int (pa_cons pe_int (pa_cons (pv 2) pa_nil))))) (c_call (ok__law_draw T) (hr.mono (by omega)) T.g__law_draw T.k__law_draw takes0 (pa_cons (pv 0) (pa_cons pe_int pa_nil))) (fun _ _ => rfl)))
      (pss_cons (ps_set (i := 8) sc__law_short.nd rfl (Or.inl rfl) (pe_op op_add pe_int (c_call (ok__law_draw T) (hr.mono (by omega)) T.g__law_draw T.k__law_draw takes0 (pa_cons (pv 0) (pa_cons (pe_callB (call_min2 rfl) (by rfl) T.n_min (by decide +kernel) (pa_cons (pv 7) (pa_cons (pe_op op_sub (pe_op op_fdiv (pv 2) (pe_callB call_len (by rfl) T.n_len (by decide +kernel) (pa_cons (pv 6) pa_nil))) pe_int) pa_nil))) pa_nil)))))
      (pss_one (ps_ret (pe_tup (pa_cons pe_str (pa_cons (pv 5) (pa_cons (pv 8) (pa_cons (pe_op op_add (pe_op op_add (pe_op op_sub (pe_ix ix_list (pv 6) (pe_un un_neg pe_int) (fun _ _ => rfl)) (pe_ix ix_list (pv 6) pe_int (fun _ _ => rfl))) pe_int) (c_call (ok__law_gap T) (hr.mono (by omega)) T.g__law_gap T.k__law_gap takes0 (pa_cons (pv 0) pa_nil))) pa_nil))))))))))))), ?_⟩
    refine ⟨_, rfl, l, _, 0, _, rfl, rfl, sq_lst hl, rfl, _, _, rfl, rfl, _, rfl, l, _, 0, 0, rfl, rfl, hl, rfl, ?_⟩
    have P1 : ∀ o, PotL H (upd H l o) p l := fun o => (PotL.refl hp).put lp
    have gap1 : 1 ≤ GAP := by decide +kernel
    have fin : ∀ {H2 : Hp}, PotL H H2 p l → H2 l = some (.lst [.int (k - 1)]) → ∀ a, H2 a = none → Q (.ref a) (upd H2 a (.tup [.str "at", .int (at_ : Nat)])) := fun {H2} P2 hl2 a na => by
      have m1 : (Tr.at at_).moms = [at_] := by unfold Tr.moms; rfl
      refine q a (.at at_) (k - 1) _ (by unfold DtAt; exact upd_same) (by omega) (by unfold Tr.pcs; omega) (by unfold Tr.ok; trivial) (by unfold Tr.nest; exact Nat.zero_le _) (by rw [m1]; rfl) (by rw [m1]; exact r1) ?_ (ex_new na _ _ hl2) (P2.ex (ex_new na))
      rw [m1]
      show at_ + 1 ≤ at_ + 1 * ((2 * deep + 1) * GAP)
      have : 1 * 1 ≤ (2 * deep + 1) * GAP := Nat.mul_le_mul (by omega) gap1
      omega
    refine ⟨fun σ' H2 => PotL H H2 p l ∧ H2 l = some (.lst [.int (k - 1)]) ∧ 2 ≤ room ∧ 1 ≤ deep ∧ 2 ≤ k ∧ σ' = [some (.ref p), some (.int (at_ : Nat)), some (.int (room : Nat)), some (.int (deep : Nat)), some (.ref l), none, none, none, none], ?_, ?_⟩
    · refine ⟨_, rfl, p, 3, rfl, (P1 _).1, by decide, by decide, fun dv H2 d0 d1 P2 => ?_⟩
      have PL := (P1 _).on P2
      have hl2 : H2 l = some (.lst [.int (k - 1)]) := P2.2 _ _ lp upd_same
      refine ⟨rfl, _, rfl, ite2 (fun _ => ?_) (fun _ => ?_)⟩
      · exact ⟨_, rfl, by show 2 ≤ sizeLine; decide, fun a na => fin PL hl2 a na⟩
      refine ⟨_, rfl, _, _, rfl, rfl, _, rfl, ite2 (fun _ => ?_) (fun c1 => ?_)⟩
      · exact ⟨_, rfl, by show 2 ≤ sizeLine; decide, fun a na => fin PL hl2 a na⟩
      refine ⟨_, rfl, rfl, _, rfl, ite2 (fun _ => ?_) (fun c2 => ?_)⟩
      · exact ⟨_, rfl, by show 2 ≤ sizeLine; decide, fun a na => fin PL hl2 a na⟩
      refine ⟨_, rfl, l, _, 0, _, rfl, rfl, sq_lst hl2, rfl, _, _, rfl, rfl, _, rfl, ite2 (fun _ => ?_) (fun c3 => ?_)⟩
      · exact ⟨_, rfl, by show 2 ≤ sizeLine; decide, fun a na => fin PL hl2 a na⟩
      have g3 : ¬ k - 1 < 1 := fun z => c3 (decide_eq_true z)
      have g1 : ¬ ((room : Nat) : Int) < 2 := fun z => c1 (decide_eq_true z)
      have g2 : deep ≠ 0 := fun z => c2 (by rw [z]; rfl)
      exact ⟨PL, hl2, by omega, by omega, by omega, rfl⟩
    rintro σ' H2 ⟨P2, hl2, room2, deep1, k2', rfl⟩
    have ed : ((room : Nat) : Int) / 2 = ((room / 2 : Nat) : Int) := by omega
    have ed2 : ((deep : Nat) : Int) - 1 = ((deep - 1 : Nat) : Int) := by omega
    refine ⟨_, rfl, _, rfl, _, rfl, _, _, rfl, rfl, ⟨by decide, by decide⟩, _, rfl, _, _, rfl, rfl, _, rfl, p, l, at_, room / 2, deep - 1, k - 1, by rw [← ed, ← ed2], P2.1, hl2, lp, by omega, by omega, by omega, by omega, by omega, fun r as ts k2 H3 kz kp hr3 hD3 ts0 hok hne hri hhd hlen hlast hl3 P3 => ?_⟩
    have P23 := P2.trans P3
    have B1 : 1 ≤ (momsL ts).length := Nat.le_trans (List.length_pos_iff.mpr ts0) (len_moms hok)
    have nn := momsL_ne hok ts0
    refine ⟨_, rfl, r, as, ts, rfl, hr3, hD3, fun t ht => by have := hne t ht; omega, hok, by omega, fun w H4 X4 nw hw => ?_⟩
    have P4 := P23.ex X4
    have hl4 := X4 _ _ hl3
    have wp : w ≠ p := potL_ne P23 nw
    refine ⟨_, rfl, by show 4 ≤ sizeLine; decide, fun u nu => ?_⟩
    have P5 := P4.ex (ex_new (o := .lst [.int 2, .int 2, .int 2, .int (room : Nat)]) nu)
    have up : u ≠ p := potL_ne P4 nu
    refine ⟨_, rfl, p, 4, rfl, P5.1, by decide, by decide, fun dv H6 d0 d1 P6 => ?_⟩
    obtain ⟨x, hx, ex⟩ := at_mem (xs := [.int 2, .int 2, .int 2, .int (room : Nat)]) d0 (by show dv < 4; exact d1)
    obtain ⟨mo, rfl, mo2⟩ : ∃ mo : Nat, x = .int (mo : Nat) ∧ 2 ≤ mo := by
      simp only [List.mem_cons, List.not_mem_nil, or_false] at hx
      rcases hx with rfl | rfl | rfl | rfl
      · exact ⟨2, rfl, Nat.le_refl _⟩
      · exact ⟨2, rfl, Nat.le_refl _⟩
      · exact ⟨2, rfl, Nat.le_refl _⟩
      · exact ⟨room, rfl, room2⟩
    refine ⟨u, _, _, _, rfl, rfl, sq_lst (P6.2 _ _ up upd_same), ex, ?_⟩
    have hw6 := P6.2 _ _ wp (ex_new (o := .lst [.int 2, .int 2, .int 2, .int (room : Nat)]) nu _ _ hw)
    have PL6 := P5.on P6
    have hl6 := P6.2 _ _ lp (ex_new (o := .lst [.int 2, .int 2, .int 2, .int (room : Nat)]) nu _ _ hl4)
    have hr6 := tup_on P5.1 P6 _ _ (ex_new (o := .lst [.int 2, .int 2, .int 2, .int (room : Nat)]) nu _ _ (X4 _ _ hr3))
    have hD6 := ((hD3.mono X4).mono (ex_new (o := .lst [.int 2, .int 2, .int 2, .int (room : Nat)]) nu)).keep (tup_on P5.1 P6)
    have q2 : 2 ≤ room / (momsL ts).length := (Nat.le_div_iff_mul_le (by omega)).mpr (by omega)
    have q3 : room / (momsL ts).length * (momsL ts).length ≤ room := Nat.div_mul_le_self _ _
    have q4 : room / (momsL ts).length ≤ 1440 := Nat.le_trans (Nat.div_le_self _ _) r2
    have e7 : ((room : Nat) : Int) / (((momsL ts).length : Nat) : Int) = ((room / (momsL ts).length : Nat) : Int) := (Int.natCast_ediv _ _).symm
    have e8 : (if ((room : Nat) : Int) / (((momsL ts).length : Nat) : Int) - 1 < ((mo : Nat) : Int) then ((room : Nat) : Int) / (((momsL ts).length : Nat) : Int) - 1 else ((mo : Nat) : Int)) = ((min mo (room / (momsL ts).length - 1) : Nat) : Int) := by rw [e7]; split <;> omega
    refine ⟨_, rfl, _, rfl, _, rfl, _, rfl, _, (momsL ts).length, rfl, .inl ⟨_, sq_lst hw6, (natV_len _).symm⟩, _, _, rfl, rfl, ⟨by omega, by omega⟩, _, _, rfl, rfl, _, _, rfl, p, _, rfl, PL6.1, by rw [e8]; omega, by rw [e8]; omega, fun dw H7 w0 w1 P7 => ⟨_, _, rfl, rfl, ?_⟩⟩
    rw [e8] at w1
    obtain ⟨dm, rfl⟩ := Int.eq_ofNat_of_zero_le w0
    have hw7 := P7.2 _ _ wp hw6
    have PL7 := PL6.on P7
    have hr7 := tup_on PL6.1 P7 _ _ hr6
    have hD7 := hD6.keep (tup_on PL6.1 P7)
    refine ⟨_, rfl, _, rfl, _, rfl, _, rfl, w, _, _, _, rfl, rfl, sq_lst hw7, at_lastN nn, _, rfl, w, _, _, _, rfl, rfl, sq_lst hw7, at_headN nn, _, _, rfl, rfl, _, _, rfl, rfl, _, rfl, p, rfl, PL7.1, fun g H8 hg P8 => ⟨_, _, rfl, rfl, by show 4 ≤ sizeLine; decide, fun a na => ?_⟩⟩
    have PL8 := PL7.on P8
    have hl8 := P8.2 _ _ lp (P7.2 _ _ lp hl6)
    have hr8 := tup_on PL7.1 P8 _ _ hr7
    have hD8 := hD7.keep (tup_on PL7.1 P8)
    have srt := ris_sorted hok hri
    have hle := le_lastD srt _ (by
      cases hm : momsL ts with
      | nil => exact absurd hm nn
      | cons y ys => exact List.mem_cons_self : (momsL ts).headD 0 ∈ momsL ts)
    obtain ⟨m, hm⟩ : ∃ m : Nat, m = 2 + dm := ⟨_, rfl⟩
    obtain ⟨st, hst⟩ : ∃ st : Nat, st = (momsL ts).getLastD 0 - (momsL ts).headD 0 + 1 + g := ⟨_, rfl⟩
    have em : (2 : Int) + ((dm : Nat) : Int) = ((m : Nat) : Int) := by omega
    have est : (((momsL ts).getLastD 0 : Nat) : Int) - (((momsL ts).headD 0 : Nat) : Int) + 1 + ((g : Nat) : Int) = ((st : Nat) : Int) := by omega
    have X9 := ex_new (o := .tup [.str "over", .ref r, .int (m : Nat), .int (st : Nat)]) na
    have mle : m ≤ room / (momsL ts).length := by omega
    have mlen : m * (momsL ts).length ≤ room := Nat.le_trans (Nat.mul_le_mul_right _ mle) q3
    have okT : (Tr.ov ts m st).ok := by
      unfold Tr.ok
      exact ⟨ts0, by omega, by omega, by omega, by omega, srt, hok⟩
    have eMo : (Tr.ov ts m st).moms = overN (momsL ts) m st := by unfold Tr.moms; rfl
    have hDa : DtAt (upd H8 a (.tup [.str "over", .ref r, .int (m : Nat), .int (st : Nat)])) (.ov ts m st) a := by
      unfold DtAt
      exact ⟨r, as, upd_same, X9 _ _ hr8, hD8.mono X9⟩
    have res := q a (.ov ts m st) k2 _ hDa kz (by unfold Tr.pcs; omega) okT (by
      have := nestL_le hne
      unfold Tr.nest
      omega) (by rw [eMo, overN_head nn m (by omega)]; exact hhd) (by rw [eMo, overN_len]; exact mlen) (by
      rw [eMo, overN_len, overN_last nn (by omega)]
      obtain ⟨m', rfl⟩ : ∃ m', m = m' + 1 := ⟨m - 1, by omega⟩
      have e2 : (2 * (deep - 1) + 2) * GAP = 2 * deep * GAP := by rw [show 2 * (deep - 1) + 2 = 2 * deep by omega]
      rw [e2] at hlast
      have e3 : (2 * deep + 1) * GAP = 2 * deep * GAP + GAP := by rw [Nat.add_mul, Nat.one_mul]
      rw [e3]
      have gG : g < GAP := Nat.lt_trans hg (by decide +kernel)
      exact over_bound (m' := m') hlast (by omega) B1) (X9 _ _ hl8) (PL8.ex X9)
    rw [← em, ← est] at res
    exact res
theorem ok__law_short {P : Program} {w : World} {K : PySem.W.Frag} {mg : Str → Option Value} {base : Heap} (T : Env K mg) {d L : Nat} (hL : 60 ≤ L) (r__law_short : Fc P w K mg base L (He.ga K "_law_short") [] (sp__law_short K d)) : Fc P w K mg base (L + 2) (He.ga K "_law_short") [] (sp__law_short K (d + 1)) := by
  obtain ⟨fd, D, F⟩ := fb__law_short T hL r__law_short
  exact F.all (D.bindsN fun _ _ _ _ _ _ us hl => match us, hl with | [_, _, _, _, _], _ => rfl)
theorem all__law_short {P : Program} {w : World} {K : PySem.W.Frag} {mg : Str → Option Value} {base : Heap} (T : Env K mg) : ∀ d, Fc P w K mg base (60 + 2 * d) (He.ga K "_law_short") [] (sp__law_short K d)
  | 0 => fc_no fun vs H Q E h => by
    obtain ⟨p, l, at_, room, deep, k, _, _, _, _, _, _, _, h, _⟩ := h
    omega
  | d + 1 => ok__law_short T (Nat.le_add_right 60 _) (all__law_short T d)
end
section
def sp__law_pieces (K : PySem.W.Frag) (d : Nat) : Sp := fun vs H Q _ => ∃ (r : Addr) (as : List Addr) (ts : List Tr), vs = [.ref r] ∧ H r = some (.tup (as.map V.ref)) ∧ DtsAt H ts as ∧ nestL ts + 1 ≤ d ∧ Q (.int ((pcsL ts : Nat) : Int)) H
theorem pcsL_take {ts : List Tr} {i : Nat} {t : Tr} (h : ts[i]? = some t) : pcsL (ts.take (i + 1)) = pcsL (ts.take i) + t.pcs := by
  rw [take_snoc h, pcsL_app]
  simp [pcsL]
theorem fb__law_pieces {P : Program} {w : World} {K : PySem.W.Frag} {mg : Str → Option Value} {base : Heap} (T : Env K mg) {d L : Nat} (hL : 40 ≤ L) (r__law_pieces : Fc P w K mg base L (He.ga K "_law_pieces") [] (sp__law_pieces K d)) : ∃ fd, FunD K "_law_pieces" "_law_pieces" (defArgs s__law_pieces) (defBody s__law_pieces) (defScope s__law_pieces) [] [] (He.ga K "_law_pieces") fd ∧ Fb P w K mg base (L + 1) (He.ga K "_law_pieces") fd ["_law_row_here"] (sp__law_pieces K (d + 1)) := by
  obtain ⟨fd, F⟩ := T.f__law_pieces
  refine ⟨fd, F, fb_of F sc__law_pieces (fun vs H Q E h => ?_) (fun cdv A outer s H vs Q E hr h => ?_)⟩
  · obtain ⟨r, as, ts, rfl, _⟩ := h
    rfl
  · obtain ⟨r, as, ts, rfl, hr2, hD, hn, q⟩ := h
    refine ⟨_, (pss_cons (ps_set (i := 1) sc__law_pieces.nd rfl (Or.inl rfl) pe_int)
      (pss_cons (ps_for (passes_of rfl) rfl (pi_tup (pv 0)) (pg_name (i := 2) sc__law_pieces.nd rfl (Or.inl rfl))
      (pss_cons (ps_set (i := 1) sc__law_pieces.nd rfl (Or.inl rfl) (pe_op op_add (pv 1) pe_int))
      (pss_one (ps_if (pt_cmpR op_eq (pe_ix ix_tup (pv 2) pe_int (fun _ _ => rfl)) pe_str (nomark _))
      (pss_one (ps_set (i := 1) sc__law_pieces.nd rfl (Or.inl rfl) (pe_op op_add (pv 1) (c_call r__law_pieces (hr.mono (by omega)) T.g__law_pieces T.k__law_pieces takes0 (pa_cons (pe_ix ix_tup (pv 2) pe_int (fun _ _ => rfl)) pa_nil)))))
      pss_nil))))
      (pss_one (ps_ret (pv 1))))), ?_⟩
    have hl1 := hD.len
    refine ⟨_, rfl, r, rfl, ⟨_, sq_tup hr2⟩, for_on as V.ref L2.walk_tup (fun i σ H' => H' = H ∧ ∃ v2, σ = [some (.ref r), some (.int ((pcsL (ts.take i) : Nat) : Int)), v2]) ⟨rfl, _, rfl⟩ (fun i σ H' z => by rw [z.1]; exact sq_tup hr2) ?_ ?_⟩
    · rintro i a σ H2 hx ⟨rfl, v2, rfl⟩
      obtain ⟨t, ht, hS⟩ := hD.get hx
      have htm := List.mem_of_getElem? ht
      have eT := pcsL_take ht
      refine ⟨_, rfl, _, _, rfl, rfl, ?_⟩
      cases t with
      | «at» n =>
        unfold DtAt at hS
        refine ⟨_, rfl, a, _, 0, _, rfl, rfl, sq_tup hS, rfl, rfl, _, rfl, iteF ?_⟩
        refine ⟨rfl, some (.ref a), ?_⟩
        have e : ((pcsL (ts.take (i + 1)) : Nat) : Int) = ((pcsL (ts.take i) : Nat) : Int) + 1 := by
          rw [eT]
          unfold Tr.pcs
          omega
        rw [e]
        rfl
      | ov ps m s =>
        unfold DtAt at hS
        obtain ⟨r', as', hS, hr3, hA⟩ := hS
        refine ⟨_, rfl, a, _, 0, _, rfl, rfl, sq_tup hS, rfl, rfl, _, rfl, iteT ?_⟩
        have nn := nestL_mem htm
        refine ⟨_, rfl, _, rfl, a, _, 1, _, rfl, rfl, sq_tup hS, rfl, r', as', ps, rfl, hr3, hA, by unfold Tr.nest at nn; omega, _, _, rfl, rfl, rfl, some (.ref a), ?_⟩
        have e : ((pcsL (ts.take (i + 1)) : Nat) : Int) = ((pcsL (ts.take i) : Nat) : Int) + 1 + ((pcsL ps : Nat) : Int) := by
          rw [eT]
          unfold Tr.pcs
          omega
        rw [e]
        rfl
    · rintro σ H2 ⟨rfl, v2, rfl⟩
      rw [List.take_of_length_le (by omega)]
      exact ⟨_, rfl, q⟩
theorem ok__law_pieces {P : Program} {w : World} {K : PySem.W.Frag} {mg : Str → Option Value} {base : Heap} (T : Env K mg) {d L : Nat} (hL : 40 ≤ L) (r__law_pieces : Fc P w K mg base L (He.ga K "_law_pieces") [] (sp__law_pieces K d)) : Fc P w K mg base (L + 1) (He.ga K "_law_pieces") [] (sp__law_pieces K (d + 1)) := by
  obtain ⟨fd, D, F⟩ := fb__law_pieces T hL r__law_pieces
  exact F.all (D.bindsN fun _ _ _ _ _ _ us hl => match us, hl with | [_], _ => rfl)
theorem all__law_pieces {P : Program} {w : World} {K : PySem.W.Frag} {mg : Str → Option Value} {base : Heap} (T : Env K mg) : ∀ d, Fc P w K mg base (40 + 1 * d) (He.ga K "_law_pieces") [] (sp__law_pieces K d)
  | 0 => fc_no fun vs H Q E h => by
    obtain ⟨r, as, ts, _, _, _, h, _⟩ := h
    omega
  | d + 1 => (ok__law_pieces T (Nat.le_add_right 40 _) (all__law_pieces T d)).mono (by omega)
end
section
def sp__law_time (K : PySem.W.Frag) : Sp := fun vs H Q _ => ∃ n : Nat, vs = [.int n] ∧ n < 10 ^ 255 ∧ ∀ H', Ex H H' → Q (.str (SX.S (Mo.shw n))) H'
theorem fb__law_time {P : Program} {w : World} {K : PySem.W.Frag} {mg : Str → Option Value} {base : Heap} (T : Env K mg) : ∃ fd, FunD K "_law_time" "_law_time" (defArgs s__law_time) (defBody s__law_time) (defScope s__law_time) [] [] (He.ga K "_law_time") fd ∧ Fb P w K mg base 1 (He.ga K "_law_time") fd ["_law_moment"] (sp__law_time K) := by
  obtain ⟨fd, F⟩ := T.f__law_time
  refine ⟨fd, F, fb_of F sc__law_time (fun vs H Q E h => ?_) (fun cdv A outer s H vs Q E hr h => ?_)⟩
  · obtain ⟨n, rfl, _⟩ := h
    rfl
  · obtain ⟨m, rfl, mb, q⟩ := h
    refine ⟨_, (pss_cons (ps_asg (pe_callB call_divmodW (by rfl) T.n_divmod (by decide +kernel) (pa_cons (pv 0) (pa_cons pe_int pa_nil))) (pg_tup (by rfl) (pgs_cons (pg_name (i := 1) sc__law_time.nd rfl (Or.inl rfl)) (pgs_cons (pg_name (i := 2) sc__law_time.nd rfl (Or.inl rfl)) pgs_nil))))
      (pss_cons (ps_asg (pe_callB call_divmodW (by rfl) T.n_divmod (by decide +kernel) (pa_cons (pv 2) (pa_cons pe_int pa_nil))) (pg_tup (by rfl) (pgs_cons (pg_name (i := 3) sc__law_time.nd rfl (Or.inl rfl)) (pgs_cons (pg_name (i := 4) sc__law_time.nd rfl (Or.inl rfl)) pgs_nil))))
      (pss_cons (ps_set (i := 5) sc__law_time.nd rfl (Or.inl rfl) (pe_op op_add_str (pe_op op_add_str (pe_callTy call_str_int (by rfl) T.n_str (by decide +kernel) (pa_cons (pv 3) pa_nil)) pe_str) (pe_bm PySem.F.plainAttrs_str PySem.F.slot_str_zfill PySem.F.type_str_zfill mt_zfill (pe_callTy call_str_int (by rfl) T.n_str (by decide +kernel) (pa_cons (pv 4) pa_nil)) (pa_cons pe_int pa_nil))))
      (pss_cons (ps_if (pt_cmpR op_gt (pv 1) pe_int (nomark _))
      (pss_one (ps_set (i := 5) sc__law_time.nd rfl (Or.inl rfl) (pe_op op_add_str (pe_op op_add_str (pe_callTy call_str_int (by rfl) T.n_str (by decide +kernel) (pa_cons (pv 1) pa_nil)) pe_str) (pv 5))))
      pss_nil)
      (pss_one (ps_ret (pv 5))))))), ?_⟩
    have l1 : (Mo.shw m).length ≤ 263 := Mo.shw_len (by decide) mb
    have l2 : (TL.numL (m % 1440 / 60)).length ≤ 2 := TL.numL_len (by decide) (by omega)
    have l3 : (TL.numL (m / 1440)).length ≤ 255 := TL.numL_len (by decide) (Nat.lt_of_le_of_lt (Nat.div_le_self _ _) mb)
    refine ⟨_, rfl, _, _, rfl, ⟨(by decide), rfl⟩, ?_⟩
    intro t nt
    have X1 := ex_new (o := .tup [.int (((m : Nat) : Int) / 1440), .int (((m : Nat) : Int) % 1440)]) nt
    have h1 : upd H t (.tup [.int (((m : Nat) : Int) / 1440), .int (((m : Nat) : Int) % 1440)]) t = some (.tup [.int (((m : Nat) : Int) / 1440), .int (((m : Nat) : Int) % 1440)]) := upd_same
    have e1 : ((m : Nat) : Int) / 1440 = ((m / 1440 : Nat) : Int) := by omega
    have e2 : ((m : Nat) : Int) % 1440 = ((m % 1440 : Nat) : Int) := by omega
    rw [e1, e2] at X1 h1 ⊢
    generalize upd H t (.tup [.int ((m / 1440 : Nat) : Int), .int ((m % 1440 : Nat) : Int)]) = H1 at X1 h1 ⊢
    refine ⟨_, _, rfl, (sq_tup h1), rfl, _, _, rfl, _, _, rfl, rfl, _, rfl, _, _, rfl, ⟨(by decide), rfl⟩, ?_⟩
    intro u nu
    have X2 := X1.trans (ex_new (o := .tup [.int (((m % 1440 : Nat) : Int) / 60), .int (((m % 1440 : Nat) : Int) % 60)]) nu)
    have h2 : upd H1 u (.tup [.int (((m % 1440 : Nat) : Int) / 60), .int (((m % 1440 : Nat) : Int) % 60)]) u = some (.tup [.int (((m % 1440 : Nat) : Int) / 60), .int (((m % 1440 : Nat) : Int) % 60)]) := upd_same
    have e3 : ((m % 1440 : Nat) : Int) / 60 = ((m % 1440 / 60 : Nat) : Int) := by omega
    have e4 : ((m % 1440 : Nat) : Int) % 60 = ((m % 60 : Nat) : Int) := by omega
    rw [e3, e4] at X2 h2 ⊢
    generalize upd H1 u (.tup [.int ((m % 1440 / 60 : Nat) : Int), .int ((m % 60 : Nat) : Int)]) = H2 at X2 h2 ⊢
    have b1 := log_small (n := m % 1440 / 60) (Nat.lt_of_le_of_lt (show m % 1440 / 60 ≤ 100 by omega) (by decide +kernel))
    have b2 := log_small (n := m % 60) (Nat.lt_of_le_of_lt (show m % 60 ≤ 100 by omega) (by decide +kernel))
    refine ⟨_, _, rfl, (sq_tup h2), rfl, _, _, rfl, _, _, rfl, rfl, _, rfl, _, rfl, b1, _, _, rfl, rfl, ?_⟩
    try dsimp only [tNil]
    rw [SX.num_S, show Str.ofString ":" = SX.S [58] from rfl, SX.S_cat]
    have l4 : (Mo.clk m).length ≤ 5 := by
      unfold Mo.clk Mo.two
      simp
      omega
    refine ⟨sz_big (by rw [SX.S_len, SX.S_len]; simp; omega), _, rfl, _, rfl, b2, rfl, _, _, rfl, rfl, rfl, _, _, rfl, rfl, ?_⟩
    rw [show Txt.zfill (Str.ofString (toString ((m % 60 : Nat) : Int))) 2 = SX.S (Mo.two (m % 60)) from str_two _ (by omega), SX.S_cat]
    have ec : TL.numL (m % 1440 / 60) ++ [58] ++ Mo.two (m % 60) = Mo.clk m := by
      unfold Mo.clk
      simp
    rw [ec]
    refine ⟨sz_big (by rw [SX.S_len, SX.S_len]; simp; unfold Mo.two; simp; omega), ?_⟩
    refine ⟨_, rfl, _, _, rfl, rfl, _, rfl, ?_⟩
    try dsimp only [tNil]
    by_cases c : m / 1440 = 0
    · refine ifN (by omega) ?_
      have e5 : Mo.shw m = Mo.clk m := by unfold Mo.shw; rw [if_pos c]
      rw [e5] at q
      exact ⟨_, rfl, q _ X2⟩
    · refine ifP (by omega) ?_
      have b3 := log_small (n := m / 1440) (Nat.lt_of_le_of_lt (Nat.div_le_self _ _) mb)
      refine ⟨_, rfl, _, rfl, b3, ?_⟩
      rw [SX.num_S, show Str.ofString " " = SX.S [32] from rfl]
      refine ⟨_, _, rfl, rfl, sz_big (by rw [SX.S_len, SX.S_len]; simp; omega), _, rfl, _, _, rfl, rfl, ?_⟩
      rw [SX.S_cat, SX.S_cat]
      refine ⟨sz_big (by rw [SX.S_len, SX.S_len]; simp; omega), ?_⟩
      have e5 : Mo.shw m = TL.numL (m / 1440) ++ [32] ++ Mo.clk m := by unfold Mo.shw; rw [if_neg c]; simp
      rw [e5] at q
      exact ⟨_, rfl, q _ X2⟩
theorem ok__law_time {P : Program} {w : World} {K : PySem.W.Frag} {mg : Str → Option Value} {base : Heap} (T : Env K mg) : Fc P w K mg base 1 (He.ga K "_law_time") [] (sp__law_time K ) := by
  obtain ⟨fd, D, F⟩ := fb__law_time T
  exact F.all (D.bindsN fun _ _ _ _ _ _ us hl => match us, hl with | [_], _ => rfl)
end
section
def sp__law_word (K : PySem.W.Frag) (d : Nat) : Sp := fun vs H Q _ => ∃ (b : Addr) (t : Tr), vs = [.ref b] ∧ DtAt H t b ∧ t.nest + 1 ≤ d ∧ t.fit ∧ t.pcs ≤ 10000 ∧ ∀ H', Ex H H' → Q (.str (SX.S t.txt)) H'
def sp__law_text (K : PySem.W.Frag) (d : Nat) : Sp := fun vs H Q _ => ∃ (p : Addr) (bs : List Addr) (ts : List Tr), vs = [.ref p] ∧ H p = some (.tup (bs.map V.ref)) ∧ DtsAt H ts bs ∧ (∀ t ∈ ts, t.nest + 1 ≤ d) ∧ fitL ts ∧ pcsL ts ≤ 10000 ∧ ∀ H', Ex H H' → Q (.str (SX.S (rowT (txtL ts)))) H'
theorem fb__law_text {P : Program} {w : World} {K : PySem.W.Frag} {mg : Str → Option Value} {base : Heap} (T : Env K mg) {d L : Nat} (hL : 40 ≤ L) (r__law_word : Fc P w K mg base L (He.ga K "_law_word") [] (sp__law_word K d)) : ∃ fd, FunD K "_law_text" "_law_text" (defArgs s__law_text) (defBody s__law_text) (defScope s__law_text) [] [] (He.ga K "_law_text") fd ∧ Fb P w K mg base (L + 1) (He.ga K "_law_text") fd ["_law_row_here"] (sp__law_text K (d)) := by
  obtain ⟨fd, F⟩ := T.f__law_text
  refine ⟨fd, F, fb_of F sc__law_text (fun vs H Q E h => ?_) (fun cdv A outer s H vs Q E hr h => ?_)⟩
  · obtain ⟨p, as, ts, rfl, _⟩ := h
    rfl
  · obtain ⟨p, bs, ts, rfl, hp, hB, hn, hf, hc, q⟩ := h
    refine ⟨_, (pss_cons (ps_if (pt_cmpR op_eq (pe_callB call_len (by rfl) T.n_len (by decide +kernel) (pa_cons (pv 0) pa_nil)) pe_int (nomark _))
      (pss_one (ps_ret pe_str))
      pss_nil)
      (pss_one (ps_ret (pe_join pe_str (pe_lc (own := [("_law_short_here", 1)]) (by rfl) sc__law_text.nd (pi_tup (pv 0)) (blkOk_by (own := [("_law_short_here", 1)]) (N := ["_law_row_here", "_law_short_here"]) (sc := defScope s__law_text) (by decide +kernel)) (fun _ _ _ _ _ => (pg_name (i := 1) sc__law_text.nd rfl (Or.inl rfl))) (fun _ _ _ _ _ => pts_nil) (fun _ _ _ _ _ => (c_call r__law_word (hr.mono (by omega)) T.g__law_word T.k__law_word takes0 (pa_cons (pv 1) pa_nil)))))))), ?_⟩
    have hl1 := hB.len
    have hl2 := len_pcsL ts
    refine ⟨_, rfl, _, _, rfl, (.inr ⟨_, ⟨(sq_tup hp), rfl⟩⟩), rfl, _, rfl, ?_⟩
    try dsimp only [tNil]
    by_cases h0 : ts = []
    · refine ifP (by rw [List.length_map, hl1, h0]; rfl) ?_
      rw [h0] at q
      exact q H (.refl _)
    · refine ifN (by rw [List.length_map, hl1]; exact vint_ne (by have := List.length_pos_iff.mpr h0; omega)) ?_
      refine ⟨⟨_, rfl⟩, _, rfl, _, rfl, ⟨_, (sq_tup hp)⟩, fun A nA => lc_fm L2.walk_tup (fun i => (ts[i]?).map fun t => .str (SX.S t.txt)) (fun H' => Ex H H') (fun H' z e => ex_mut e nA) (.refl _) (by rw [List.length_map]; omega) (fun H' e => sq_tup (e _ _ hp)) (fun i x H2 H3 acc N hi e hD la y k => ?_) fun H3 X3 d3 => ?_⟩
      · obtain ⟨rfl, y⟩ := y
        rw [List.getElem?_map] at y
        obtain ⟨b, hb, rfl⟩ := Option.map_eq_some_iff.mp y
        obtain ⟨t, ht, hS⟩ := hB.get hb
        have htm := List.mem_of_getElem? ht
        have k2 := fun H4 (X4 : Ex H3 H4) => k H4 (e.trans X4) (X4 _ _ hD)
        rw [ht] at k2
        have ft := fitL_mem hf htm
        have pt := pcsL_mem htm
        exact ⟨rfl, _, rfl, b, t, rfl, hS.mono e, hn t htm, ft, by omega, fun H4 X4 => ⟨acc, X4 _ _ hD, la, k2 H4 X4⟩⟩
      · rw [List.length_map, hl1, range_opt ts (fun t => V.str (SX.S t.txt))] at d3
        have e1 : ts.map (fun t => V.str (SX.S t.txt)) = ((txtL ts).map SX.S).map V.str := by
          rw [txtL_map, List.map_map, List.map_map]
          rfl
        rw [e1] at d3
        have sl := sum_txt (hf)
        refine ⟨_, A, _, rfl, rfl, .inl (sq_lst d3), ?_, ?_⟩
        · rw [SX.lens, List.length_map, txtL_map, List.length_map]
          rw [txtL_map] at sl
          have z : (Str.ofString ", ").length = 2 := rfl
          rw [z]
          omega
        · rw [show Str.ofString ", " = SX.S [44, 32] from rfl, SX.join_S]
          have e2 : rowT (txtL ts) = TL.joinL [44, 32] (txtL ts) := if_neg (by rw [txtL_map]; intro z; exact h0 (List.map_eq_nil_iff.mp z))
          rw [e2] at q
          exact q H3 X3
theorem ok__law_text {P : Program} {w : World} {K : PySem.W.Frag} {mg : Str → Option Value} {base : Heap} (T : Env K mg) {d L : Nat} (hL : 40 ≤ L) (r__law_word : Fc P w K mg base L (He.ga K "_law_word") [] (sp__law_word K d)) : Fc P w K mg base (L + 1) (He.ga K "_law_text") [] (sp__law_text K (d)) := by
  obtain ⟨fd, D, F⟩ := fb__law_text T hL r__law_word
  exact F.all (D.bindsN fun _ _ _ _ _ _ us hl => match us, hl with | [_], _ => rfl)
end
section
theorem fb__law_word {P : Program} {w : World} {K : PySem.W.Frag} {mg : Str → Option Value} {base : Heap} (T : Env K mg) {d L : Nat} (hL : 40 ≤ L) (r__law_word : Fc P w K mg base L (He.ga K "_law_word") [] (sp__law_word K d)) : ∃ fd, FunD K "_law_word" "_law_word" (defArgs s__law_word) (defBody s__law_word) (defScope s__law_word) [] [] (He.ga K "_law_word") fd ∧ Fb P w K mg base (L + 2) (He.ga K "_law_word") fd ["_law_short_here"] (sp__law_word K (d + 1)) := by
  obtain ⟨fd, F⟩ := T.f__law_word
  refine ⟨fd, F, fb_of F sc__law_word (fun vs H Q E h => ?_) (fun cdv A outer s H vs Q E hr h => ?_)⟩
  · obtain ⟨b, t, rfl, _⟩ := h
    rfl
  · obtain ⟨b, t, rfl, hD, hn, hf, hc, q⟩ := h
    refine ⟨_, (pss_cons (ps_if (pt_cmpR op_eq (pe_ix ix_tup (pv 0) pe_int (fun _ _ => rfl)) pe_str (nomark _))
      (pss_one (ps_ret (c_call (ok__law_time T) (hr.mono (by omega)) T.g__law_time T.k__law_time takes0 (pa_cons (pe_ix ix_tup (pv 0) pe_int (fun _ _ => rfl)) pa_nil))))
      pss_nil)
      (pss_one (ps_ret (pe_op op_add_str (pe_op op_add_str (pe_op op_add_str (pe_op op_add_str (pe_op op_add_str pe_str (c_call (ok__law_text T hL r__law_word) (hr.mono (by omega)) T.g__law_text T.k__law_text takes0 (pa_cons (pe_ix ix_tup (pv 0) pe_int (fun _ _ => rfl)) pa_nil))) pe_str) (pe_callTy call_str_int (by rfl) T.n_str (by decide +kernel) (pa_cons (pe_ix ix_tup (pv 0) pe_int (fun _ _ => rfl)) pa_nil))) pe_str) (pe_callTy call_str_int (by rfl) T.n_str (by decide +kernel) (pa_cons (pe_ix ix_tup (pv 0) pe_int (fun _ _ => rfl)) pa_nil)))))), ?_⟩
    cases t with
    | «at» n =>
      unfold DtAt at hD
      unfold Tr.fit at hf
      unfold Tr.txt at q
      refine ⟨_, rfl, _, _, _, _, rfl, rfl, (sq_tup hD), rfl, rfl, _, rfl, ?_⟩
      refine iteT ?_
      refine ⟨_, rfl, _, _, _, _, rfl, rfl, (sq_tup hD), rfl, _, rfl, hf, ?_⟩
      exact fun H1 X1 => q H1 X1
    | ov ps m s_ =>
      have htl := txt_len hf
      unfold DtAt at hD
      obtain ⟨r, bs, hD, hr2, hB⟩ := hD
      unfold Tr.nest at hn
      unfold Tr.pcs at hc htl
      unfold Tr.fit at hf
      unfold Tr.txt at q htl
      obtain ⟨f1, f2, f3⟩ := hf
      have b1 := log_small f1
      have b2 := log_small f2
      have rl := rowT_len f3
      have hpl : pcsL ps ≤ 10000 := by omega
      have hnn : ∀ t ∈ ps, t.nest + 1 ≤ d := fun t ht => by
        have := nestL_mem ht
        omega
      have l1 := TL.numL_len (by decide) f1
      have l2 := TL.numL_len (by decide) f2
      refine ⟨_, rfl, _, _, _, _, rfl, rfl, (sq_tup hD), rfl, rfl, _, rfl, ?_⟩
      refine iteF ?_
      refine ⟨_, rfl, _, _, _, _, rfl, rfl, (sq_tup hD), rfl, _, _, _, rfl, hr2, hB, hnn, f3, hpl, ?_⟩
      intro H1 X1
      have hD1 := X1 _ _ hD
      rw [show Str.ofString "(" = SX.S [40] from rfl]
      refine ⟨_, _, rfl, rfl, sz_big (by rw [SX.S_len, SX.S_len]; simp; omega), ?_⟩
      rw [SX.S_cat]
      refine ⟨_, _, rfl, rfl, ?_⟩
      rw [show Str.ofString ") x" = SX.S [41, 32, 120] from rfl]
      refine ⟨sz_big (by rw [SX.S_len, SX.S_len]; simp; omega), ?_⟩
      rw [SX.S_cat]
      refine ⟨_, rfl, _, _, _, _, rfl, rfl, sq_tup hD1, rfl, _, rfl, b1, _, _, rfl, rfl, ?_⟩
      rw [SX.num_S]
      refine ⟨sz_big (by rw [SX.S_len, SX.S_len]; simp; omega), ?_⟩
      rw [SX.S_cat]
      refine ⟨_, _, rfl, rfl, ?_⟩
      rw [show Str.ofString " +" = SX.S [32, 43] from rfl]
      refine ⟨sz_big (by rw [SX.S_len, SX.S_len]; simp; omega), ?_⟩
      rw [SX.S_cat]
      refine ⟨_, rfl, _, _, _, _, rfl, rfl, sq_tup hD1, rfl, _, rfl, b2, _, _, rfl, rfl, ?_⟩
      rw [SX.num_S]
      refine ⟨sz_big (by rw [SX.S_len, SX.S_len]; simp; omega), ?_⟩
      rw [SX.S_cat]
      exact q H1 X1
theorem ok__law_word {P : Program} {w : World} {K : PySem.W.Frag} {mg : Str → Option Value} {base : Heap} (T : Env K mg) {d L : Nat} (hL : 40 ≤ L) (r__law_word : Fc P w K mg base L (He.ga K "_law_word") [] (sp__law_word K d)) : Fc P w K mg base (L + 2) (He.ga K "_law_word") [] (sp__law_word K (d + 1)) := by
  obtain ⟨fd, D, F⟩ := fb__law_word T hL r__law_word
  exact F.all (D.bindsN fun _ _ _ _ _ _ us hl => match us, hl with | [_], _ => rfl)
theorem all__law_word {P : Program} {w : World} {K : PySem.W.Frag} {mg : Str → Option Value} {base : Heap} (T : Env K mg) : ∀ d, Fc P w K mg base (40 + 2 * d) (He.ga K "_law_word") [] (sp__law_word K d)
  | 0 => fc_no fun vs H Q E h => by
    obtain ⟨b, t, _, _, h, _⟩ := h
    omega
  | d + 1 => (ok__law_word T (Nat.le_add_right 40 _) (all__law_word T d)).mono (by omega)
end
section
def sp__law_made (K : PySem.W.Frag) (d : Nat) : Sp := fun vs H Q _ => ∃ (b : Addr) (t : Tr), vs = [.ref b] ∧ DtAt H t b ∧ t.nest + 1 ≤ d ∧ t.nest ≤ 8 ∧ t.ok ∧ ∀ a H', Ex H H' → H a = none → ShAt K H' t a → Q (.ref a) H'
theorem fb__law_made {P : Program} {w : World} {K : PySem.W.Frag} {mg : Str → Option Value} {base : Heap} (T : Env K mg) {d L : Nat} (hL : 70 ≤ L) (r__law_made : Fc P w K mg base L (He.ga K "_law_made") [] (sp__law_made K d)) : ∃ fd, FunD K "_law_made" "_law_made" (defArgs s__law_made) (defBody s__law_made) (defScope s__law_made) [] [] (He.ga K "_law_made") fd ∧ Fb P w K mg base (L + 1) (He.ga K "_law_made") fd ["_law_short_here"] (sp__law_made K (d + 1)) := by
  obtain ⟨fd, F⟩ := T.f__law_made
  refine ⟨fd, F, fb_of F sc__law_made (fun vs H Q E h => ?_) (fun cdv A outer s H vs Q E hr h => ?_)⟩
  · obtain ⟨b, t, rfl, _⟩ := h
    rfl
  · obtain ⟨b, t, rfl, hD, hn, h8, hok, q⟩ := h
    refine ⟨_, (pss_cons (ps_if (pt_cmpR op_eq (pe_ix ix_tup (pv 0) pe_int (fun _ _ => rfl)) pe_str (nomark _))
      (pss_one (ps_ret (c_make T.mk_At (ok_At_init T) (hr.mono (by omega)) T.g_At takes0 (pa_cons (pe_ix ix_tup (pv 0) pe_int (fun _ _ => rfl)) pa_nil))))
      pss_nil)
      (pss_one (ps_ret (c_make T.mk_Over (ok_Over_init T) (hr.mono (by omega)) T.g_Over takes0 (pa_cons (pe_lc (own := [("_law_part", 1)]) (by rfl) sc__law_made.nd (pi_tup (pe_ix ix_tup (pv 0) pe_int (fun _ _ => rfl))) (blkOk_by (own := [("_law_part", 1)]) (N := ["_law_short_here", "_law_part"]) (sc := defScope s__law_made) (by decide +kernel)) (fun _ _ _ _ _ => (pg_name (i := 1) sc__law_made.nd rfl (Or.inl rfl))) (fun _ _ _ _ _ => pts_nil) (fun _ _ _ _ _ => (c_call r__law_made (hr.mono (by omega)) T.g__law_made T.k__law_made takes0 (pa_cons (pv 1) pa_nil)))) (pa_cons (pe_ix ix_tup (pv 0) pe_int (fun _ _ => rfl)) (pa_cons (pe_ix ix_tup (pv 0) pe_int (fun _ _ => rfl)) pa_nil))))))), ?_⟩
    cases t with
    | «at» n =>
      unfold DtAt at hD
      refine ⟨_, rfl, b, _, 0, _, rfl, rfl, sq_tup hD, rfl, rfl, _, rfl, iteT ?_⟩
      exact ⟨_, rfl, b, _, 1, _, rfl, rfl, sq_tup hD, rfl, fun x dx nx nd ne => at_new nx nd ne fun H1 X1 R1 => ⟨rfl, q x H1 X1 nx (by unfold ShAt; exact R1)⟩⟩
    | ov ps m s_ =>
      unfold DtAt at hD
      obtain ⟨r, bs, hD, hr2, hB⟩ := hD
      obtain ⟨o1, m2, hm, hml, hl2, hpl, hokL⟩ := ov_facts hok
      have hl1 := hB.len
      refine ⟨_, rfl, b, _, 0, _, rfl, rfl, sq_tup hD, rfl, rfl, _, rfl, iteF ?_⟩
      refine ⟨_, rfl, b, _, 1, _, rfl, rfl, sq_tup hD, rfl, r, rfl, ⟨_, sq_tup hr2⟩, fun A nA => lc_any (L2.walk_tup (K := K) (a := r) (xs := bs.map V.ref)) (fun i acc G => Ex H G ∧ (G A = none ∨ ∃ xs, G A = some (.lst xs)) ∧ ∃ as, acc = as.map V.ref ∧ ShsAt K G (ps.take i) as) (fun i acc G z e => ?_) ⟨.refl _, .inl nA, [], rfl, by unfold ShsAt; rfl⟩ (by rw [List.length_map]; omega) (fun i acc G e => ?_) (fun i acc G e => sq_tup (e.1 _ _ hr2)) (fun i x G G' acc N hi e hA la y k _ => ?_) (fun acc G e hA => ?_)⟩
      · obtain ⟨e1, e2, as, e3, e4⟩ := e
        refine ⟨ex_mut e1 nA, .inr ⟨z, upd_same⟩, as, e3, e4.oth ((Oth.refl A G).upd) fun ob h => ?_⟩
        rcases e2 with h2 | ⟨xs, h2⟩
        · rw [h2] at h
          cases h
        · rw [h2] at h
          cases h
          exact ⟨xs, rfl⟩
      · obtain ⟨_, _, as, rfl, h1⟩ := e
        rw [List.length_map, h1.len, List.length_take]
        omega
      · obtain ⟨rfl, y⟩ := y
        obtain ⟨XG, _, as, rfl, h1⟩ := e
        rw [List.getElem?_map] at y
        obtain ⟨c, hc, rfl⟩ := Option.map_eq_some_iff.mp y
        obtain ⟨t, ht, hDt⟩ := hB.get hc
        have htm := List.mem_of_getElem? ht
        have nm := nestL_mem htm
        have hn' := hn
        have h8' := h8
        unfold Tr.nest at hn' h8'
        refine ⟨rfl, _, rfl, c, t, rfl, hDt.mono XG, by omega, by omega, okL_mem hokL htm, fun a2 G2 X2 na2 hS2 => ⟨_, X2 _ _ hA, la, ?_⟩⟩
        refine k _ G2 (X2 _ _ hA) ⟨XG.trans X2, .inr ⟨_, X2 _ _ hA⟩, as ++ [a2], by rw [List.map_append]; rfl, ?_⟩
        rw [take_snoc ht]
        exact (h1.mono X2).snoc hS2
      obtain ⟨XG, _, as, rfl, hSh⟩ := e
      rw [List.length_map, hl1, List.take_length] at hSh
      have hD2 := XG _ _ hD
      refine ⟨_, rfl, b, _, 2, _, rfl, rfl, sq_tup hD2, rfl, _, rfl, b, _, 3, _, rfl, rfl, sq_tup hD2, rfl, fun x dx nx nd ne => ⟨rfl, over_newT nx nd ne (.inl hA) hSh hok h8 fun H4 X4 hS => ⟨rfl, ?_⟩⟩⟩
      exact q x H4 (XG.trans X4) (ex_fresh XG nx) hS
theorem ok__law_made {P : Program} {w : World} {K : PySem.W.Frag} {mg : Str → Option Value} {base : Heap} (T : Env K mg) {d L : Nat} (hL : 70 ≤ L) (r__law_made : Fc P w K mg base L (He.ga K "_law_made") [] (sp__law_made K d)) : Fc P w K mg base (L + 1) (He.ga K "_law_made") [] (sp__law_made K (d + 1)) := by
  obtain ⟨fd, D, F⟩ := fb__law_made T hL r__law_made
  exact F.all (D.bindsN fun _ _ _ _ _ _ us hl => match us, hl with | [_], _ => rfl)
theorem all__law_made {P : Program} {w : World} {K : PySem.W.Frag} {mg : Str → Option Value} {base : Heap} (T : Env K mg) : ∀ d, Fc P w K mg base (70 + 1 * d) (He.ga K "_law_made") [] (sp__law_made K d)
  | 0 => fc_no fun vs H Q E h => by
    obtain ⟨r, t, _, _, h, _⟩ := h
    omega
  | d + 1 => (ok__law_made T (Nat.le_add_right 70 _) (all__law_made T d)).mono (by omega)
end
section
def Told (K : PySem.W.Frag) (H : Hp) (v : V) : Prop := (∃ b t, v = .ref b ∧ ShAt K H t b) ∨ v = .non ∨ (∃ i : Int, v = .int i ∧ okI i = true) ∨ v = .str (Str.ofString "more")
/-- the list at f was changed and the pot at p drawn from -/
structure Chg (K : PySem.W.Frag) (p f : Addr) (H G : Hp) (ys : List V) (n : Nat) : Prop where
  pot : Pot G p
  keep : ∀ b o, b ≠ p → b ≠ f → H b = some o → G b = some o
  at_ : G f = some (.lst ys)
  len : ys.length ≤ n
  all : ∀ v ∈ ys, Told K G v
theorem told_put {K : PySem.W.Frag} {H : Hp} {f : Addr} {xs ys : List V} {v : V} (h : Told K H v) (hf : H f = some (.lst xs)) : Told K (upd H f (.lst ys)) v := by
  rcases h with ⟨b, t, rfl, h⟩ | h
  · exact .inl ⟨b, t, rfl, h.oth ((Oth.refl f H).upd) fun ob z => by rw [hf] at z; cases z; exact ⟨_, rfl⟩⟩
  · exact .inr h
theorem Told.ex {K : PySem.W.Frag} {H H' : Hp} {v : V} (e : Ex H H') (h : Told K H v) : Told K H' v := by
  rcases h with ⟨b, t, rfl, h⟩ | h
  · exact .inl ⟨b, t, rfl, h.mono e⟩
  · exact .inr h
theorem Told.pot {K : PySem.W.Frag} {H H' : Hp} {p : Addr} {v : V} (hp : Pot H p) (P : PotOn H H' p) (h : Told K H v) : Told K H' v := by
  rcases h with ⟨b, t, rfl, h⟩ | h
  · refine .inl ⟨b, t, rfl, h.oth (d := p) (fun b ob nb z => P.2 _ _ nb z) fun ob z => ?_⟩
    obtain ⟨x, y, e, _⟩ := hp
    rw [e] at z
    cases z
    exact ⟨_, rfl⟩
  · exact .inr h
theorem Chg.put {K : PySem.W.Frag} {p f : Addr} {H G : Hp} {ys zs : List V} {n m : Nat} (c : Chg K p f H G ys n) (pf : f ≠ p) (hl : zs.length ≤ m) (ha : ∀ v ∈ zs, Told K G v) : Chg K p f H (upd G f (.lst zs)) zs m := by
  obtain ⟨x, y, e, r⟩ := c.pot
  exact ⟨⟨x, y, by rw [upd_ne (Ne.symm pf)]; exact e, r⟩, fun b o n1 n2 h => by rw [upd_ne n2]; exact c.keep b o n1 n2 h, upd_same, hl, fun v hv => told_put (ha v hv) c.at_⟩
theorem Chg.ex {K : PySem.W.Frag} {p f : Addr} {H G G' : Hp} {ys : List V} {n : Nat} (c : Chg K p f H G ys n) (e : Ex G G') : Chg K p f H G' ys n := by
  obtain ⟨x, y, h, r⟩ := c.pot
  exact ⟨⟨x, y, e _ _ h, r⟩, fun b o n1 n2 z => e _ _ (c.keep b o n1 n2 z), e _ _ c.at_, c.len, fun v hv => (c.all v hv).ex e⟩
theorem Chg.le {K : PySem.W.Frag} {p f : Addr} {H G : Hp} {ys : List V} {n m : Nat} (c : Chg K p f H G ys n) (h : n ≤ m) : Chg K p f H G ys m := ⟨c.pot, c.keep, c.at_, Nat.le_trans c.len h, c.all⟩
theorem told_show {K : PySem.W.Frag} {H : Hp} {v : V} (h : Told K H v) : (∃ b t, v = .ref b ∧ ShAt K H t b ∧ shownV v = none) ∨ ∃ z, shownV v = some z ∧ ShowOk v ∧ (v = .non ∨ (∃ i : Int, v = .int i) ∨ ∃ z, v = .str z) := by
  rcases h with ⟨b, t, rfl, h⟩ | rfl | ⟨i, rfl, hi⟩ | rfl
  · exact .inl ⟨b, t, rfl, h, rfl⟩
  · exact .inr ⟨_, rfl, trivial, .inl rfl⟩
  · refine .inr ⟨_, rfl, ?_, .inr (.inl ⟨i, rfl⟩)⟩
    have h1 : i.natAbs < 10 ^ 200 := of_decide_eq_true hi
    show i.natAbs.log2 < 1920
    by_cases z : i.natAbs = 0
    · rw [z]
      decide
    · exact (Nat.log2_lt z).mpr (Nat.lt_trans h1 (by decide +kernel))
  · exact .inr ⟨_, rfl, by show (reprText (Str.ofString "more")).length ≤ sizeLine; exact sz_big (by decide +kernel), .inr (.inr ⟨_, rfl⟩)⟩
theorem Told.chg {K : PySem.W.Frag} {p f : Addr} {H G : Hp} {xs ys : List V} {n : Nat} {v : V} (c : Chg K p f H G ys n) (hp : Pot H p) (hf : H f = some (.lst xs)) (fp : f ≠ p) (h : Told K H v) : Told K G v := by
  have h1 := told_put (ys := ys) h hf
  rcases h1 with ⟨b, t, rfl, h1⟩ | h1
  · refine .inl ⟨b, t, rfl, h1.oth (d := p) (fun b o nb z => ?_) (fun ob z => ?_)⟩
    · by_cases e : b = f
      · subst e
        rw [upd_same] at z
        cases z
        exact c.at_
      · rw [upd_ne e] at z
        exact c.keep b o nb e z
    · obtain ⟨x, y, e, _⟩ := hp
      rw [upd_ne (Ne.symm fp), e] at z
      cases z
      exact ⟨_, rfl⟩
  · exact .inr h1
theorem sh_pot {K : PySem.W.Frag} {H H' : Hp} {p a : Addr} {t : Tr} (hp : Pot H p) (P : PotOn H H' p) (h : ShAt K H t a) : ShAt K H' t a := by
  refine h.oth (d := p) (fun b ob nb z => P.2 _ _ nb z) fun ob z => ?_
  obtain ⟨x, y, e, _⟩ := hp
  rw [e] at z
  cases z
  exact ⟨_, rfl⟩
end
section
def sp__law_change (K : PySem.W.Frag) : Sp := fun vs H Q _ => ∃ (p f : Addr) (xs : List V), vs = [.ref p, .ref f] ∧ Pot H p ∧ f ≠ p ∧ H f = some (.lst xs) ∧ xs.length ≤ 2000 ∧ (∀ v ∈ xs, Told K H v) ∧ ∀ r ys H', Chg K p f H H' ys 2004 → r ≠ p → r ≠ f → H r = none → H' r = some (.lst ((ys.filterMap shownV).map V.str)) → Q (.ref r) H'
theorem fb__law_change {P : Program} {w : World} {K : PySem.W.Frag} {mg : Str → Option Value} {base : Heap} (T : Env K mg) : ∃ fd, FunD K "_law_change" "_law_change" (defArgs s__law_change) (defBody s__law_change) (defScope s__law_change) [] [] (He.ga K "_law_change") fd ∧ Fb P w K mg base 2 (He.ga K "_law_change") fd ["_law_pot_here", "_law_told"] (sp__law_change K) := by
  obtain ⟨fd, F⟩ := T.f__law_change
  refine ⟨fd, F, fb_of F sc__law_change (fun vs H Q E h => ?_) (fun cdv A outer s H vs Q E hr h => ?_)⟩
  · obtain ⟨p, f, xs, rfl, _⟩ := h
    rfl
  · obtain ⟨p, f, xs, rfl, hp, fp, hf, hl, hT, q⟩ := h
    refine ⟨_, (pss_cons (ps_set (i := 2) sc__law_change.nd rfl (Or.inl rfl) (c_call (ok__law_draw T) (hr.mono (by decide)) T.g__law_draw T.k__law_draw takes0 (pa_cons (pv 0) (pa_cons pe_int pa_nil))))
      (Evl.pss_cut (ps_if (pt_cmpR op_eq (pv 2) pe_int (nomark _))
      (pss_one (ps_expr (pe_bm PySem.F.plainAttrs_list PySem.F.slot_list_append PySem.F.type_list_append mt_append (pv 1) (pa_cons pe_non pa_nil))))
      pss_nil)
      (Evl.pss_cut (ps_if (pt_cmpR op_eq (pv 2) pe_int (nomark _))
      (pss_cons (ps_expr (pe_bm0 PySem.F.plainAttrs_list PySem.F.slot_list_reverse PySem.F.type_list_reverse mt_reverse (pv 1)))
      (pss_one (ps_expr (pe_bm PySem.F.plainAttrs_list PySem.F.slot_list_append PySem.F.type_list_append mt_append (pv 1) (pa_cons pe_int pa_nil)))))
      pss_nil)
      (Evl.pss_cut (ps_if (pt_cmpR op_eq (pv 2) pe_int (nomark _))
      (pss_one (ps_expr (pe_bm0 PySem.F.plainAttrs_list PySem.F.slot_list_clear PySem.F.type_list_clear mt_clear (pv 1))))
      pss_nil)
      (Evl.pss_cut (ps_if (pt_cmpR op_eq (pv 2) pe_int (nomark _))
      (pss_one (ps_asg (pe_lst (pa_cons (pe_un un_neg pe_int) (pa_cons pe_str pa_nil))) (pg_subS (pv 1) po_none (po_some pe_int))))
      pss_nil)
      (pss_one (ps_ret (pe_lc (own := [("_law_one", 3)]) (by rfl) sc__law_change.nd (pi_list (pv 1)) (blkOk_by (own := [("_law_one", 3)]) (N := ["_law_pot_here", "_law_told", "_law_way", "_law_one"]) (sc := defScope s__law_change) (by decide +kernel)) (fun _ _ _ _ _ => (pg_name (i := 3) sc__law_change.nd rfl (Or.inl rfl))) (fun _ _ _ _ _ => (pts_one (pt_not (pt_val (pe_callB (call_isiTK K) (by rfl) T.n_isinstance (by decide +kernel) (pa_cons (pv 3) (pa_cons (pe_tup (pa_cons (pe_glob (v := .ref _) (by rfl) T.g_At rfl) (pa_cons (pe_glob (v := .ref _) (by rfl) T.g_Over rfl) pa_nil))) pa_nil))))))) (fun _ _ _ _ _ => (pe_callB call_reprV (by rfl) T.n_repr (by decide +kernel) (pa_cons (pv 3) pa_nil))))))))))), ?_⟩
    have kS : ∀ {G : Hp} {b : Addr} {t : Tr}, ShAt K G t b → ∃ ty, TyX K G (.ref b) ty ∧ PySem.W.kitAny K ty [.ref (He.ga K "At"), .ref (He.ga K "Over")] = some true := fun {G b t} h => by
      cases t with
      | «at» n =>
        unfold ShAt at h
        obtain ⟨dx, h⟩ := h
        exact ⟨_, ty_ins T.i_At T.c_At h, kitAny_cons (b := true) T.kit_At_At (fun z => nomatch z) (fun _ => rfl)⟩
      | ov ps m s_ =>
        unfold ShAt at h
        obtain ⟨dx, kp, as, h, _⟩ := h
        exact ⟨_, ty_ins T.i_Over T.c_Over h, kitAny_cons (b := false) T.kit_Over_At (fun _ => kitAny_cons (b := true) T.kit_Over_Over (fun z => nomatch z) (fun _ => rfl)) (by decide)⟩
    have kP : ∀ (G : Hp) {v : V}, (v = .non ∨ (∃ i : Int, v = .int i) ∨ ∃ z, v = .str z) → ∃ ty, TyX K G v ty ∧ PySem.W.kitAny K ty [.ref (He.ga K "At"), .ref (He.ga K "Over")] = some false := fun G {v} h => by
      rcases h with rfl | ⟨i, rfl⟩ | ⟨z, rfl⟩
      · exact ⟨_, .base .non, kitAny_cons T.kit_NoneType_At (fun _ => kitAny_cons T.kit_NoneType_Over (fun _ => kitAny_nil) (by decide)) (by decide)⟩
      · exact ⟨_, .base (.int _), kitAny_cons T.kit_int_At (fun _ => kitAny_cons T.kit_int_Over (fun _ => kitAny_nil) (by decide)) (by decide)⟩
      · exact ⟨_, .base (.str _), kitAny_cons T.kit_str_At (fun _ => kitAny_cons T.kit_str_Over (fun _ => kitAny_nil) (by decide)) (by decide)⟩
    refine ⟨_, rfl, p, 4, rfl, hp, by decide, by decide, fun way H1 w0 w1 P1 => ?_⟩
    have c0 : Chg K p f H H1 xs 2000 := ⟨P1.1, fun b o n1 n2 h => P1.2 _ _ n1 h, P1.2 _ _ fp hf, hl, fun v hv => (hT v hv).pot hp P1⟩
    refine ⟨fun σ G => ∃ ys, Chg K p f H G ys 2001 ∧ σ = [some (.ref p), some (.ref f), some (.int way), none], ?_, ?_⟩
    · have hf1 := c0.at_
      refine ⟨_, rfl, rfl, _, rfl, ?_⟩
      try dsimp only [tNil]
      refine ite2 (fun c => ?_) (fun c => ⟨xs, c0.le (by decide), rfl⟩)
      refine ⟨_, rfl, (.inl ⟨rfl, ⟨_, (sq_lst hf1)⟩⟩), _, _, _, rfl, rfl, hf1, (sz_big (by omega)), ?_⟩
      exact ⟨xs ++ [.non], c0.put fp (by rw [List.length_append]; show _ + 1 ≤ _; have := c0.len; omega) (fun v hv => by
        rcases List.mem_append.mp hv with h | h
        · exact c0.all v h
        · cases List.mem_singleton.mp h
          exact .inr (.inl rfl)), rfl⟩
    rintro σ G ⟨ys, c1, rfl⟩
    refine ⟨fun σ G => ∃ ys, Chg K p f H G ys 2002 ∧ σ = [some (.ref p), some (.ref f), some (.int way), none], ?_, ?_⟩
    · have hf1 := c1.at_
      refine ⟨_, rfl, rfl, _, rfl, ?_⟩
      try dsimp only [tNil]
      refine ite2 (fun c => ?_) (fun c => ⟨ys, c1.le (by decide), rfl⟩)
      refine ⟨_, rfl, (.inl ⟨rfl, ⟨_, (sq_lst hf1)⟩⟩), _, _, rfl, rfl, hf1, _, rfl, (.inl ⟨rfl, ⟨_, (sq_lst upd_same)⟩⟩), _, _, _, rfl, rfl, upd_same, ?_⟩
      refine ⟨sz_lt (by rw [List.length_reverse]; have := c1.len; omega), ?_⟩
      have a1 : ∀ v ∈ ys.reverse, Told K G v := fun v hv => c1.all v (List.mem_reverse.mp hv)
      have d1 := c1.put (m := 2001) fp (by rw [List.length_reverse]; exact c1.len) a1
      exact ⟨_, d1.put fp (by rw [List.length_append, List.length_reverse]; show _ + 1 ≤ _; have := c1.len; omega) (fun v hv => by
        rcases List.mem_append.mp hv with h | h
        · exact d1.all v h
        · cases List.mem_singleton.mp h
          exact .inr (.inr (.inl ⟨7, rfl, rfl⟩))), rfl⟩
    rintro σ G ⟨ys, c2, rfl⟩
    refine ⟨fun σ G => ∃ ys, Chg K p f H G ys 2002 ∧ σ = [some (.ref p), some (.ref f), some (.int way), none], ?_, ?_⟩
    · have hf1 := c2.at_
      refine ⟨_, rfl, rfl, _, rfl, ?_⟩
      try dsimp only [tNil]
      refine ite2 (fun c => ?_) (fun c => ⟨ys, c2, rfl⟩)
      refine ⟨_, rfl, (.inl ⟨rfl, ⟨_, (sq_lst hf1)⟩⟩), _, _, rfl, rfl, hf1, ?_⟩
      exact ⟨[], c2.put fp (Nat.zero_le _) (fun v hv => nomatch hv), rfl⟩
    rintro σ G ⟨ys, c3, rfl⟩
    refine ⟨fun σ G => ∃ ys, Chg K p f H G ys 2004 ∧ σ = [some (.ref p), some (.ref f), some (.int way), none], ?_, ?_⟩
    · have hf1 := c3.at_
      refine ⟨_, rfl, rfl, _, rfl, ?_⟩
      try dsimp only [tNil]
      refine ite2 (fun c => ?_) (fun c => ⟨ys, c3.le (by decide), rfl⟩)
      refine ⟨_, rfl, (by decide), ?_⟩
      intro a1 na1
      have Xa1 := ex_new (o := HO.lst [V.int (-1), V.str (Str.ofString "more")]) na1
      have ha1 : upd G a1 (HO.lst [V.int (-1), V.str (Str.ofString "more")]) a1 = some (HO.lst [V.int (-1), V.str (Str.ofString "more")]) := upd_same
      generalize upd G a1 (HO.lst [V.int (-1), V.str (Str.ofString "more")]) = Ga1 at Xa1 ha1 ⊢
      refine ⟨_, rfl, _, rfl, ?_⟩
      refine ⟨f, a1, ys, _, rfl, rfl, ne_of_none hf1 na1, Xa1 _ _ hf1, ha1, sz_big (by show ys.length + 2 ≤ _; have := c3.len; omega), ?_⟩
      have c3' := c3.ex Xa1
      exact ⟨_, c3'.put fp (by unfold spliceV; rw [List.length_append, List.length_append, List.length_take, List.length_drop]; show _ + 2 + _ ≤ _; have := c3.len; omega) (fun v hv => by
        unfold spliceV at hv
        rcases List.mem_append.mp hv with hv | hv
        · rcases List.mem_append.mp hv with hv | hv
          · exact c3'.all v (List.mem_of_mem_take hv)
          · simp only [List.mem_cons, List.not_mem_nil, or_false] at hv
            rcases hv with rfl | rfl
            · exact .inr (.inr (.inl ⟨-1, rfl, rfl⟩))
            · exact .inr (.inr (.inr rfl))
        · exact c3'.all v (List.mem_of_mem_drop hv)), rfl⟩
    rintro σ G ⟨ys, c4, rfl⟩
    have hf4 := c4.at_
    refine ⟨_, rfl, _, rfl, ⟨_, (sq_lst hf4)⟩, ?_⟩
    intro A nA
    have fA : f ≠ A := ne_of_none hf4 nA
    have hl4 := c4.len
    refine lc_on ys (fun v => v) (by rw [List.map_id']; exact L2.walk_list) (fun v => (shownV v).map V.str) (fun G' => Ex G G') (fun G' z e => ex_mut e nA) (.refl _) (by omega) (fun G' e => sq_lst (e _ _ hf4)) (fun j v G' acc N_ hv XG hB la k => ?_) fun G1 XG1 dG1 => ?_
    · have hT4 := (c4.all v (List.mem_of_getElem? hv)).ex XG
      refine ⟨rfl, _, rfl, (by show 2 ≤ sizeLine; decide), ?_⟩
      intro a1 na1
      have Xa1 := ex_new (o := HO.tup [V.ref (He.ga K (Str.ofString "At")), V.ref (He.ga K (Str.ofString "Over"))]) na1
      have ha1 : upd G' a1 (HO.tup [V.ref (He.ga K (Str.ofString "At")), V.ref (He.ga K (Str.ofString "Over"))]) a1 = some (HO.tup [V.ref (He.ga K (Str.ofString "At")), V.ref (He.ga K (Str.ofString "Over"))]) := upd_same
      generalize upd G' a1 (HO.tup [V.ref (He.ga K (Str.ofString "At")), V.ref (He.ga K (Str.ofString "Over"))]) = Ga1 at Xa1 ha1 ⊢
      rcases told_show hT4 with ⟨b, t, rfl, hS, sn⟩ | ⟨z, sz, so, pl⟩
      · obtain ⟨ty, hty, kt⟩ := kS (hS.mono Xa1)
        refine ⟨.ref b, a1, _, ty, _, true, rfl, ha1, .cons (.own _) (.cons (.own _) .nil), hty, kt, true, rfl, iteF ?_⟩
        have kk := k _ (XG.trans Xa1) (Xa1 _ _ hB)
        rw [sn] at kk
        exact kk
      · obtain ⟨ty, hty, kt⟩ := kP Ga1 pl
        refine ⟨v, a1, _, ty, _, false, rfl, ha1, .cons (.own _) (.cons (.own _) .nil), hty, kt, false, rfl, iteT ?_⟩
        have kk := k _ (XG.trans Xa1) (Xa1 _ _ hB)
        rw [sz] at kk
        refine ⟨_, rfl, rr_plain sz so ⟨acc, Xa1 _ _ hB, la, kk⟩⟩
    have e1 : ys.filterMap (fun v => (shownV v).map V.str) = (ys.filterMap shownV).map V.str := by rw [List.map_filterMap]
    rw [e1] at dG1
    have P0 := (c4.ex XG1)
    exact q A ys G1 P0 (fun z => by rw [z] at nA; obtain ⟨x, y, h, _⟩ := c4.pot; rw [h] at nA; cases nA) (Ne.symm fA) (Decidable.by_contra fun z => by
      cases hHA : H A with
      | none => exact z hHA
      | some o =>
        have h := c4.keep A o (fun z => by rw [z] at nA; obtain ⟨x, y, h, _⟩ := c4.pot; rw [h] at nA; cases nA) (Ne.symm fA) hHA
        rw [nA] at h
        cases h) dG1
theorem ok__law_change {P : Program} {w : World} {K : PySem.W.Frag} {mg : Str → Option Value} {base : Heap} (T : Env K mg) : Fc P w K mg base 2 (He.ga K "_law_change") [] (sp__law_change K ) := by
  obtain ⟨fd, D, F⟩ := fb__law_change T
  exact F.all (D.bindsN fun _ _ _ _ _ _ us hl => match us, hl with | [_, _], _ => rfl)
end
section
def natD (ns : List Nat) : List PyData := ns.map fun n : Nat => PyData.int (n : Int)
theorem dp_nat (K : PySem.W.Frag) (H : Hp) : ∀ ns : List Nat, DpAll K H (natV ns) (natD ns)
  | [] => .nil
  | n :: ns => .cons (.int _) (dp_nat K H ns)
theorem natD_lay : ∀ ns : List Nat, PyData.canLayAll0 (natD ns) = true
  | [] => rfl
  | n :: ns => by
    show (true && PyData.canLayAll0 (natD ns)) = true
    rw [natD_lay ns]
    rfl
theorem natD_dep : ∀ ns : List Nat, PyData.depthAll (natD ns) = 0
  | [] => rfl
  | n :: ns => by
    show max 0 (PyData.depthAll (natD ns)) = 0
    rw [natD_dep ns]
    rfl
theorem shaped_nat (ns : List Nat) : SeqAt.shaped (.list (natD ns)) = true := by
  show (PyData.canLayAll0 (natD ns) && decide (PyData.depthAll (natD ns) + 1 ≤ 64)) = true
  rw [natD_lay, natD_dep]
  rfl
theorem okI_nat {n k : Nat} (h : n < 10 ^ k) (hk : k ≤ 150) : okI ((n : Nat) : Int) = true := decide_eq_true (by
  have h1 : n < 10 ^ 150 := Nat.lt_of_lt_of_le h (Nat.pow_le_pow_right (by decide) hk)
  have e : (10 : Nat) ^ 150 < 10 ^ 200 := by decide +kernel
  show ((n : Nat) : Int).natAbs < 10 ^ 200
  rw [Int.natAbs_natCast]
  omega)
theorem natD_ok {k : Nat} (hk : k ≤ 150) : ∀ ns : List Nat, (∀ n ∈ ns, n < 10 ^ k) → okL (natD ns) = true
  | [], _ => rfl
  | n :: ns, h => by
    show (okI ((n : Nat) : Int) && okL (natD ns)) = true
    rw [okI_nat (h n List.mem_cons_self) hk, natD_ok hk ns fun m hm => h m (List.mem_cons_of_mem _ hm)]
    rfl
theorem natD_sz : ∀ ns : List Nat, szL (natD ns) = 1923 * ns.length
  | [] => rfl
  | n :: ns => by
    show 1921 + 2 + szL (natD ns) = 1923 * (ns.length + 1)
    rw [natD_sz ns]
    omega
end
section
def sp__law_kept (K : PySem.W.Frag) : Sp := fun vs H Q _ => ∃ (f r : Addr) (ys : List V), vs = [.ref f, .ref r] ∧ H f = some (.lst ys) ∧ ys.length ≤ 2004 ∧ (∀ v ∈ ys, Told K H v) ∧ H r = some (.lst ((ys.filterMap shownV).map V.str)) ∧ ∀ H', Ex H H' → Q (.bl true) H'
theorem fb__law_kept {P : Program} {w : World} {K : PySem.W.Frag} {mg : Str → Option Value} {base : Heap} (T : Env K mg) : ∃ fd, FunD K "_law_kept" "_law_kept" (defArgs s__law_kept) (defBody s__law_kept) (defScope s__law_kept) [] [] (He.ga K "_law_kept") fd ∧ Fb P w K mg base 1 (He.ga K "_law_kept") fd ["_law_told", "_law_shown"] (sp__law_kept K) := by
  obtain ⟨fd, F⟩ := T.f__law_kept
  refine ⟨fd, F, fb_of F sc__law_kept (fun vs H Q E h => ?_) (fun cdv A outer s H vs Q E hr h => ?_)⟩
  · obtain ⟨f, r, ys, rfl, _⟩ := h
    rfl
  · obtain ⟨f, r, ys, rfl, hf, hl, hT, hr_, q⟩ := h
    refine ⟨_, (pss_one (ps_ret (pe_cmpR (op_eqS hr.rm.units) (pe_lc (own := [("_law_one", 2)]) (by rfl) sc__law_kept.nd (pi_list (pv 0)) (blkOk_by (own := [("_law_one", 2)]) (N := ["_law_told", "_law_shown", "_law_one"]) (sc := defScope s__law_kept) (by decide +kernel)) (fun _ _ _ _ _ => (pg_name (i := 2) sc__law_kept.nd rfl (Or.inl rfl))) (fun _ _ _ _ _ => (pts_one (pt_not (pt_val (pe_callB (call_isiTK K) (by rfl) T.n_isinstance (by decide +kernel) (pa_cons (pv 2) (pa_cons (pe_tup (pa_cons (pe_glob (v := .ref _) (by rfl) T.g_At rfl) (pa_cons (pe_glob (v := .ref _) (by rfl) T.g_Over rfl) pa_nil))) pa_nil))))))) (fun _ _ _ _ _ => (pe_callB call_reprV (by rfl) T.n_repr (by decide +kernel) (pa_cons (pv 2) pa_nil)))) (pv 1) (nomark _)))), ?_⟩
    have kS : ∀ {G : Hp} {b : Addr} {t : Tr}, ShAt K G t b → ∃ ty, TyX K G (.ref b) ty ∧ PySem.W.kitAny K ty [.ref (He.ga K "At"), .ref (He.ga K "Over")] = some true := fun {G b t} h => by
      cases t with
      | «at» n =>
        unfold ShAt at h
        obtain ⟨dx, h⟩ := h
        exact ⟨_, ty_ins T.i_At T.c_At h, kitAny_cons (b := true) T.kit_At_At (fun z => nomatch z) (fun _ => rfl)⟩
      | ov ps m s_ =>
        unfold ShAt at h
        obtain ⟨dx, kp, as, h, _⟩ := h
        exact ⟨_, ty_ins T.i_Over T.c_Over h, kitAny_cons (b := false) T.kit_Over_At (fun _ => kitAny_cons (b := true) T.kit_Over_Over (fun z => nomatch z) (fun _ => rfl)) (by decide)⟩
    have kP : ∀ (G : Hp) {v : V}, (v = .non ∨ (∃ i : Int, v = .int i) ∨ ∃ z, v = .str z) → ∃ ty, TyX K G v ty ∧ PySem.W.kitAny K ty [.ref (He.ga K "At"), .ref (He.ga K "Over")] = some false := fun G {v} h => by
      rcases h with rfl | ⟨i, rfl⟩ | ⟨z, rfl⟩
      · exact ⟨_, .base .non, kitAny_cons T.kit_NoneType_At (fun _ => kitAny_cons T.kit_NoneType_Over (fun _ => kitAny_nil) (by decide)) (by decide)⟩
      · exact ⟨_, .base (.int _), kitAny_cons T.kit_int_At (fun _ => kitAny_cons T.kit_int_Over (fun _ => kitAny_nil) (by decide)) (by decide)⟩
      · exact ⟨_, .base (.str _), kitAny_cons T.kit_str_At (fun _ => kitAny_cons T.kit_str_Over (fun _ => kitAny_nil) (by decide)) (by decide)⟩
    refine ⟨_, rfl, _, rfl, ⟨_, (sq_lst hf)⟩, ?_⟩
    intro A nA
    refine lc_on ys (fun v => v) (by rw [List.map_id']; exact L2.walk_list) (fun v => (shownV v).map V.str) (fun G' => Ex H G') (fun G' z e => ex_mut e nA) (.refl _) (by omega) (fun G' e => sq_lst (e _ _ hf)) (fun j v G' acc N_ hv XG hB la k => ?_) fun G1 XG1 dG1 => ?_
    · have hT4 := (hT v (List.mem_of_getElem? hv)).ex XG
      refine ⟨rfl, _, rfl, (by show 2 ≤ sizeLine; decide), ?_⟩
      intro a1 na1
      have Xa1 := ex_new (o := HO.tup [V.ref (He.ga K "At"), V.ref (He.ga K "Over")]) na1
      have ha1 : upd G' a1 (HO.tup [V.ref (He.ga K "At"), V.ref (He.ga K "Over")]) a1 = some (HO.tup [V.ref (He.ga K "At"), V.ref (He.ga K "Over")]) := upd_same
      generalize upd G' a1 (HO.tup [V.ref (He.ga K "At"), V.ref (He.ga K "Over")]) = Ga1 at Xa1 ha1 ⊢
      rcases told_show hT4 with ⟨b, t, rfl, hS, sn⟩ | ⟨z, sz, so, pl⟩
      · obtain ⟨ty, hty, kt⟩ := kS (hS.mono Xa1)
        refine ⟨.ref b, a1, _, ty, _, true, rfl, ha1, .cons (.own _) (.cons (.own _) .nil), hty, kt, true, rfl, iteF ?_⟩
        have kk := k _ (XG.trans Xa1) (Xa1 _ _ hB)
        rw [sn] at kk
        exact kk
      · obtain ⟨ty, hty, kt⟩ := kP Ga1 pl
        refine ⟨v, a1, _, ty, _, false, rfl, ha1, .cons (.own _) (.cons (.own _) .nil), hty, kt, false, rfl, iteT ?_⟩
        have kk := k _ (XG.trans Xa1) (Xa1 _ _ hB)
        rw [sz] at kk
        refine ⟨_, rfl, rr_plain sz so ⟨acc, Xa1 _ _ hB, la, kk⟩⟩
    have e1 : ys.filterMap (fun v => (shownV v).map V.str) = (ys.filterMap shownV).map V.str := by rw [List.map_filterMap]
    rw [e1] at dG1
    refine ⟨_, rfl, ?_⟩
    refine ⟨A, r, _, rfl, rfl, sq_lst dG1, sq_lst (XG1 _ _ hr_), List.all_eq_true.mpr fun x hx => ?_, q G1 XG1⟩
    obtain ⟨z, _, rfl⟩ := List.mem_map.mp hx
    rfl
theorem ok__law_kept {P : Program} {w : World} {K : PySem.W.Frag} {mg : Str → Option Value} {base : Heap} (T : Env K mg) : Fc P w K mg base 1 (He.ga K "_law_kept") [] (sp__law_kept K ) := by
  obtain ⟨fd, D, F⟩ := fb__law_kept T
  exact F.all (D.bindsN fun _ _ _ _ _ _ us hl => match us, hl with | [_, _], _ => rfl)
end
section
def SprP (K : PySem.W.Frag) (H : Hp) (p a : Addr) (ts : List Tr) : Prop := SprAt K H a ts ∧ HeldN K (fun b => b ≠ p) H a
theorem SprP.mono {K : PySem.W.Frag} {H H' : Hp} {p a : Addr} {ts : List Tr} (h : SprP K H p a ts) (e : Ex H H') : SprP K H' p a ts := ⟨h.1.mono e, h.2.ex h.1 fun o z => e _ _ z⟩
theorem SprP.pot {K : PySem.W.Frag} {H H' : Hp} {p a : Addr} {ts : List Tr} (h : SprP K H p a ts) (hp : Pot H p) (P : PotOn H H' p) : SprP K H' p a ts := by
  obtain ⟨⟨dx, kp, hd, as, h1, h2, h3, h4⟩, n⟩ := h
  have na : a ≠ p := pot_other hp h1 (fun _ _ z => nomatch z)
  have nk : kp ≠ p := pot_other hp h2 (fun _ _ z => nomatch z)
  have nh : hd ≠ p := n dx kp hd h1
  have o : Oth p H H' := fun b ob nb z => P.2 _ _ nb z
  have g1 := P.2 _ _ na h1
  refine ⟨⟨dx, kp, hd, as, g1, P.2 _ _ nk h2, P.2 _ _ nh h3, h4.oth o fun ob z => ?_⟩, fun dx' kp' hd' z => ?_⟩
  · obtain ⟨x, y, e, _⟩ := hp
    rw [e] at z
    cases z
    exact ⟨_, rfl⟩
  · rw [g1] at z
    rw [← (sprF_inj (ins_inj z).2).2]
    exact nh
theorem SprP.of {K : PySem.W.Frag} {H H' : Hp} {p a : Addr} {ts : List Tr} (h : SprAt K H' a ts) (n : HeldN K (fun b => H b = none) H' a) (hp : Pot H p) : SprP K H' p a ts := ⟨h, fun dx kp hd z e => by
  obtain ⟨x, y, g, _⟩ := hp
  have w : H hd = none := n dx kp hd z
  rw [e, g] at w
  cases w⟩
end
section
theorem rr_natL {K : PySem.W.Frag} {H : Hp} {q : Addr} {ns : List Nat} {Q : VK} (h : ∀ n ∈ ns, n < 10 ^ 80) (l : ns.length ≤ 8000) (e : H q = some (.lst (natV ns))) (k : Q (.str (PyData.shown (.list (natD ns)))) H) : rRepr K [.ref q] H Q := by
  refine rr_data (.lst (sq_lst e) (dp_nat K H ns)) ?_ ?_ ?_ k
  · exact natD_ok (by decide) ns h
  · show szL (natD ns) + 3 ≤ 16000000
    rw [natD_sz]
    omega
  · show PyData.depthAll (natD ns) + 1 ≤ 60
    rw [natD_dep]
    decide
end
section
theorem lc_txt {J : It} {Gd Qd : Hp → Prop} {G0 : Hp} {D : Addr} {xs : List V} {ps : List Tr} {g : TG} {tt : TT} {te : TE} {vs : List Nat} {σ : L2.St} (nD : G0 D = none) (w : L2.Walk J xs.length Gd (L2.YAt xs)) (hl : xs.length = ps.length) (hG : ∀ H, Ex G0 H → Gd H) (hn : ps.length ≤ 2000)
    (hs : ∀ (x : V) (t : Tr) (i : Nat) (H : Hp) (acc : List V) (N : Hp → Prop), xs[i]? = some x → ps[i]? = some t → Ex G0 H → H D = some (.lst acc) → acc.length < sizeLine → (∀ H4, Ex H H4 → H4 D = some (.lst acc) → N (upd H4 D (.lst (acc ++ [.str (SX.S t.txt)])))) → L3.Turn g tt te vs σ D x H N)
    (hd : ∀ H, Ex G0 H → H D = some (.lst (ps.map fun t => V.str (SX.S t.txt))) → Qd H) :
    ∃ W : Nat → Nat → Hp → Prop, (∃ m, W 0 m (upd G0 D (.lst []))) ∧ ∀ i m H, W i m H →
      (J.stop i H ∧ Qd H) ∨ (J.go i H ∧ ∃ Nx : Hp → Prop, (∀ H', Nx H' → ∃ m', m' < m ∧ W (i + 1) m' H') ∧ ∀ x H', J.yld i H x H' → L3.Turn g tt te vs σ D x H' Nx) := by
  refine lc_fm w (fun i => ps[i]?.bind fun t => some (V.str (SX.S t.txt))) (fun H => Ex G0 H) (fun H z e => ex_mut e nD) (.refl _) (by omega) hG (fun i x H H' acc N hi p hD la y k => ?_) (fun H p hD => hd H p ?_)
  · obtain ⟨rfl, hx⟩ := y
    have ht : ps[i]? = some ps[i] := List.getElem?_eq_getElem (by omega)
    refine hs x ps[i] i _ acc N hx ht p hD la fun H4 X4 d4 => ?_
    have := k H4 (p.trans X4) d4
    simp only [ht, Option.bind_some] at this
    exact this
  · rw [hD, hl, range_fm, List.filterMap_eq_map']
end
section
/-- a spread or an over: its parts, its moments, its text -/
def Thing (K : PySem.W.Frag) (p : Addr) (H : Hp) (a : Addr) (ps : List Tr) (ms : List Nat) (tx : List Nat) : Prop := (SprP K H p a ps ∧ ms = momsL ps ∧ tx = rowT (txtL ps) ∧ nestL ps ≤ 9 ∧ fitL ps ∧ pcsL ps ≤ 10000) ∨ (∃ m s, ShAt K H (.ov ps m s) a ∧ ms = (Tr.ov ps m s).moms ∧ tx = (Tr.ov ps m s).txt ∧ (Tr.ov ps m s).nest ≤ 10 ∧ (Tr.ov ps m s).ok ∧ (Tr.ov ps m s).fit ∧ (Tr.ov ps m s).pcs ≤ 10000)
theorem Thing.pot {K : PySem.W.Frag} {p : Addr} {H H' : Hp} {a : Addr} {ps : List Tr} {ms tx : List Nat} (hp : Pot H p) (P : PotOn H H' p) (h : Thing K p H a ps ms tx) : Thing K p H' a ps ms tx := by
  rcases h with ⟨h, r⟩ | ⟨m, s, h, r⟩
  · exact .inl ⟨h.pot hp P, r⟩
  · exact .inr ⟨m, s, sh_pot hp P h, r⟩
theorem Thing.mono {K : PySem.W.Frag} {p : Addr} {H H' : Hp} {a : Addr} {ps : List Tr} {ms tx : List Nat} (e : Ex H H') (h : Thing K p H a ps ms tx) : Thing K p H' a ps ms tx := by
  rcases h with ⟨h, r⟩ | ⟨m, s, h, r⟩
  · exact .inl ⟨h.mono e, r⟩
  · exact .inr ⟨m, s, h.mono e, r⟩
section
variable {K : PySem.W.Frag} {po : Addr} {G : Hp} {a : Addr} {ps : List Tr} {ms tx : List Nat} {σ : L2.St} {W : VK} {Wx : WX}
theorem thing_moments (hT : Thing K po G a ps ms tx) (hs : σ[1]? = some (some (.ref a))) (q : ∀ p G', Ex G G' → G p = none → G' p = some (.lst (natV ms)) → W (.ref p) G') :
    tOrE (tMt (He.ga K "Spread") "moments" (sp_Spread_moments K) Wx (tVar 1) tNil) (tMt (He.ga K "Over") "moments" (sp_Over_moments K 10) Wx (tVar 1) tNil) σ G W := by
  rcases hT with ⟨h, rfl, rfl, _⟩ | ⟨m, s, h, rfl, rfl, hn, ho, _⟩
  · have h := h.1
    obtain ⟨dx, kp, hh, as, g, _⟩ := id h
    exact .inl ⟨_, hs, a, _, _, rfl, g, rfl, a, ps, rfl, h, fun p np => q p _ (ex_new np) np upd_same⟩
  · have h' := h
    unfold ShAt at h'
    obtain ⟨dx, kp, as, g, _⟩ := h'
    exact .inr ⟨_, hs, a, _, _, rfl, g, rfl, a, ps, m, s, rfl, h, hn, ho, q⟩
theorem thing_parts (hT : Thing K po G a ps ms tx) (hs : σ[1]? = some (some (.ref a))) (q : ∀ as p, ShsAt K G ps as → G p = none → W (.ref p) (upd G p (.lst (as.map V.ref)))) :
    tOrE (tMt (He.ga K "Spread") "parts" (sp_Spread_parts K) Wx (tVar 1) tNil) (tMt (He.ga K "Over") "parts" (sp_Over_parts K) Wx (tVar 1) tNil) σ G W := by
  rcases hT with ⟨h, rfl, rfl, _⟩ | ⟨m, s, h, rfl, rfl, hn, ho, _⟩
  · have h := h.1
    obtain ⟨dx, kp, hh, as, g, _⟩ := id h
    exact .inl ⟨_, hs, a, _, _, rfl, g, rfl, a, ps, rfl, h, q⟩
  · have h' := h
    unfold ShAt at h'
    obtain ⟨dx, kp, as, g, _⟩ := h'
    exact .inr ⟨_, hs, a, _, _, rfl, g, rfl, a, ps, m, s, rfl, h, q⟩
theorem thing_str (hT : Thing K po G a ps ms tx) (hs : σ[1]? = some (some (.ref a))) (q : ∀ G', Ex G G' → W (.str (SX.S tx)) G') :
    tOrE (tCB (rOwn (He.ga K "Spread") (sp_Spread_str K) isTxt) (tCons (tVar 1) tNil)) (tCB (rOwn (He.ga K "Over") (sp_Over_str K 10) isTxt) (tCons (tVar 1) tNil)) σ G W := by
  rcases hT with ⟨h, rfl, rfl, h1, h2, h3⟩ | ⟨m, s, h, rfl, rfl, h1, h2, h3, h4⟩
  · have h := h.1
    obtain ⟨dx, kp, hh, as, g, _⟩ := id h
    exact .inl ⟨_, hs, a, _, _, rfl, g, a, ps, rfl, h, h1, h2, h3, fun G' X => ⟨trivial, q G' X⟩⟩
  · have h' := h
    unfold ShAt at h'
    obtain ⟨dx, kp, as, g, _⟩ := h'
    exact .inr ⟨_, hs, a, _, _, rfl, g, a, ps, m, s, rfl, h, h1, h3, h4, fun G' X => ⟨trivial, q G' X⟩⟩
end
theorem sh_str {K : PySem.W.Frag} {ta : TE} {σ : L2.St} {H : Hp} {Q : VK} {t : Tr} {a : Addr} {d : Nat} (hS : ShAt K H t a) (hn : t.nest ≤ d) (hf : t.fit) (hc : t.pcs ≤ 10000) (hta : ∀ R : VK, R (.ref a) H → ta σ H R) (q : ∀ H', Ex H H' → Q (.str (SX.S t.txt)) H') : tOrE (tCB (rOwn (He.ga K "At") (sp_At_str K) isTxt) (tCons ta tNil)) (tCB (rOwn (He.ga K "Over") (sp_Over_str K d) isTxt) (tCons ta tNil)) σ H Q := by
  cases t with
  | «at» n =>
    unfold ShAt at hS
    obtain ⟨dy, h2⟩ := id hS
    unfold Tr.txt at q
    unfold Tr.fit at hf
    exact .inl (hta _ ⟨a, dy, _, rfl, h2, a, n, rfl, hS, hf, fun H' X => ⟨trivial, q H' X⟩⟩)
  | ov ps' m' s' =>
    obtain ⟨dy, kp', as', h2, _⟩ := (by unfold ShAt at hS; exact hS : ∃ dx kp as, H a = some (.ins (OverC K) dx (overF kp m' s')) ∧ H kp = some (.tup (as.map V.ref)) ∧ ShsAt K H ps' as)
    exact .inr (hta _ ⟨a, dy, _, rfl, h2, a, ps', m', s', rfl, hS, hn, hf, hc, fun H' X => ⟨trivial, q H' X⟩⟩)
def sp__law_asked (K : PySem.W.Frag) : Sp := fun vs H Q _ => ∃ (p a r d : Addr) (bs : List Addr) (ps : List Tr) (ms tx : List Nat), vs = [.ref p, .ref a, .ref r, .ref d, .str (SX.S tx)] ∧ Pot H p ∧ Thing K p H a ps ms tx ∧ H r = some (.tup (bs.map V.ref)) ∧ DtsAt H ps bs ∧ H d = some (.lst (natV ms)) ∧ d ≠ p ∧ (∀ n ∈ ms, n < 10 ^ 80) ∧ ms.length ≤ 1440 ∧ (∀ t ∈ ps, t.nest + 1 ≤ 10) ∧ ps.length ≤ 1440 ∧ fitL ps ∧ pcsL ps ≤ 10000 ∧ ∀ H', PotOn H H' p → Q (.bl true) H'
theorem fb__law_asked {P : Program} {w : World} {K : PySem.W.Frag} {mg : Str → Option Value} {base : Heap} (T : Env K mg) : ∃ fd, FunD K "_law_asked" "_law_asked" (defArgs s__law_asked) (defBody s__law_asked) (defScope s__law_asked) [] [] (He.ga K "_law_asked") fd ∧ Fb P w K mg base 132 (He.ga K "_law_asked") fd ["_law_pot_here", "_law_thing", "_law_row_here", "_law_moments_here", "_law_text_here"] (sp__law_asked K) := by
  obtain ⟨fd, F⟩ := T.f__law_asked
  refine ⟨fd, F, fb_of F sc__law_asked (fun vs H Q E h => ?_) (fun cdv A outer s H vs Q E hr h => ?_)⟩
  · obtain ⟨p, a, r, d, bs, ps, ms, tx, rfl, _⟩ := h
    rfl
  · obtain ⟨p, a, r, d, bs, ps, ms, tx, rfl, hp, hTh, hr_, hB, hd, dp, hms, hml, hnn, hpl, hfL, hpcL, q⟩ := h
    refine ⟨_, (pss_cons (ps_par (i := 5) (j := 6) (by rfl) sc__law_asked.nd rfl rfl (by decide) rfl rfl (pa_cons (pe_orE (c_meth0 (pv 1) T.c_Spread T.m_Spread_moments (ok_Spread_moments T) (hr.mono (by decide)) takes0) (c_meth0 (pv 1) T.c_Over T.m_Over_moments (all_Over_moments T 10) (hr.mono (by decide)) takes0)) (pa_cons (pe_orE (c_meth0 (pv 1) T.c_Spread T.m_Spread_parts (ok_Spread_parts T) (hr.mono (by decide)) takes0) (c_meth0 (pv 1) T.c_Over T.m_Over_parts (ok_Over_parts T) (hr.mono (by decide)) takes0)) pa_nil)) (by rfl))
      (pss_cons (ps_if (PW.pt (pw_or (pt_cmpR op_ne (pe_callB (call_repr hr) (by rfl) T.n_repr (by decide +kernel) (pa_cons (pv 5) pa_nil)) (pe_callB (call_repr hr) (by rfl) T.n_repr (by decide +kernel) (pa_cons (pv 3) pa_nil)) (nomark _)) (pw_or1 (pt_cmpR op_ne (pe_orE (pe_callTy (call_strO T.m_Spread_str (ok_Spread_str T) (hr.mono (by decide))) (by rfl) T.n_str (by decide +kernel) (pa_cons (pv 1) pa_nil)) (pe_callTy (call_strO T.m_Over_str (all_Over_str T 10) (hr.mono (by decide))) (by rfl) T.n_str (by decide +kernel) (pa_cons (pv 1) pa_nil))) (pv 4) (nomark _)))))
      (pss_one (ps_ret pe_bl))
      pss_nil)
      (pss_cons (ps_if (pt_cmpR (op_neS hr.rm.units) (pe_lc (own := [("_law_one", 11)]) (by rfl) sc__law_asked.nd (pi_list (pv 6)) (blkOk_by (own := [("_law_one", 11)]) (N := ["_law_pot_here", "_law_thing", "_law_row_here", "_law_moments_here", "_law_text_here", "_law_found", "_law_parts", "_law_first", "_law_second", "_law_many", "_law_words", "_law_one", "_law_short_here"]) (sc := defScope s__law_asked) (by decide +kernel)) (fun _ _ _ _ _ => (pg_name (i := 11) sc__law_asked.nd rfl (Or.inl rfl))) (fun _ _ _ _ _ => pts_nil) (fun _ _ _ _ _ => (pe_orE (pe_callTy (call_strO T.m_At_str (ok_At_str T) (hr.mono (by decide))) (by rfl) T.n_str (by decide +kernel) (pa_cons (pv 11) pa_nil)) (pe_callTy (call_strO T.m_Over_str (all_Over_str T 10) (hr.mono (by decide))) (by rfl) T.n_str (by decide +kernel) (pa_cons (pv 11) pa_nil))))) (pe_lc (own := [("_law_short_here", 12)]) (by rfl) sc__law_asked.nd (pi_tup (pv 2)) (blkOk_by (own := [("_law_short_here", 12)]) (N := ["_law_pot_here", "_law_thing", "_law_row_here", "_law_moments_here", "_law_text_here", "_law_found", "_law_parts", "_law_first", "_law_second", "_law_many", "_law_words", "_law_one", "_law_short_here"]) (sc := defScope s__law_asked) (by decide +kernel)) (fun _ _ _ _ _ => (pg_name (i := 12) sc__law_asked.nd rfl (Or.inl rfl))) (fun _ _ _ _ _ => pts_nil) (fun _ _ _ _ _ => (c_call (all__law_word T 10) (hr.mono (by decide)) T.g__law_word T.k__law_word takes0 (pa_cons (pv 12) pa_nil)))) (nomark _))
      (pss_one (ps_ret pe_bl))
      pss_nil)
      (pss_cons (ps_par (i := 7) (j := 8) (by rfl) sc__law_asked.nd rfl rfl (by decide) rfl rfl (pa_cons (c_call (ok__law_change T) (hr.mono (by decide)) T.g__law_change T.k__law_change takes0 (pa_cons (pv 0) (pa_cons (pv 5) pa_nil))) (pa_cons (c_call (ok__law_change T) (hr.mono (by decide)) T.g__law_change T.k__law_change takes0 (pa_cons (pv 0) (pa_cons (pv 6) pa_nil))) pa_nil)) (by rfl))
      (pss_cons (ps_set (i := 9) sc__law_asked.nd rfl (Or.inl rfl) (pe_callB call_len (by rfl) T.n_len (by decide +kernel) (pa_cons (pv 6) pa_nil)))
      (pss_cons (ps_setLc (i := 10) (own := [("_law_short_here", 12)]) (by rfl) sc__law_asked.nd rfl rfl (sw_true rfl rfl rfl (by decide +kernel)) (pi_tup (pv 2)) (blkOk_by (own := [("_law_short_here", 12)]) (N := ["_law_pot_here", "_law_thing", "_law_row_here", "_law_moments_here", "_law_text_here", "_law_found", "_law_parts", "_law_first", "_law_second", "_law_many", "_law_words", "_law_one", "_law_short_here"]) (sc := defScope s__law_asked) (by decide +kernel)) (fun _ _ _ _ _ => (pg_name (i := 12) sc__law_asked.nd rfl (Or.inl rfl))) (fun _ _ _ _ _ => pts_nil) (fun _ _ _ _ _ => (c_call (all__law_word T 10) (hr.mono (by decide)) T.g__law_word T.k__law_word takes0 (pa_cons (pv 12) pa_nil))))
      (pss_cons (ps_if (PW.pt (pw_or (pt_cmpR (op_neD hr.rm.units) (pe_orE (c_meth0 (pv 1) T.c_Spread T.m_Spread_moments (ok_Spread_moments T) (hr.mono (by decide)) takes0) (c_meth0 (pv 1) T.c_Over T.m_Over_moments (all_Over_moments T 10) (hr.mono (by decide)) takes0)) (pv 3) (nomark _)) (pw_or1 (pt_cmpR (op_neS hr.rm.units) (pe_lc (own := [("_law_one", 11)]) (by rfl) sc__law_asked.nd (pi_list (pe_orE (c_meth0 (pv 1) T.c_Spread T.m_Spread_parts (ok_Spread_parts T) (hr.mono (by decide)) takes0) (c_meth0 (pv 1) T.c_Over T.m_Over_parts (ok_Over_parts T) (hr.mono (by decide)) takes0))) (blkOk_by (own := [("_law_one", 11)]) (N := ["_law_pot_here", "_law_thing", "_law_row_here", "_law_moments_here", "_law_text_here", "_law_found", "_law_parts", "_law_first", "_law_second", "_law_many", "_law_words", "_law_one", "_law_short_here"]) (sc := defScope s__law_asked) (by decide +kernel)) (fun _ _ _ _ _ => (pg_name (i := 11) sc__law_asked.nd rfl (Or.inl rfl))) (fun _ _ _ _ _ => pts_nil) (fun _ _ _ _ _ => (pe_orE (pe_callTy (call_strO T.m_At_str (ok_At_str T) (hr.mono (by decide))) (by rfl) T.n_str (by decide +kernel) (pa_cons (pv 11) pa_nil)) (pe_callTy (call_strO T.m_Over_str (all_Over_str T 10) (hr.mono (by decide))) (by rfl) T.n_str (by decide +kernel) (pa_cons (pv 11) pa_nil))))) (pv 10) (nomark _)))))
      (pss_one (ps_ret pe_bl))
      pss_nil)
      (pss_one (ps_ret (pe_and (c_call (ok__law_kept T) (hr.mono (by decide)) T.g__law_kept T.k__law_kept takes0 (pa_cons (pv 5) (pa_cons (pv 7) pa_nil))) (pe_and (c_call (ok__law_kept T) (hr.mono (by decide)) T.g__law_kept T.k__law_kept takes0 (pa_cons (pv 6) (pa_cons (pv 8) pa_nil))) (pe_one (pe_cmpR op_eq (pe_callB call_len (by rfl) T.n_len (by decide +kernel) (pa_cons (pv 6) pa_nil)) (pv 9) (nomark _)))))))))))))), ?_⟩
    refine thing_moments hTh rfl fun mp H1 X1 nm hm => ?_
    refine thing_parts (hTh.mono X1) rfl fun as pp hSh np => ?_
    have X2 := ex_new (o := HO.lst (as.map V.ref)) np
    have hpp : upd H1 pp (HO.lst (as.map V.ref)) pp = some (HO.lst (as.map V.ref)) := upd_same
    generalize upd H1 pp (HO.lst (as.map V.ref)) = H2 at X2 hpp ⊢
    have hm2 := X2 _ _ hm
    have hSh2 := hSh.mono X2
    have X02 := X1.trans X2
    have hd2 := X02 _ _ hd
    refine ⟨_, _, rfl, ?_⟩
    refine ⟨_, rfl, rr_natL hms (by omega) hm2 ?_⟩
    refine ⟨_, rfl, rr_natL hms (by omega) hd2 ⟨rfl, _, rfl, iteNS rfl ?_⟩⟩
    refine thing_str (hTh.mono X02) rfl fun H3 X3 => ?_
    refine ⟨_, rfl, rfl, _, rfl, iteNS rfl ?_⟩
    refine ⟨_, rfl, _, rfl, ⟨_, (sq_lst (X3 _ _ hpp))⟩, ?_⟩
    intro A nA
    have hpp3 := X3 _ _ hpp
    have hSh3 := hSh2.mono X3
    refine lc_txt (ps := ps) nA L2.walk_list (by rw [List.length_map]; exact hSh3.len) (fun G e => sq_lst (K := K) (e _ _ hpp3)) (by omega) (fun v t i G acc N hx ht XG hD la k => ?_) (fun G4 X4 hA4 => ?_)
    · rw [List.getElem?_map] at hx
      obtain ⟨b, hb, rfl⟩ := Option.map_eq_some_iff.mp hx
      obtain ⟨t', ht', hS⟩ := hSh3.get hb
      rw [ht] at ht'
      cases ht'
      have htm := List.mem_of_getElem? ht
      have pm := pcsL_mem htm
      refine ⟨rfl, ?_⟩
      simp only [tYes, reduceIte]
      refine sh_str (hS.mono XG) (by have := hnn t htm; omega) (fitL_mem hfL htm) (by omega) (fun R r => ⟨_, rfl, r⟩) fun G5 X5 => ?_
      exact ⟨acc, X5 _ _ hD, la, k G5 X5 (X5 _ _ hD)⟩
    have hr4 := (X02.trans (X3.trans X4)) _ _ hr_
    have hB4 := hB.mono (X02.trans (X3.trans X4))
    have hlB := hB4.len
    refine ⟨_, rfl, _, rfl, ⟨_, sq_tup hr4⟩, fun B nB => ?_⟩
    refine lc_txt (ps := ps) nB L2.walk_tup (by rw [List.length_map]; exact hlB) (fun G e => sq_tup (K := K) (e _ _ hr4)) (by omega) (fun v t i G acc N hx ht XG hD la k => ?_) (fun G6 X6 hB6 => ?_)
    · rw [List.getElem?_map] at hx
      obtain ⟨b, hb, rfl⟩ := Option.map_eq_some_iff.mp hx
      obtain ⟨t', ht', hDt⟩ := hB4.get hb
      rw [ht] at ht'
      cases ht'
      have htm := List.mem_of_getElem? ht
      have pm := pcsL_mem htm
      refine ⟨rfl, _, rfl, b, t, rfl, hDt.mono XG, hnn t htm, fitL_mem hfL htm, by omega, fun G5 X5 => ?_⟩
      exact ⟨acc, X5 _ _ hD, la, k G5 X5 (X5 _ _ hD)⟩
    have XA6 := X4.trans X6
    have self : (ps.map fun t => V.str (SX.S t.txt)).all selfV = true := List.all_eq_true.mpr fun x hx => by
      obtain ⟨z, _, rfl⟩ := List.mem_map.mp hx
      rfl
    refine ⟨A, B, _, rfl, rfl, sq_lst (X6 _ _ hA4), sq_lst hB6, self, _, rfl, iteF ?_⟩
    have Xp := X3.trans XA6
    have hm6 := Xp _ _ hm2
    have hpp6 := Xp _ _ hpp
    have hSh6 := hSh2.mono Xp
    have X06 := X02.trans Xp
    have P6 := (PotOn.refl hp).ex2 X06
    have mpp : mp ≠ p := pot_ne (PotOn.refl hp) nm
    have ppp : pp ≠ p := pot_ne ((PotOn.refl hp).ex2 X1) np
    have told1 : ∀ v ∈ natV ms, Told K G6 v := fun v hv => by
      obtain ⟨n, hn, rfl⟩ := List.mem_map.mp hv
      exact .inr (.inr (.inl ⟨_, rfl, okI_nat (hms n hn) (by decide)⟩))
    refine ⟨_, rfl, _, rfl, p, mp, natV ms, rfl, P6.1, mpp, hm6, by rw [natV_len]; omega, told1, fun r1 ys1 G7 c1 rp1 rm1 nr1 hr1 => ?_⟩
    have P7 : PotOn H G7 p := ⟨c1.pot, fun b o nb z => c1.keep b o nb (ne_of_none z nm) (X06 _ _ z)⟩
    have pm : pp ≠ mp := (ne_of_none hm np).symm
    have hpp7 := c1.keep _ _ ppp pm hpp6
    have told2 : ∀ v ∈ as.map V.ref, Told K G7 v := fun v hv => by
      obtain ⟨b, hb, rfl⟩ := List.mem_map.mp hv
      obtain ⟨i, hi⟩ := List.mem_iff_getElem?.mp hb
      obtain ⟨t, ht, hS⟩ := hSh6.get hi
      exact Told.chg c1 P6.1 hm6 mpp (.inl ⟨b, t, rfl, hS⟩)
    have lAs : as.length = ps.length := hSh6.len
    refine ⟨_, rfl, _, rfl, p, pp, as.map V.ref, rfl, c1.pot, ppp, hpp7, by rw [List.length_map]; omega, told2, fun r2 ys2 G8 c2 rp2 rm2 nr2 hr2 => ?_⟩
    have P8 : PotOn H G8 p := ⟨c2.pot, fun b o nb z => c2.keep b o nb (ne_of_none (X1 _ _ z) np) (P7.2 b o nb z)⟩
    have hmp8 := c2.keep _ _ mpp pm.symm c1.at_
    have told3 : ∀ v ∈ ys1, Told K G8 v := fun v hv => Told.chg c2 c1.pot hpp7 ppp (c1.all v hv)
    have hr18 := c2.keep _ _ rp1 (fun z => by rw [z, hpp6] at nr1; cases nr1) hr1
    have hTh8 := hTh.pot hp P8
    have hd8 := P8.2 _ _ dp hd
    refine ⟨_, _, rfl, _, rfl, ?_⟩
    refine ⟨_, _, rfl, .inl ⟨_, sq_lst c2.at_, rfl⟩, ?_⟩
    have rp : r ≠ p := pot_other hp hr_ (fun _ _ z => nomatch z)
    have hr8 := P8.2 _ _ rp hr_
    have hB8 := hB.keep (fun b xs z => P8.2 b _ (pot_other hp z (fun _ _ z => nomatch z)) z)
    have hlB8 := hB8.len
    refine ⟨_, rfl, _, rfl, ⟨_, sq_tup hr8⟩, fun C nC => ?_⟩
    refine lc_txt (ps := ps) nC L2.walk_tup (by rw [List.length_map]; exact hlB8) (fun G e => sq_tup (K := K) (e _ _ hr8)) (by omega) (fun v t i G acc N hx ht XG hD la k => ?_) (fun G9 X9 hC9 => ?_)
    · rw [List.getElem?_map] at hx
      obtain ⟨b, hb, rfl⟩ := Option.map_eq_some_iff.mp hx
      obtain ⟨t', ht', hDt⟩ := hB8.get hb
      rw [ht] at ht'
      cases ht'
      have htm := List.mem_of_getElem? ht
      have pm := pcsL_mem htm
      refine ⟨rfl, _, rfl, b, t, rfl, hDt.mono XG, hnn t htm, fitL_mem hfL htm, by omega, fun G5 X5 => ?_⟩
      exact ⟨acc, X5 _ _ hD, la, k G5 X5 (X5 _ _ hD)⟩
    have hTh9 := hTh8.mono X9
    refine thing_moments hTh9 rfl fun m2 GA XA nm2 hm2' => ?_
    refine ⟨_, rfl, _, _, .lst (sq_lst hm2') (dp_nat K _ _), .lst (sq_lst (XA _ _ (X9 _ _ hd8))) (dp_nat K _ _), shaped_nat _, shaped_nat _, ?_⟩
    rw [SeqAt.eqv_refl _ (show PyData.canLay0 (.list _) = true from natD_lay _)]
    refine ⟨_, rfl, iteF ?_⟩
    refine thing_parts (hTh9.mono XA) rfl fun as2 pp2 hShA npp2 => ?_
    have XB := ex_new (o := HO.lst (as2.map V.ref)) npp2
    have hppB : upd GA pp2 (HO.lst (as2.map V.ref)) pp2 = some (HO.lst (as2.map V.ref)) := upd_same
    generalize upd GA pp2 (HO.lst (as2.map V.ref)) = GB at XB hppB ⊢
    have hShB := hShA.mono XB
    refine ⟨_, rfl, ⟨_, sq_lst hppB⟩, fun D nD => ?_⟩
    refine lc_txt (ps := ps) nD L2.walk_list (by rw [List.length_map]; exact hShB.len) (fun G e => sq_lst (K := K) (e _ _ hppB)) (by omega) (fun v t i G acc N hx ht XG hD la k => ?_) (fun GD XD hDD => ?_)
    · rw [List.getElem?_map] at hx
      obtain ⟨b, hb, rfl⟩ := Option.map_eq_some_iff.mp hx
      obtain ⟨t', ht', hS⟩ := hShB.get hb
      rw [ht] at ht'
      cases ht'
      have htm := List.mem_of_getElem? ht
      have pm := pcsL_mem htm
      refine ⟨rfl, ?_⟩
      simp only [tYes, reduceIte]
      refine sh_str (hS.mono XG) (by have := hnn t htm; omega) (fitL_mem hfL htm) (by omega) (fun R r => ⟨_, rfl, r⟩) fun G5 X5 => ?_
      exact ⟨acc, X5 _ _ hD, la, k G5 X5 (X5 _ _ hD)⟩
    have X9D := XA.trans (XB.trans XD)
    have X8D := X9.trans X9D
    refine ⟨_, rfl, D, C, _, rfl, rfl, sq_lst hDD, sq_lst (X9D _ _ hC9), self, _, rfl, iteF ?_⟩
    refine ⟨_, rfl, _, rfl, mp, r1, ys1, rfl, X8D _ _ hmp8, c1.len, fun v hv => (told3 v hv).ex X8D, X8D _ _ hr18, fun GE XE => ⟨true, rfl, iteT ?_⟩⟩
    have X8E := X8D.trans XE
    refine ⟨_, rfl, _, rfl, pp, r2, ys2, rfl, X8E _ _ c2.at_, c2.len, fun v hv => (c2.all v hv).ex X8E, X8E _ _ hr2, fun GF XF => ⟨true, rfl, iteT ?_⟩⟩
    have X8F := X8E.trans XF
    refine ⟨_, rfl, _, _, rfl, .inl ⟨_, sq_lst (X8F _ _ c2.at_), rfl⟩, _, rfl, rfl, ?_⟩
    try dsimp only [tNil]
    rw [decide_eq_true rfl]
    exact q GF (P8.ex2 X8F)
theorem ok__law_asked {P : Program} {w : World} {K : PySem.W.Frag} {mg : Str → Option Value} {base : Heap} (T : Env K mg) : Fc P w K mg base 132 (He.ga K "_law_asked") [] (sp__law_asked K ) := by
  obtain ⟨fd, D, F⟩ := fb__law_asked T
  exact F.all (D.bindsN fun _ _ _ _ _ _ us hl => match us, hl with | [_, _, _, _, _], _ => rfl)
end
section
def sp__law_ats_right (K : PySem.W.Frag) : Sp := fun vs H Q _ => ∃ (p a : Addr) (n : Nat), vs = [.ref p, .ref a, .int (n : Nat)] ∧ Pot H p ∧ AtAt K H a n ∧ n < 10 ^ 80 ∧ ∀ H', PotOn H H' p → Q (.bl true) H'
theorem fb__law_ats_right {P : Program} {w : World} {K : PySem.W.Frag} {mg : Str → Option Value} {base : Heap} (T : Env K mg) : ∃ fd, FunD K "_law_ats_right" "_law_ats_right" (defArgs s__law_ats_right) (defBody s__law_ats_right) (defScope s__law_ats_right) [] [] (He.ga K "_law_ats_right") fd ∧ Fb P w K mg base 131 (He.ga K "_law_ats_right") fd ["_law_pot_here", "_law_one", "_law_moment"] (sp__law_ats_right K) := by
  obtain ⟨fd, F⟩ := T.f__law_ats_right
  refine ⟨fd, F, fb_of F sc__law_ats_right (fun vs H Q E h => ?_) (fun cdv A outer s H vs Q E hr h => ?_)⟩
  · obtain ⟨p, a, n, rfl, _⟩ := h
    rfl
  · obtain ⟨p, a, n, rfl, hp, ha, hn, q⟩ := h
    refine ⟨_, (pss_cons (ps_set (i := 3) sc__law_ats_right.nd rfl (Or.inl rfl) (c_meth0 (pv 1) T.c_At T.m_At_moments (ok_At_moments T) (hr.mono (by decide)) takes0))
      (pss_cons (ps_set (i := 4) sc__law_ats_right.nd rfl (Or.inl rfl) (c_call (ok__law_change T) (hr.mono (by decide)) T.g__law_change T.k__law_change takes0 (pa_cons (pv 0) (pa_cons (pv 3) pa_nil))))
      (pss_one (ps_ret (pe_and (pe_cmpR (op_eqD hr.rm.units) (c_meth0 (pv 1) T.c_At T.m_At_moments (ok_At_moments T) (hr.mono (by decide)) takes0) (pe_lst (pa_cons (pv 2) pa_nil)) (nomark _)) (pe_one (c_call (ok__law_kept T) (hr.mono (by decide)) T.g__law_kept T.k__law_kept takes0 (pa_cons (pv 3) (pa_cons (pv 4) pa_nil))))))))), ?_⟩
    obtain ⟨dx, ga⟩ := id ha
    refine ⟨_, rfl, a, _, _, rfl, ga, rfl, a, n, rfl, ha, fun m nm => ?_⟩
    refine ⟨_, rfl, _, rfl, ?_⟩
    have X1 := ex_new (o := HO.lst [V.int (n : Nat)]) nm
    have hm : upd H m (HO.lst [V.int (n : Nat)]) m = some (HO.lst [V.int (n : Nat)]) := upd_same
    generalize upd H m (HO.lst [V.int (n : Nat)]) = G1 at X1 hm ⊢
    have P1 := (PotOn.refl hp).ex2 X1
    have mp : m ≠ p := pot_ne (PotOn.refl hp) nm
    have am : a ≠ m := ne_of_none ga nm
    have ap : a ≠ p := pot_other hp ga (fun _ _ z => nomatch z)
    refine ⟨p, m, [.int (n : Nat)], rfl, P1.1, mp, hm, by show 1 ≤ 2000; decide, fun v hv => ?_, fun r ys G2 c rp rm nr hr_ => ?_⟩
    · cases List.mem_singleton.mp hv
      exact .inr (.inr (.inl ⟨_, rfl, okI_nat hn (by decide)⟩))
    have ga2 := c.keep _ _ ap am (X1 _ _ ga)
    have hat2 : AtAt K G2 a n := ⟨dx, ga2⟩
    refine ⟨_, rfl, a, _, _, rfl, ga2, rfl, a, n, rfl, hat2, fun m2 nm2 => ?_⟩
    have X3 := ex_new (o := HO.lst [V.int (n : Nat)]) nm2
    have hm3 : upd G2 m2 (HO.lst [V.int (n : Nat)]) m2 = some (HO.lst [V.int (n : Nat)]) := upd_same
    generalize upd G2 m2 (HO.lst [V.int (n : Nat)]) = G3 at X3 hm3 ⊢
    refine ⟨_, rfl, (by show 1 ≤ sizeLine; decide), ?_⟩
    intro a1 na1
    have Xa1 := ex_new (o := HO.lst [V.int (↑n : Int)]) na1
    have ha1 : upd G3 a1 (HO.lst [V.int (↑n : Int)]) a1 = some (HO.lst [V.int (↑n : Int)]) := upd_same
    generalize upd G3 a1 (HO.lst [V.int (↑n : Int)]) = Ga1 at Xa1 ha1 ⊢
    have c3 := (c.ex X3).ex Xa1
    refine ⟨_, _, .lst (sq_lst (Xa1 _ _ hm3)) (dp_nat K _ [n]), .lst (sq_lst ha1) (dp_nat K _ [n]), shaped_nat _, shaped_nat _, ?_⟩
    rw [SeqAt.eqv_refl _ (show PyData.canLay0 (.list _) = true from rfl)]
    refine ⟨_, rfl, iteT ?_⟩
    refine ⟨_, rfl, _, rfl, m, r, ys, rfl, c3.at_, c3.len, c3.all, Xa1 _ _ (X3 _ _ hr_), fun G5 X5 => ?_⟩
    have c5 := c3.ex X5
    exact q G5 ⟨c5.pot, fun b o nb z => c5.keep b o nb (ne_of_none z nm) (X1 _ _ z)⟩
theorem ok__law_ats_right {P : Program} {w : World} {K : PySem.W.Frag} {mg : Str → Option Value} {base : Heap} (T : Env K mg) : Fc P w K mg base 131 (He.ga K "_law_ats_right") [] (sp__law_ats_right K ) := by
  obtain ⟨fd, D, F⟩ := fb__law_ats_right T
  exact F.all (D.bindsN fun _ _ _ _ _ _ us hl => match us, hl with | [_, _, _], _ => rfl)
end
section
theorem okL_one {t : Tr} (h : t.ok) : okL_ [t] := by
  unfold okL_
  exact ⟨h, by unfold okL_; trivial⟩
theorem nestL_one (t : Tr) : nestL [t] = t.nest := by simp [nestL]
theorem pcsL_one (t : Tr) : pcsL [t] = t.pcs := by simp [pcsL]
theorem momsL_one (t : Tr) : momsL [t] = t.moms := by simp [momsL]
end
section
theorem lc_dts {K : PySem.W.Frag} {J : It} {Gd Qd : Hp → Prop} {G0 : Hp} {D : Addr} {bs : List Addr} {ts : List Tr} {g : TG} {tt : TT} {te : TE} {vs : List Nat} {σ : L2.St} (nD : G0 D = none) (w : L2.Walk J (bs.map V.ref).length Gd (L2.YAt (bs.map V.ref))) (hG : ∀ H, Ex G0 H → Gd H) (hB : DtsAt G0 ts bs) (hn : ts.length ≤ 2000)
    (hs : ∀ (c : Addr) (t : Tr) (H : Hp) (acc : List V) (N : Hp → Prop), t ∈ ts → DtAt H t c → Ex G0 H → H D = some (.lst acc) → acc.length < sizeLine → (∀ x H4, Ex H H4 → H4 D = some (.lst acc) → ShAt K H4 t x → N (upd H4 D (.lst (acc ++ [.ref x])))) → L3.Turn g tt te vs σ D (.ref c) H N)
    (hd : ∀ as H, Ex G0 H → H D = some (.lst (as.map V.ref)) → ShsAt K H ts as → Qd H) :
    ∃ W : Nat → Nat → Hp → Prop, (∃ m, W 0 m (upd G0 D (.lst []))) ∧ ∀ i m H, W i m H →
      (J.stop i H ∧ Qd H) ∨ (J.go i H ∧ ∃ Nx : Hp → Prop, (∀ H', Nx H' → ∃ m', m' < m ∧ W (i + 1) m' H') ∧ ∀ x H', J.yld i H x H' → L3.Turn g tt te vs σ D x H' Nx) := by
  have hlB := hB.len
  refine lc_any w (fun i acc G => Ex G0 G ∧ (G D = none ∨ ∃ xs, G D = some (.lst xs)) ∧ ∃ as, acc = as.map V.ref ∧ ShsAt K G (ts.take i) as) (fun i acc G z e => ?_) ⟨.refl _, .inl nD, [], rfl, by unfold ShsAt; rfl⟩ (by rw [List.length_map]; omega) (fun i acc G e => ?_) (fun i acc G e => hG _ e.1) (fun i x G G' acc N hi e hA la y k _ => ?_) (fun acc G e hA => ?_)
  · obtain ⟨e1, e2, as, e3, e4⟩ := e
    refine ⟨ex_mut e1 nD, .inr ⟨z, upd_same⟩, as, e3, e4.oth ((Oth.refl D G).upd) fun ob h => ?_⟩
    rcases e2 with h2 | ⟨xs, h2⟩
    · rw [h2] at h
      cases h
    · rw [h2] at h
      cases h
      exact ⟨xs, rfl⟩
  · obtain ⟨_, _, as, rfl, h1⟩ := e
    rw [List.length_map, h1.len, List.length_take]
    omega
  · obtain ⟨rfl, y⟩ := y
    obtain ⟨XG, _, as, rfl, h1⟩ := e
    rw [List.getElem?_map] at y
    obtain ⟨c, hc, rfl⟩ := Option.map_eq_some_iff.mp y
    obtain ⟨t, ht, hDt⟩ := hB.get hc
    refine hs c t _ _ _ (List.mem_of_getElem? ht) (hDt.mono XG) XG hA la fun x H4 X4 hD4 hx => k _ H4 hD4 ⟨XG.trans X4, .inr ⟨_, hD4⟩, as ++ [x], by rw [List.map_append]; rfl, ?_⟩
    rw [take_snoc ht]
    exact (h1.mono X4).snoc hx
  · obtain ⟨XG, _, as, rfl, h1⟩ := e
    rw [List.length_map, hlB, List.take_length] at h1
    exact hd as G XG hA h1
end
section
def AlAt (K : PySem.W.Frag) (N : Addr → Prop) (H : Hp) (ts : List Tr) (zs : List Addr) : Prop := zs.length = ts.length ∧ ∀ (i : Nat) (z : Addr) (t : Tr), zs[i]? = some z → ts[i]? = some t → SprAt K H z [t] ∧ HeldN K N H z
theorem AlAt.mono {K : PySem.W.Frag} {N : Addr → Prop} {H H' : Hp} {ts : List Tr} {zs : List Addr} (h : AlAt K N H ts zs) (e : Ex H H') : AlAt K N H' ts zs := ⟨h.1, fun i z t hz ht => by
  obtain ⟨a, b⟩ := h.2 i z t hz ht
  exact ⟨a.mono e, b.ex a fun o q => e _ _ q⟩⟩
theorem AlAt.put {K : PySem.W.Frag} {N : Addr → Prop} {H : Hp} {ts : List Tr} {zs : List Addr} {f : Addr} {xs ys : List V} (h : AlAt K N H ts zs) (n : ∀ b, N b → b ≠ f) (hf : H f = some (.lst xs)) : AlAt K N (upd H f (.lst ys)) ts zs := ⟨h.1, fun i z t hz ht => by
  obtain ⟨a, b⟩ := h.2 i z t hz ht
  exact a.put b n hf⟩
theorem AlAt.snoc {K : PySem.W.Frag} {N : Addr → Prop} {H : Hp} {ts : List Tr} {zs : List Addr} {t : Tr} {z : Addr} (h : AlAt K N H ts zs) (s : SprAt K H z [t]) (n : HeldN K N H z) : AlAt K N H (ts ++ [t]) (zs ++ [z]) := by
  refine ⟨by rw [List.length_append, List.length_append, h.1]; rfl, fun i z' t' hz ht => ?_⟩
  by_cases c : i < zs.length
  · rw [List.getElem?_append_left c] at hz
    rw [List.getElem?_append_left (by rw [← h.1]; exact c)] at ht
    exact h.2 i z' t' hz ht
  · have c2 : i < (zs ++ [z]).length := (List.getElem?_eq_some_iff.mp hz).1
    rw [List.length_append] at c2
    have e : i = zs.length := by
      have : i < zs.length + 1 := c2
      omega
    subst e
    rw [List.getElem?_append_right (Nat.le_refl _), Nat.sub_self] at hz
    rw [h.1, List.getElem?_append_right (Nat.le_refl _), Nat.sub_self] at ht
    cases hz
    cases ht
    exact ⟨s, n⟩
theorem lc_alone {K : PySem.W.Frag} {J : It} {Gd Qd : Hp → Prop} {G0 : Hp} {D : Addr} {bs : List Addr} {ts : List Tr} {g : TG} {tt : TT} {te : TE} {vs : List Nat} {σ : L2.St} (nD : G0 D = none) (w : L2.Walk J (bs.map V.ref).length Gd (L2.YAt (bs.map V.ref))) (hG : ∀ H, Ex G0 H → Gd H) (hB : ShsAt K G0 ts bs) (hn : ts.length ≤ 2000)
    (hs : ∀ (c : Addr) (t : Tr) (H : Hp) (acc : List V) (N : Hp → Prop), t ∈ ts → ShAt K H t c → Ex G0 H → H D = some (.lst acc) → acc.length < sizeLine → (∀ x H4, Ex H H4 → H4 D = some (.lst acc) → SprAt K H4 x [t] → HeldN K (fun b => G0 b = none ∧ b ≠ D) H4 x → N (upd H4 D (.lst (acc ++ [.ref x])))) → L3.Turn g tt te vs σ D (.ref c) H N)
    (hd : ∀ zs H, Ex G0 H → H D = some (.lst (zs.map V.ref)) → AlAt K (fun b => G0 b = none ∧ b ≠ D) H ts zs → Qd H) :
    ∃ W : Nat → Nat → Hp → Prop, (∃ m, W 0 m (upd G0 D (.lst []))) ∧ ∀ i m H, W i m H →
      (J.stop i H ∧ Qd H) ∨ (J.go i H ∧ ∃ Nx : Hp → Prop, (∀ H', Nx H' → ∃ m', m' < m ∧ W (i + 1) m' H') ∧ ∀ x H', J.yld i H x H' → L3.Turn g tt te vs σ D x H' Nx) := by
  have hlB := hB.len
  refine lc_any w (fun i acc G => Ex G0 G ∧ (G D = none ∨ ∃ xs, G D = some (.lst xs)) ∧ ∃ zs, acc = zs.map V.ref ∧ AlAt K (fun b => G0 b = none ∧ b ≠ D) G (ts.take i) zs) (fun i acc G z e => ?_) ⟨.refl _, .inl nD, [], rfl, rfl, fun i z t hz _ => nomatch hz⟩ (by rw [List.length_map]; omega) (fun i acc G e => ?_) (fun i acc G e => hG _ e.1) (fun i x G G' acc N hi e hA la y k _ => ?_) (fun acc G e hA => ?_)
  · obtain ⟨e1, e2, zs, e3, e4⟩ := e
    refine ⟨ex_mut e1 nD, .inr ⟨z, upd_same⟩, zs, e3, ?_⟩
    rcases e2 with h2 | ⟨xs, h2⟩
    · exact e4.mono (ex_new h2)
    · exact e4.put (fun b h => h.2) h2
  · obtain ⟨_, _, zs, rfl, h1⟩ := e
    rw [List.length_map, h1.1, List.length_take]
    omega
  · obtain ⟨rfl, y⟩ := y
    obtain ⟨XG, _, zs, rfl, h1⟩ := e
    rw [List.getElem?_map] at y
    obtain ⟨c, hc, rfl⟩ := Option.map_eq_some_iff.mp y
    obtain ⟨t, ht, hS⟩ := hB.get hc
    refine hs c t _ _ _ (List.mem_of_getElem? ht) (hS.mono XG) XG hA la fun x H4 X4 hD4 hx hN => k _ H4 hD4 ⟨XG.trans X4, .inr ⟨_, hD4⟩, zs ++ [x], by rw [List.map_append]; rfl, ?_⟩
    rw [take_snoc ht]
    exact (h1.mono X4).snoc hx hN
  · obtain ⟨XG, _, zs, rfl, h1⟩ := e
    rw [List.length_map, hlB, List.take_length] at h1
    exact hd zs G XG hA h1
end
section
/-- at r a list of these shorts -/
def RowAt (K : PySem.W.Frag) (H : Hp) (ts : List Tr) (r : Addr) : Prop := ∃ as, H r = some (.lst (as.map V.ref)) ∧ ShsAt K H ts as
/-- open rows, the last one first -/
def RowsAt (K : PySem.W.Frag) (H : Hp) : List (List Tr) → List Addr → Prop
  | [], rs => rs = []
  | ts :: st, rs => ∃ r q, rs = r :: q ∧ RowAt K H ts r ∧ RowsAt K H st q
theorem RowAt.mono {K : PySem.W.Frag} {H H' : Hp} {ts : List Tr} {r : Addr} (h : RowAt K H ts r) (e : Ex H H') : RowAt K H' ts r := let ⟨as, h1, h2⟩ := h; ⟨as, e _ _ h1, h2.mono e⟩
theorem RowsAt.mono {K : PySem.W.Frag} {H H' : Hp} (e : Ex H H') : ∀ {st : List (List Tr)} {rs : List Addr}, RowsAt K H st rs → RowsAt K H' st rs
  | [], rs, h => h
  | ts :: st, rs, h => by
    obtain ⟨r, q, h1, h2, h3⟩ := h
    exact ⟨r, q, h1, h2.mono e, RowsAt.mono e h3⟩
theorem RowsAt.oth {K : PySem.W.Frag} {H H' : Hp} {d : Addr} (o : Oth d H H') (hd : ∀ ob, H d = some ob → (∃ xs, ob = .lst xs)) : ∀ {st : List (List Tr)} {rs : List Addr}, d ∉ rs → RowsAt K H st rs → RowsAt K H' st rs
  | [], rs, _, h => h
  | ts :: st, rs, nd, h => by
    obtain ⟨r, q, rfl, ⟨as, h1, h2⟩, h3⟩ := h
    refine ⟨r, q, rfl, ⟨as, o _ _ (fun z => nd (by rw [z]; exact List.mem_cons_self)) h1, h2.oth o hd⟩, RowsAt.oth o hd (fun z => nd (List.mem_cons_of_mem _ z)) h3⟩
theorem RowsAt.len {K : PySem.W.Frag} {H : Hp} : ∀ {st : List (List Tr)} {rs : List Addr}, RowsAt K H st rs → rs.length = st.length
  | [], rs, h => by
    rw [show rs = [] from h]
    rfl
  | ts :: st, rs, h => by
    obtain ⟨r, q, rfl, _, h3⟩ := h
    rw [List.length_cons, List.length_cons, RowsAt.len h3]
theorem RowsAt.some {K : PySem.W.Frag} {H : Hp} {r : Addr} : ∀ {st : List (List Tr)} {rs : List Addr}, RowsAt K H st rs → r ∈ rs → ∃ xs, H r = some (.lst xs)
  | [], rs, h, hr => by
    rw [show rs = [] from h] at hr
    cases hr
  | ts :: st, rs, h, hr => by
    obtain ⟨r', q, rfl, ⟨as, h1, _⟩, h3⟩ := h
    rcases List.mem_cons.mp hr with rfl | hr
    · exact ⟨_, h1⟩
    · exact RowsAt.some h3 hr
end
section
theorem shs_one {K : PySem.W.Frag} {H : Hp} {t : Tr} {a : Addr} (h : ShAt K H t a) : ShsAt K H [t] [a] := by
  unfold ShsAt
  exact ⟨a, [], rfl, h, by unfold ShsAt; rfl⟩
end
section
theorem chg_mid {K : PySem.W.Frag} {p f : Addr} {H G : Hp} {ys : List V} {n : Nat} (c : Chg K p f H G ys n) : PotOn (upd H f (.lst ys)) G p := ⟨c.pot, fun b o nb z => by
  by_cases e : b = f
  · subst e
    rw [upd_same] at z
    cases z
    exact c.at_
  · rw [upd_ne e] at z
    exact c.keep b o nb e z⟩
theorem chg_pot {p f : Addr} {H : Hp} {ys : List V} (hp : Pot H p) (fp : f ≠ p) : Pot (upd H f (.lst ys)) p := by
  obtain ⟨x, y, e, r⟩ := hp
  exact ⟨x, y, by rw [upd_ne (Ne.symm fp)]; exact e, r⟩
theorem sh_chg {K : PySem.W.Frag} {p f a : Addr} {t : Tr} {H G : Hp} {xs ys : List V} {n : Nat} (c : Chg K p f H G ys n) (hp : Pot H p) (hf : H f = some (.lst xs)) (fp : f ≠ p) (h : ShAt K H t a) : ShAt K G t a :=
  sh_pot (chg_pot hp fp) (chg_mid c) (h.oth ((Oth.refl f H).upd) fun ob z => by rw [hf] at z; cases z; exact ⟨_, rfl⟩)
theorem SprP.chg {K : PySem.W.Frag} {p f a : Addr} {ts : List Tr} {N : Addr → Prop} {H G : Hp} {xs ys : List V} {n : Nat} (c : Chg K p f H G ys n) (hp : Pot H p) (hf : H f = some (.lst xs)) (fp : f ≠ p) (h : SprAt K H a ts) (hN : HeldN K N H a) (k : ∀ b, N b → b ≠ f ∧ b ≠ p) : SprP K G p a ts := by
  obtain ⟨s, m⟩ := h.put (ys := ys) hN (fun b z => (k b z).1) hf
  have s2 : SprP K (upd H f (.lst ys)) p a ts := ⟨s, fun dx kp hd z => (k hd (m dx kp hd z)).2⟩
  exact s2.pot (chg_pot hp fp) (chg_mid c)
end
section
def sp__law_right (K : PySem.W.Frag) : Sp := fun vs H Q _ => ∃ p, vs = [.ref p] ∧ Pot H p ∧ ∀ H', PotOn H H' p → Q (.bl true) H'
theorem fb__law_right {P : Program} {w : World} {K : PySem.W.Frag} {mg : Str → Option Value} {base : Heap} (T : Env K mg) : ∃ fd, FunD K "_law_right" "_law_right" (defArgs s__law_right) (defBody s__law_right) (defScope s__law_right) [] [] (He.ga K "_law_right") fd ∧ Fb P w K mg base 134 (He.ga K "_law_right") fd ["_law_pot_here"] (sp__law_right K) := by
  obtain ⟨fd, F⟩ := T.f__law_right
  refine ⟨fd, F, fb_of F sc__law_right (fun vs H Q E h => ?_) (fun cdv A outer s H vs Q E hr h => ?_)⟩
  · obtain ⟨p, rfl, _⟩ := h
    rfl
  · obtain ⟨p, rfl, hp, q⟩ := h
    refine ⟨_, (pss_cons (ps_set (i := 1) sc__law_right.nd rfl (Or.inl rfl) (c_call (ok__law_row T (Nat.le_add_right 60 _) (all__law_short T 9)) (hr.mono (by decide)) T.g__law_row T.k__law_row takes0 (pa_cons (pv 0) (pa_cons (c_call (ok__law_gap T) (hr.mono (by decide)) T.g__law_gap T.k__law_gap takes0 (pa_cons (pv 0) pa_nil)) (pa_cons pe_int (pa_cons pe_int (pa_cons (pe_lst (pa_cons pe_int pa_nil)) pa_nil)))))))
      (pss_cons (ps_set (i := 2) sc__law_right.nd rfl (Or.inl rfl) (c_call (ok__law_row_moments T (Nat.le_add_right 40 _) (all__law_moments T 9)) (hr.mono (by decide)) T.g__law_row_moments T.k__law_row_moments takes0 (pa_cons (pv 1) pa_nil)))
      (pss_cons (ps_set (i := 3) sc__law_right.nd rfl (Or.inr rfl) (pe_op op_add (pe_op op_add (pe_op op_sub (pe_ix ix_list (pv 2) (pe_un un_neg pe_int) (fun _ _ => rfl)) (pe_ix ix_list (pv 2) pe_int (fun _ _ => rfl))) pe_int) (c_call (ok__law_gap T) (hr.mono (by decide)) T.g__law_gap T.k__law_gap takes0 (pa_cons (pv 0) pa_nil))))
      (pss_cons (ps_setLc (i := 4) (own := [("_law_short_here", 13)]) (by rfl) sc__law_right.nd rfl rfl (sw_true rfl rfl rfl (by decide +kernel)) (pi_tup (pv 1)) (blkOk_by (own := [("_law_short_here", 13)]) (N := ["_law_pot_here", "_law_row_here", "_law_moments_here", "_law_step", "_law_shorts", "_law_handed", "_law_spread_here", "_law_over", "_law_alone", "_law_doubled", "_law_text_here", "_law_k", "_law_one", "_law_short_here", "_law_empty", "_law_moment"]) (sc := defScope s__law_right) (by decide +kernel)) (fun _ _ _ _ _ => (pg_name (i := 13) sc__law_right.nd rfl (Or.inl rfl))) (fun _ _ _ _ _ => pts_nil) (fun _ _ _ _ _ => (c_call (all__law_made T 9) (hr.mono (by decide)) T.g__law_made T.k__law_made takes0 (pa_cons (pv 13) pa_nil))))
      (pss_cons (ps_set (i := 5) sc__law_right.nd rfl (Or.inl rfl) (pe_callTy call_list_of (by rfl) T.n_list (by decide +kernel) (pa_cons (pv 4) pa_nil)))
      (pss_cons (ps_par (i := 6) (j := 7) (by rfl) sc__law_right.nd rfl rfl (by decide) rfl rfl (pa_cons (c_make T.mk_Spread (ok_Spread_init T) (hr.mono (by decide)) T.g_Spread takes0 (pa_cons (pv 5) pa_nil)) (pa_cons (c_make T.mk_Over (ok_Over_init T) (hr.mono (by decide)) T.g_Over takes0 (pa_cons (pv 5) (pa_cons pe_int (pa_cons (pv 3) pa_nil)))) pa_nil)) (by rfl))
      (pss_cons (ps_setLc (i := 8) (own := [("_law_one", 12)]) (by rfl) sc__law_right.nd rfl rfl (sw_true rfl rfl rfl (by decide +kernel)) (pi_list (pv 4)) (blkOk_by (own := [("_law_one", 12)]) (N := ["_law_pot_here", "_law_row_here", "_law_moments_here", "_law_step", "_law_shorts", "_law_handed", "_law_spread_here", "_law_over", "_law_alone", "_law_doubled", "_law_text_here", "_law_k", "_law_one", "_law_short_here", "_law_empty", "_law_moment"]) (sc := defScope s__law_right) (by decide +kernel)) (fun _ _ _ _ _ => (pg_name (i := 12) sc__law_right.nd rfl (Or.inl rfl))) (fun _ _ _ _ _ => pts_nil) (fun _ _ _ _ _ => (c_make T.mk_Spread (ok_Spread_init T) (hr.mono (by decide)) T.g_Spread takes0 (pa_cons (pe_lst (pa_cons (pv 12) pa_nil)) pa_nil))))
      (pss_cons (ps_expr (c_call (ok__law_change T) (hr.mono (by decide)) T.g__law_change T.k__law_change takes0 (pa_cons (pv 0) (pa_cons (pv 5) pa_nil))))
      (pss_cons (ps_set (i := 9) sc__law_right.nd rfl (Or.inl rfl) (pe_op op_cat (pv 2) (pe_lc (own := [("_law_moment", 15)]) (by rfl) sc__law_right.nd (pi_list (pv 2)) (blkOk_by (own := [("_law_moment", 15)]) (N := ["_law_pot_here", "_law_row_here", "_law_moments_here", "_law_step", "_law_shorts", "_law_handed", "_law_spread_here", "_law_over", "_law_alone", "_law_doubled", "_law_text_here", "_law_k", "_law_one", "_law_short_here", "_law_empty", "_law_moment"]) (sc := defScope s__law_right) (by decide +kernel)) (fun _ _ _ _ _ => (pg_name (i := 15) sc__law_right.nd rfl (Or.inl rfl))) (fun _ _ _ _ _ => pts_nil) (fun _ _ _ _ _ => (pe_op op_add (pv 15) (pv 3))))))
      (pss_cons (ps_set (i := 10) sc__law_right.nd rfl (Or.inl rfl) (c_call (ok__law_text T (Nat.le_add_right 40 _) (all__law_word T 9)) (hr.mono (by decide)) T.g__law_text T.k__law_text takes0 (pa_cons (pv 1) pa_nil)))
      (Evl.pss_cut (ps_for (passes_of rfl) rfl (pi_range1 (by rfl) T.n_range (pa_cons pe_int pa_nil)) (pg_name (i := 11) sc__law_right.nd rfl (Or.inl rfl))
      (pss_cons (ps_if (pt_not (pt_val (c_call (ok__law_asked T) (hr.mono (by decide)) T.g__law_asked T.k__law_asked takes0 (pa_cons (pv 0) (pa_cons (pv 6) (pa_cons (pv 1) (pa_cons (pv 2) (pa_cons (pv 10) pa_nil))))))))
      (pss_one (ps_ret pe_bl))
      pss_nil)
      (pss_cons (ps_if (pt_not (pt_val (c_call (ok__law_asked T) (hr.mono (by decide)) T.g__law_asked T.k__law_asked takes0 (pa_cons (pv 0) (pa_cons (pv 7) (pa_cons (pv 1) (pa_cons (pv 9) (pa_cons (pe_op op_add_str (pe_op op_add_str (pe_op op_add_str pe_str (pv 10)) pe_str) (pe_callTy call_str_int (by rfl) T.n_str (by decide +kernel) (pa_cons (pv 3) pa_nil))) pa_nil))))))))
      (pss_one (ps_ret pe_bl))
      pss_nil)
      (pss_one (ps_for (passes_of rfl) rfl (L3.pi_zipM (by rfl) T.n_zip (pa_cons (pv 8) (pa_cons (pv 1) pa_nil))) (pg_tup (by rfl) (pgs_cons (pg_name (i := 12) sc__law_right.nd rfl (Or.inl rfl)) (pgs_cons (pg_name (i := 13) sc__law_right.nd rfl (Or.inl rfl)) pgs_nil)))
      (pss_one (ps_if (pt_not (pt_val (c_call (ok__law_asked T) (hr.mono (by decide)) T.g__law_asked T.k__law_asked takes0 (pa_cons (pv 0) (pa_cons (pv 12) (pa_cons (pe_tup (pa_cons (pv 13) pa_nil)) (pa_cons (c_call (all__law_moments T 9) (hr.mono (by decide)) T.g__law_moments T.k__law_moments takes0 (pa_cons (pv 13) pa_nil)) (pa_cons (c_call (all__law_word T 9) (hr.mono (by decide)) T.g__law_word T.k__law_word takes0 (pa_cons (pv 13) pa_nil)) pa_nil))))))))
      (pss_one (ps_ret pe_bl))
      pss_nil)))))))
      (pss_cons (ps_if (PW.pt (pw_or (pt_cmpR op_ne (c_meth0 (pv 6) T.c_Spread T.m_Spread_pieces (ok_Spread_pieces T) (hr.mono (by decide)) takes0) (c_call (all__law_pieces T 10) (hr.mono (by decide)) T.g__law_pieces T.k__law_pieces takes0 (pa_cons (pv 1) pa_nil)) (nomark _)) (pw_or1 (pt_cmpR op_ne (c_meth0 (pv 7) T.c_Over T.m_Over_pieces (all_Over_pieces T 10) (hr.mono (by decide)) takes0) (pe_op op_add pe_int (c_call (all__law_pieces T 10) (hr.mono (by decide)) T.g__law_pieces T.k__law_pieces takes0 (pa_cons (pv 1) pa_nil))) (nomark _)))))
      (pss_one (ps_ret pe_bl))
      pss_nil)
      (pss_cons (ps_set (i := 14) sc__law_right.nd rfl (Or.inl rfl) (c_make T.mk_Spread (ok_Spread_init T) (hr.mono (by decide)) T.g_Spread takes0 (pa_cons (pe_lst pa_nil) pa_nil)))
      (pss_cons (ps_if (PW.pt (pw_or (pt_not (pt_val (c_call (ok__law_asked T) (hr.mono (by decide)) T.g__law_asked T.k__law_asked takes0 (pa_cons (pv 0) (pa_cons (pv 14) (pa_cons (pe_tup pa_nil) (pa_cons (pe_lst pa_nil) (pa_cons pe_str pa_nil)))))))) (pw_or (pt_not (pt_val (c_call (ok__law_asked T) (hr.mono (by decide)) T.g__law_asked T.k__law_asked takes0 (pa_cons (pv 0) (pa_cons (pv 14) (pa_cons (pe_tup pa_nil) (pa_cons (pe_lst pa_nil) (pa_cons pe_str pa_nil)))))))) (pw_or1 (pt_cmpR op_ne (pe_callB (call_lenO T.m_Spread_len (ok_Spread_len T) (hr.mono (by decide))) (by rfl) T.n_len (by decide +kernel) (pa_cons (pv 14) pa_nil)) pe_int (nomark _))))))
      (pss_one (ps_ret pe_bl))
      pss_nil)
      (pss_one (ps_ret (c_call (ok__law_ats_right T) (hr.mono (by decide)) T.g__law_ats_right T.k__law_ats_right takes0 (pa_cons (pv 0) (pa_cons (c_make T.mk_At (ok_At_init T) (hr.mono (by decide)) T.g_At takes0 (pa_cons (pe_ix ix_list (pv 2) pe_int (fun _ _ => rfl)) pa_nil)) (pa_cons (pe_ix ix_list (pv 2) pe_int (fun _ _ => rfl)) pa_nil)))))))))))))))))))), ?_⟩
    refine ⟨_, rfl, _, rfl, p, rfl, hp, fun g H1 hg P1 => ?_⟩
    refine ⟨(by decide), ?_⟩
    intro a1 na1
    have Xa1 := ex_new (o := HO.lst [V.int 30]) na1
    have ha1 : upd H1 a1 (HO.lst [V.int 30]) a1 = some (HO.lst [V.int 30]) := upd_same
    generalize upd H1 a1 (HO.lst [V.int 30]) = Ga1 at Xa1 ha1 ⊢
    have P2 := P1.ex2 Xa1
    have lp : a1 ≠ p := pot_ne P1 na1
    have lH : H a1 = none := P1.fresh na1
    refine ⟨p, a1, g, 24, 3, 30, rfl, P2.1, ha1, lp, by decide, by decide, by decide, by decide, by decide, fun r bs ts k' H3 k0 kp hr3 hB3 ts0 hok hne hri hhd hlen hlast hl3 PL => ?_⟩
    have P3 : PotOn H H3 p := ⟨PL.1, fun b o nb z => PL.2 b o nb (ne_of_none z lH) (P2.2 b o nb z)⟩
    have hn3 : nestL ts ≤ 3 := nestL_le hne
    have hpc : pcsL ts ≤ 30 := by omega
    have pw := ris_sorted hok hri
    have hb : ∀ n ∈ momsL ts, n < 10 ^ 60 := fun n hn => by
      have h1 := le_lastD pw n hn
      have h2 : (momsL ts).length * ((2 * 3 + 2) * GAP) ≤ 24 * ((2 * 3 + 2) * GAP) := Nat.mul_le_mul_right _ hlen
      have h3 : (10 : Nat) ^ 50 + 24 * ((2 * 3 + 2) * GAP) < 10 ^ 60 := by decide +kernel
      omega
    have mne := momsL_ne hok ts0
    clear PL P2 P1 lp ha1 Xa1 na1 lH hl3 kp k0
    refine ⟨_, rfl, r, bs, ts, rfl, hr3, hB3, fun t ht => by have := hne t ht; omega, hok, by omega, fun u H4 X4 nu hu => ?_⟩
    have P4 := P3.ex2 X4
    have up : u ≠ p := pot_ne P3 nu
    have hr4 := X4 _ _ hr3
    have hB4 := hB3.mono X4
    have aL := at_lastN mne
    have aH := at_headN mne
    have P4' := P4.1
    clear hr3 hB3 P3 X4
    refine ⟨_, rfl, _, rfl, _, _, _, _, rfl, rfl, (sq_lst hu), aL, _, rfl, _, _, _, _, rfl, rfl, (sq_lst hu), aH, _, _, rfl, rfl, _, _, rfl, rfl, _, rfl, _, rfl, P4', ?_⟩
    intro n2 H5 hn2 P5
    have hfl : (momsL ts).headD 0 ≤ (momsL ts).getLastD 0 := headD_le pw _ (lastD_mem mne)
    obtain ⟨st, est⟩ : ∃ st : Nat, (st : Int) = ((momsL ts).getLastD 0 : Int) - ((momsL ts).headD 0 : Int) + 1 + (n2 : Int) := ⟨(momsL ts).getLastD 0 - (momsL ts).headD 0 + 1 + n2, by omega⟩
    have P05 := P4.trans P5
    have hu5 := P5.2 _ _ up hu
    have hr5 := P5.2 _ _ (pot_other P4' hr4 (fun _ _ z => nomatch z)) hr4
    have hB5 := hB4.keep (fun b xs z => P5.2 b _ (pot_other P4' z (fun _ _ z => nomatch z)) z)
    have hlB := hB5.len
    clear hr4 hB4 hu P4 P5 P4'
    refine ⟨_, _, rfl, rfl, ?_⟩
    dsimp only
    rw [← est]
    have est' : (momsL ts).getLastD 0 < st + (momsL ts).headD 0 := by omega
    refine ⟨_, rfl, _, rfl, ⟨_, (sq_tup hr5)⟩, ?_⟩
    intro A nA
    have htl := len_moms hok
    refine lc_dts (K := K) nA L2.walk_tup (fun G e => sq_tup (K := K) (e _ _ hr5)) hB5 (by omega) (fun c t G acc N ht hDt XG hD la k => ?_) (fun as G6 X6 hA6 hSh6 => ?_)
    · have h3 := hne t ht
      refine ⟨rfl, _, rfl, c, t, rfl, hDt, by omega, by omega, okL_mem hok ht, fun a2 G2 X2 na2 hS2 => ⟨acc, X2 _ _ hD, la, ?_⟩⟩
      exact k a2 G2 X2 (X2 _ _ hD) hS2
    have P6 := P05.ex2 X6
    have Ap : A ≠ p := pot_ne P05 nA
    have hu6 := X6 _ _ hu5
    have hr6 := X6 _ _ hr5
    have hB6 := hB5.mono X6
    have hlA := hSh6.len
    clear hu5 hr5 hB5 X6 P05
    refine ⟨_, rfl, A, _, rfl, .inl (sq_lst hA6), fun f nf => ?_⟩
    have Xf := ex_new (o := HO.lst (as.map V.ref)) nf
    have hf : upd G6 f (HO.lst (as.map V.ref)) f = some (HO.lst (as.map V.ref)) := upd_same
    generalize upd G6 f (HO.lst (as.map V.ref)) = G7 at Xf hf ⊢
    have fp : f ≠ p := pot_ne P6 nf
    have P7 := P6.ex2 Xf
    have hu7 := Xf _ _ hu6
    have hr7 := Xf _ _ hr6
    have hB7 := hB6.mono Xf
    have hSh7 := hSh6.mono Xf
    have hA7 := Xf _ _ hA6
    have uf : u ≠ f := ne_of_none hu6 nf
    have Af : A ≠ f := ne_of_none hA6 nf
    have h8 : nestL ts ≤ 8 := by omega
    have hsb : sprB ts = true := by
      unfold sprB
      rw [hri, decide_eq_true (by omega)]
      rfl
    clear hu6 hr6 hB6 hSh6 hA6 Xf
    refine ⟨_, rfl, fun x1 dx1 nx1 nd1 ne1 => spread_newH nx1 nd1 ne1 (.inl hf) hSh7 h8 hok hsb fun G8 X8 hSp1 hN1 => ⟨rfl, ?_⟩⟩
    have okO : (Tr.ov ts 2 st).ok := by
      unfold Tr.ok
      exact ⟨ts0, Nat.le_refl 2, by omega, by omega, est', pw, hok⟩
    have n8O : (Tr.ov ts 2 st).nest ≤ 8 := by
      unfold Tr.nest
      omega
    refine ⟨_, rfl, _, rfl, fun y1 dy1 ny1 ndy1 ney1 => ⟨rfl, over_newT (m := 2) (as := as) ny1 ndy1 ney1 (.inl (X8 _ _ hf)) (hSh7.mono X8) okO n8O fun G9 X9 hO => ⟨rfl, ?_⟩⟩⟩
    have X79 := X8.trans X9
    have hA9 := X79 _ _ hA7
    have hSh9 := hSh7.mono X79
    refine ⟨_, _, rfl, ?_⟩
    refine ⟨_, rfl, _, rfl, ⟨_, (sq_lst hA9)⟩, ?_⟩
    intro D nD
    refine lc_alone (K := K) nD L2.walk_list (fun G e => sq_lst (K := K) (e _ _ hA9)) hSh9 (by omega) (fun c t G acc N ht hS XG hD la k => ?_) (fun zs GA XA hDA hAl => ?_)
    · refine ⟨rfl, _, rfl, (by show 1 ≤ sizeLine; decide), fun b nb => ?_⟩
      have Xb := ex_new (o := HO.lst [V.ref c]) nb
      have hb' : upd G b (HO.lst [V.ref c]) b = some (HO.lst [V.ref c]) := upd_same
      generalize upd G b (HO.lst [V.ref c]) = Gb at Xb hb' ⊢
      have ht3 := hne t ht
      have hml := momsL_le ht
      have s1 : sprB [t] = true := by
        unfold sprB
        rw [show risB [t] = true from rfl, momsL_one, decide_eq_true (by omega)]
        rfl
      refine fun x dx nx nd ne => spread_newH nx nd ne (as := [c]) (.inl hb') (shs_one (hS.mono Xb)) (by rw [nestL_one]; omega) (okL_one (okL_mem hok ht)) s1 fun G2 X2 hx hN => ⟨rfl, ?_⟩
      have hD2 := X2 _ _ (Xb _ _ hD)
      exact ⟨acc, hD2, la, k x G2 (Xb.trans X2) hD2 hx fun dx kp hd z => ⟨ex_fresh (XG.trans Xb) (hN dx kp hd z), fun e => by have w := hN dx kp hd z; rw [e, Xb _ _ hD] at w; cases w⟩⟩
    have X7A := X79.trans XA
    have PA := P7.ex2 X7A
    have hfA := X7A _ _ hf
    have hSpA := hSp1.mono (X9.trans XA)
    have hN1A : HeldN K (fun b => G7 b = none) GA x1 := hN1.ex hSp1 fun o z => (X9.trans XA) _ _ z
    have hOA := hO.mono XA
    have huA := X7A _ _ hu7
    have hrA := X7A _ _ hr7
    have hBA := hB7.mono X7A
    have toldA : ∀ v ∈ as.map V.ref, Told K GA v := fun v hv => by
      obtain ⟨b, hb, rfl⟩ := List.mem_map.mp hv
      obtain ⟨i, hi⟩ := List.mem_iff_getElem?.mp hb
      obtain ⟨t, ht, hS⟩ := (hSh9.mono XA).get hi
      exact .inl ⟨b, t, rfl, hS⟩
    have Df : D ≠ f := (ne_of_none (X79 _ _ hf) nD).symm
    have Dp : D ≠ p := pot_ne (P7.ex2 X79) nD
    have G9f : G9 f ≠ none := fun z => by rw [X79 _ _ hf] at z; cases z
    refine ⟨_, rfl, _, rfl, p, f, as.map V.ref, rfl, PA.1, fp, hfA, by rw [List.length_map]; omega, toldA, fun r1 ys GB c rp1 rf1 nr1 hr1 => ?_⟩
    have G7f : G7 f ≠ none := fun z => by rw [hf] at z; cases z
    have G7p : G7 p ≠ none := fun z => by obtain ⟨x, y, e, _⟩ := P7.1; rw [e] at z; cases z
    have SpB : SprP K GB p x1 ts := SprP.chg c PA.1 hfA fp hSpA hN1A fun b z => ⟨fun e => G7f (e ▸ z), fun e => G7p (e ▸ z)⟩
    have hOB := sh_chg c PA.1 hfA fp hOA
    have huB := c.keep _ _ up uf huA
    have rf : r ≠ f := ne_of hrA hfA (fun z => nomatch z)
    have rp : r ≠ p := pot_other PA.1 hrA (fun _ _ z => nomatch z)
    have hrB := c.keep _ _ rp rf hrA
    have hDB := c.keep _ _ Dp Df hDA
    have hBB := hBA.keep (fun b xs z => c.keep b _ (pot_other PA.1 z (fun _ _ z => nomatch z)) (ne_of z hfA (fun z => nomatch z)) z)
    have AlB : ∀ (i : Nat) (z : Addr) (t : Tr), zs[i]? = some z → ts[i]? = some t → SprP K GB p z [t] := fun i z t hz ht => by
      obtain ⟨s1, s2⟩ := hAl.2 i z t hz ht
      exact SprP.chg c PA.1 hfA fp s1 s2 fun b w => ⟨fun e => G9f (e ▸ w.1), fun e => by
        have w2 := X79.free w.1
        exact G7p (e ▸ w2)⟩
    have lzs := hAl.1
    have fH : H f = none := P6.fresh nf
    have PB : PotOn H GB p := ⟨c.pot, fun b o nb z => c.keep b o nb (ne_of_none z fH) (PA.2 b o nb z)⟩
    clear hDA hBA hrA huA hOA hSpA hN1A hAl hSh9 hA9 hSh7 hA7 hf hu7 hr7 hB7 hO hSp1 hN1 toldA
    refine ⟨_, rfl, _, rfl, _, rfl, ⟨_, (sq_lst huB)⟩, ?_⟩
    intro E0 nE
    refine lc_on (momsL ts) (fun n : Nat => V.int n) L2.walk_list (fun n => some (.int ((n + st : Nat) : Int))) (fun G => Ex GB G) (fun G z e => ex_mut e nE) (.refl _) (by omega) (fun G e => sq_lst (e _ _ huB)) (fun j n G acc N_ hn XG hB la k => ?_) fun GC XC dGC => ?_
    · refine ⟨rfl, _, rfl, _, rfl, _, _, rfl, rfl, acc, hB, la, ?_⟩
      have z := k G XG hB
      have e1 : ((n : Nat) : Int) + ((st : Nat) : Int) = ((n + st : Nat) : Int) := by omega
      rw [← e1] at z
      exact z
    have ed1 : (momsL ts).filterMap (fun n => some (V.int ((n + st : Nat) : Int))) = natV ((momsL ts).map fun n => n + st) := by
      unfold natV
      rw [List.filterMap_eq_map', List.map_map]
      rfl
    rw [ed1] at dGC
    refine ⟨u, E0, _, _, rfl, rfl, XC _ _ huB, dGC, sz_big (by rw [natV_len, natV_len, List.length_map]; omega), fun dd ndd => ?_⟩
    have edb : natV (momsL ts) ++ natV ((momsL ts).map fun n => n + st) = natV (Tr.ov ts 2 st).moms := by
      have e2 : (Tr.ov ts 2 st).moms = momsL ts ++ (momsL ts).map fun n => n + st := by
        unfold Tr.moms
        rw [overN_succ, overN_succ]
        have z0 : overN (momsL ts) 0 st = [] := rfl
        have z1 : ((momsL ts).map fun n => n + 0 * st) = momsL ts := by
          conv => rhs; rw [← List.map_id (momsL ts)]
          exact List.map_congr_left fun a _ => by simp
        have z2 : ((momsL ts).map fun n => n + 1 * st) = (momsL ts).map fun n => n + st := List.map_congr_left fun a _ => by omega
        rw [z0, z1, z2, List.nil_append]
      rw [e2]
      unfold natV
      rw [List.map_append]
    rw [edb]
    have Xd := ex_new (o := HO.lst (natV (Tr.ov ts 2 st).moms)) ndd
    have hdd : upd GC dd (HO.lst (natV (Tr.ov ts 2 st).moms)) dd = some (HO.lst (natV (Tr.ov ts 2 st).moms)) := upd_same
    generalize upd GC dd (HO.lst (natV (Tr.ov ts 2 st).moms)) = GD at Xd hdd ⊢
    have XBD := XC.trans Xd
    have hft := fitL_of hok (fun n hn => Nat.lt_trans (hb n hn) (by decide +kernel))
    have ddp : dd ≠ p := pot_ne (PB.ex2 XC) ndd
    have hrD := XBD _ _ hrB
    have hBD := hBB.mono XBD
    clear dGC nE
    refine ⟨_, rfl, _, _, _, rfl, hrD, hBD, ?_⟩
    refine ⟨fun t ht => by have := hne t ht; omega, hft, by omega, fun GE XE => ?_⟩
    have XBE := XBD.trans XE
    have PE := PB.ex2 XBE
    have SpE := SpB.mono XBE
    have hOE := hOB.mono XBE
    have huE := XBE _ _ huB
    have hrE := XE _ _ hrD
    have hDE := XBE _ _ hDB
    have hddE := XE _ _ hdd
    have hBE := hBD.mono XE
    have AlE : ∀ (i : Nat) (z : Addr) (t : Tr), zs[i]? = some z → ts[i]? = some t → SprP K GE p z [t] := fun i z t hz ht => (AlB i z t hz ht).mono XBE
    have PE' := PE.1
    clear SpB hOB huB hrB hrD hDB hdd hBB hBD AlB XBE XBD
    refine ⟨fun σ G => PotOn GE G p ∧ ∃ v11 v12 v13, σ = [some (.ref p), some (.ref r), some (.ref u), some (.int (st : Nat)), some (.ref A), some (.ref f), some (.ref x1), some (.ref y1), some (.ref D), some (.ref dd), some (.str (SX.S (rowT (txtL ts)))), v11, v12, v13, none, none], ?_, ?_⟩
    · refine ⟨_, rfl, (by decide), (by decide), ?_⟩
      refine for_range (fun i σ G => PotOn GE G p ∧ ∃ v11 v12 v13, σ = [some (.ref p), some (.ref r), some (.ref u), some (.int (st : Nat)), some (.ref A), some (.ref f), some (.ref x1), some (.ref y1), some (.ref D), some (.ref dd), some (.str (SX.S (rowT (txtL ts)))), v11, v12, v13, none, none]) ⟨.refl PE', _, _, _, rfl⟩ ?_ ?_
      · rintro i σ G hi ⟨PG, v11, v12, v13, rfl⟩
        have rE := pot_other PE' hrE (fun _ _ z => nomatch z)
        have hrG := PG.2 _ _ rE hrE
        have huG := PG.2 _ _ up huE
        have hBG := hBE.keep (fun b xs z => PG.2 b _ (pot_other PE' z (fun _ _ z => nomatch z)) z)
        have SpG := SpE.pot PE' PG
        have hb80 : ∀ n ∈ momsL ts, n < 10 ^ 80 := fun n hn => Nat.lt_trans (hb n hn) (by decide +kernel)
        refine ⟨_, rfl, _, rfl, _, rfl, _, rfl, _, rfl, p, x1, r, u, bs, ts, momsL ts, _, rfl, PG.1, .inl ⟨SpG, rfl, rfl, by omega, hft, by omega⟩, hrG, hBG, huG, up, hb80, by omega, fun t ht => by have := hne t ht; omega, by omega, hft, by omega, fun G2 P2 => ⟨true, rfl, iteF ?_⟩⟩
        have PG2 := PG.trans P2
        refine ⟨_, rfl, _, rfl, _, rfl, _, rfl, _, rfl, _, _, rfl, rfl, ?_⟩
        have rl := rowT_len hft
        have hst : st < 10 ^ 255 := by
          have h1 := hb _ (lastD_mem mne)
          have h3 : (10 : Nat) ^ 60 + 10 ^ 50 + 1 < 10 ^ 255 := by decide +kernel
          omega
        have l2 := TL.numL_len (by decide) hst
        have b2 : ((st : Nat) : Int).natAbs.log2 < 1920 := by
          rw [Int.natAbs_natCast]
          by_cases z : st = 0
          · rw [z]
            decide
          · exact (Nat.log2_lt z).mpr (Nat.lt_trans hst (by decide +kernel))
        rw [show Str.ofString "(" = SX.S [40] from rfl]
        refine ⟨sz_big (by rw [SX.S_len, SX.S_len]; simp; omega), ?_⟩
        rw [SX.S_cat]
        refine ⟨_, _, rfl, rfl, ?_⟩
        rw [show Str.ofString ") x2 +" = SX.S [41, 32, 120, 50, 32, 43] from rfl]
        refine ⟨sz_big (by rw [SX.S_len, SX.S_len]; simp; omega), ?_⟩
        rw [SX.S_cat]
        refine ⟨_, rfl, _, rfl, b2, _, _, rfl, rfl, ?_⟩
        rw [SX.num_S]
        refine ⟨sz_big (by rw [SX.S_len, SX.S_len]; simp; omega), ?_⟩
        rw [SX.S_cat]
        have hOG := sh_pot PE' PG2 hOE
        have hrG2 := PG2.2 _ _ rE hrE
        have hddG := PG2.2 _ _ ddp hddE
        have hBG2 := hBE.keep (fun b xs z => PG2.2 b _ (pot_other PE' z (fun _ _ z => nomatch z)) z)
        have etx : (Tr.ov ts 2 st).txt = [40] ++ rowT (txtL ts) ++ [41, 32, 120, 50, 32, 43] ++ TL.numL st := by
          unfold Tr.txt
          rw [show TL.numL 2 = [50] from rfl]
          simp
        have lov : (Tr.ov ts 2 st).moms.length ≤ 1440 := by
          unfold Tr.moms
          rw [overN_len]
          omega
        have bov : ∀ n ∈ (Tr.ov ts 2 st).moms, n < 10 ^ 80 := fun n hn => by
          unfold Tr.moms at hn
          obtain ⟨t, k, ht, hk, rfl⟩ := mem_overN.mp hn
          have h1 := hb k hk
          have h2 := hb _ (lastD_mem mne)
          have h3 : t * st ≤ 1 * st := Nat.mul_le_mul_right _ (by omega)
          have h4 : (10 : Nat) ^ 60 + 10 ^ 60 + 10 ^ 50 + 1 < 10 ^ 80 := by decide +kernel
          omega
        have fov : (Tr.ov ts 2 st).fit := by
          unfold Tr.fit
          exact ⟨by decide +kernel, hst, hft⟩
        have pov : (Tr.ov ts 2 st).pcs ≤ 10000 := by
          unfold Tr.pcs
          omega
        rw [← etx]
        refine ⟨p, y1, r, dd, bs, ts, _, _, rfl, PG2.1, .inr ⟨2, st, hOG, rfl, rfl, by omega, okO, fov, pov⟩, hrG2, hBG2, hddG, ddp, bov, lov, fun t ht => by have := hne t ht; omega, by omega, hft, by omega, fun G3 P3 => ⟨true, rfl, iteF ?_⟩⟩
        have PG3 := PG2.trans P3
        have hlen : (zs.map V.ref).length = (bs.map V.ref).length := by rw [List.length_map, List.length_map, lzs, hBE.len]
        clear SpG hrG huG hBG hOG hrG2 hddG hBG2 PG PG2 P2 P3
        refine ⟨_, rfl, _, rfl, D, r, zs.map V.ref, bs.map V.ref, rfl, sq_lst (PG3.2 _ _ Dp hDE), sq_tup (PG3.2 _ _ rE hrE), L2.for_it (walk_zipM (K := K) hlen) (fun i σ G => PotOn GE G p ∧ ∃ v11 v12 v13, σ = [some (.ref p), some (.ref r), some (.ref u), some (.int (st : Nat)), some (.ref A), some (.ref f), some (.ref x1), some (.ref y1), some (.ref D), some (.ref dd), some (.str (SX.S (rowT (txtL ts)))), v11, v12, v13, none, none]) ⟨PG3, _, _, _, rfl⟩ (fun j σ G _ z => ⟨sq_lst (z.1.2 _ _ Dp hDE), sq_tup (z.1.2 _ _ rE hrE)⟩) ?_ ?_⟩
        · rintro j x σ G G' hj ⟨PG, v11, v12, v13, rfl⟩ y
          obtain ⟨Tp, x, y, rfl, nT, rfl, y1, y2⟩ := y
          replace y1 : (zs.map V.ref)[j]? = some x := y1
          replace y2 : (bs.map V.ref)[j]? = some y := y2
          rw [List.getElem?_map] at y1 y2
          obtain ⟨c1, hc1, rfl⟩ := Option.map_eq_some_iff.mp y1
          obtain ⟨c2, hc2, rfl⟩ := Option.map_eq_some_iff.mp y2
          obtain ⟨t, ht, hDt0⟩ := hBE.get hc2
          have hSt0 := AlE _ _ _ hc1 ht
          have htm := List.mem_of_getElem? ht
          have htn := hne t htm
          have pm := pcsL_mem htm
          have XT := ex_new (o := .tup [.ref c1, .ref c2]) nT
          have PT := PG.ex2 XT
          have hTp : upd G Tp (.tup [.ref c1, .ref c2]) Tp = some (.tup [.ref c1, .ref c2]) := upd_same
          generalize upd G Tp (.tup [.ref c1, .ref c2]) = G4 at XT PT hTp ⊢
          have hDt := hDt0.keep (fun b xs z => PT.2 b _ (pot_other PE' z (fun _ _ z => nomatch z)) z)
          refine ⟨_, _, rfl, (sq_tup hTp), rfl, _, _, rfl, _, _, rfl, rfl, _, rfl, _, rfl, _, rfl, (by show 1 ≤ sizeLine; decide), ?_⟩
          intro a2 na2
          have Xa2 := ex_new (o := HO.tup [V.ref c2]) na2
          have ha2 : upd G4 a2 (HO.tup [V.ref c2]) a2 = some (HO.tup [V.ref c2]) := upd_same
          generalize upd G4 a2 (HO.tup [V.ref c2]) = Ga2 at Xa2 ha2 ⊢
          have hft1 := fitL_mem hft htm
          have hml := momsL_le htm
          have e1 : rowT (txtL [t]) = t.txt := by
            rw [txtL_map]
            rfl
          have fone : fitL [t] := by
            unfold fitL fitL
            exact ⟨hft1, trivial⟩
          refine ⟨_, rfl, _, _, rfl, (hDt.mono Xa2), (by omega), okL_mem hok htm, by omega, fun mp H5 X5 nmp hmp => ?_⟩
          refine ⟨_, rfl, _, _, rfl, (hDt.mono (Xa2.trans X5)), (by omega), hft1, by omega, fun H6 X6 => ?_⟩
          have X46 := Xa2.trans (X5.trans X6)
          have P6 := PT.ex2 X46
          have hS6 := (hSt0.pot PE' PT).mono X46
          refine ⟨p, c1, a2, mp, [c2], [t], t.moms, t.txt, rfl, P6.1, .inl ⟨hS6, (momsL_one t).symm, e1.symm, by rw [nestL_one]; omega, fone, by rw [pcsL_one]; omega⟩, (X5.trans X6) _ _ ha2, ⟨c2, [], rfl, hDt.mono X46, rfl⟩, X6 _ _ hmp, pot_ne (PT.ex2 Xa2) nmp, fun n hn => Nat.lt_trans (hb n (momsL_mem htm hn)) (by decide +kernel), by omega, fun z hz => ?_, by show 1 ≤ 1440; decide, fone, by rw [pcsL_one]; omega, fun G7 P7 => ⟨true, rfl, iteF ?_⟩⟩
          · rw [List.mem_singleton.mp hz]
            omega
          exact ⟨P6.trans P7, _, _, _, rfl⟩
        · rintro σ G ⟨PG, v11, v12, v13, rfl⟩
          exact ⟨PG, _, _, _, rfl⟩
      · rintro σ G ⟨PG, v11, v12, v13, rfl⟩
        exact ⟨PG, _, _, _, rfl⟩
    rintro σ G ⟨PG, v11, v12, v13, rfl⟩
    have PHG := PE.trans PG
    have rE := pot_other PE' hrE (fun _ _ z => nomatch z)
    have hrG := PG.2 _ _ rE hrE
    have huG := PG.2 _ _ up huE
    have hBG := hBE.keep (fun b xs z => PG.2 b _ (pot_other PE' z (fun _ _ z => nomatch z)) z)
    have SpG := (SpE.pot PE' PG).1
    have hOG := sh_pot PE' PG hOE
    obtain ⟨dx5, kp5, hh5, as5, hx5, _⟩ := id SpG
    refine ⟨_, rfl, _, _, _, rfl, hx5, rfl, _, _, rfl, SpG, h8, hok, (by omega), ?_⟩
    intro GF XF
    have hOF := hOG.mono XF
    have hrF := XF _ _ hrG
    have hBF := hBG.mono XF
    refine ⟨_, rfl, r, bs, ts, rfl, hrF, hBF, by omega, ⟨rfl, _, rfl, iteNS rfl ?_⟩⟩
    have hOF' := hOF
    unfold ShAt at hOF'
    obtain ⟨dx6, kp6, as6, gO, _⟩ := hOF'
    refine ⟨_, rfl, y1, _, _, rfl, gO, rfl, y1, ts, 2, st, rfl, hOF, by omega, hok, by omega, fun GH XH => ?_⟩
    have pO : (Tr.ov ts 2 st).pcs = 1 + pcsL ts := by unfold Tr.pcs; omega
    refine ⟨_, rfl, _, _, _, rfl, (XH _ _ hrF), (hBF.mono XH), (by omega), _, _, rfl, rfl, rfl, _, rfl, ?_⟩
    try dsimp only [tNil]
    rw [pO, decide_eq_true (show (V.int ((1 + pcsL ts : Nat) : Int)) = V.int (1 + (pcsL ts : Int)) by rw [Int.natCast_add]; rfl)]
    refine iteF ?_
    refine ⟨(by decide), ?_⟩
    intro a2 na2
    have Xa2 := ex_new (o := HO.lst []) na2
    have ha2 : upd GH a2 (HO.lst []) a2 = some (HO.lst []) := upd_same
    generalize upd GH a2 (HO.lst []) = Ga2 at Xa2 ha2 ⊢
    have PGH := (PHG.ex2 (XF.trans XH)).ex2 Xa2
    refine fun x3 dx3 nx3 nd3 ne3 => spread_newH nx3 nd3 ne3 (as := []) (ts := []) (.inl ha2) rfl (by decide) (by simp [okL_]) (by decide) fun GI XI hx3 hN3 => ⟨rfl, ?_⟩
    have PGI := PGH.ex2 XI
    have SpI := SprP.of hx3 hN3 PGH.1
    have e0 : rowT (txtL []) = [45] := by
      unfold txtL
      rfl
    refine ⟨_, rfl, _, rfl, (by decide), ?_⟩
    intro a3 na3
    have Xa3 := ex_new (o := HO.tup []) na3
    have ha3 : upd GI a3 (HO.tup []) a3 = some (HO.tup []) := upd_same
    generalize upd GI a3 (HO.tup []) = Ga3 at Xa3 ha3 ⊢
    refine ⟨(by decide), ?_⟩
    intro a4 na4
    have Xa4 := ex_new (o := HO.lst []) na4
    have ha4 : upd Ga3 a4 (HO.lst []) a4 = some (HO.lst []) := upd_same
    generalize upd Ga3 a4 (HO.lst []) = Ga4 at Xa4 ha4 ⊢
    have X34 := Xa3.trans Xa4
    have P4 := PGI.ex2 X34
    have e1 : ([] : List Tr).length ≤ 1440 := Nat.zero_le _
    rw [show Str.ofString "-" = SX.S [45] from rfl]
    refine ⟨p, x3, a3, a4, [], [], [], [45], rfl, P4.1, .inl ⟨(SpI.mono X34), rfl, e0.symm, by decide, by simp [fitL], by decide⟩, Xa4 _ _ ha3, rfl, ha4, pot_ne (PGI.ex2 Xa3) na4, nofun, by decide, nofun, by decide, by simp [fitL], by decide, fun G5 P5 => ⟨true, rfl, ?_⟩⟩
    refine ⟨_, rfl, _, rfl, (by decide), ?_⟩
    intro a5 na5
    have Xa5 := ex_new (o := HO.tup []) na5
    have ha5 : upd G5 a5 (HO.tup []) a5 = some (HO.tup []) := upd_same
    generalize upd G5 a5 (HO.tup []) = Ga5 at Xa5 ha5 ⊢
    refine ⟨(by decide), ?_⟩
    intro a6 na6
    have Xa6 := ex_new (o := HO.lst []) na6
    have ha6 : upd Ga5 a6 (HO.lst []) a6 = some (HO.lst []) := upd_same
    generalize upd Ga5 a6 (HO.lst []) = Ga6 at Xa6 ha6 ⊢
    have P14 := (PGI.ex2 X34).trans P5
    have SpI5 := (SpI.mono X34).pot P4.1 P5
    have X56 := Xa5.trans Xa6
    have P6 := P14.ex2 X56
    refine ⟨p, x3, a5, a6, [], [], [], [45], rfl, P6.1, .inl ⟨(SpI5.mono X56), rfl, e0.symm, by decide, by simp [fitL], by decide⟩, Xa6 _ _ ha5, rfl, ha6, pot_ne (P14.ex2 Xa5) na6, nofun, by decide, nofun, by decide, by simp [fitL], by decide, fun G7 P7 => ⟨true, rfl, ?_⟩⟩
    have P17 := P6.trans P7
    have SpI7 := (SpI5.mono X56).pot P6.1 P7
    obtain ⟨dx7, kp7, hh7, as7, gx7, _⟩ := id SpI7.1
    refine ⟨_, rfl, _, _, _, rfl, gx7, ?_⟩
    refine ⟨x3, [], rfl, SpI7.1, ⟨by omega, by show ((0 : Nat) : Int) < 2 ^ 63; decide⟩, ?_⟩
    have huG := PG.2 _ _ up huE
    have hu7 := P7.2 _ _ up (X56 _ _ (P5.2 _ _ up (X34 _ _ (XI _ _ (Xa2 _ _ ((XF.trans XH) _ _ huG))))))
    refine ⟨rfl, _, rfl, _, rfl, _, rfl, _, _, _, _, rfl, rfl, (sq_lst hu7), aH, ?_⟩
    refine fun x4 dx4 nx4 nd4 ne4 => at_new nx4 nd4 ne4 fun G8 X8 hAt => ⟨rfl, ?_⟩
    have hhd2 : (momsL ts).headD 0 < 10 ^ 80 := Nat.lt_of_le_of_lt hfl (Nat.lt_trans (hb _ (lastD_mem mne)) (by decide +kernel))
    have P8 := P17.ex2 X8
    refine ⟨_, rfl, _, _, _, _, rfl, rfl, (sq_lst (X8 _ _ hu7)), aH, ?_⟩
    exact ⟨p, x4, _, rfl, P8.1, hAt, hhd2, fun G9 P9 => q G9 (P8.trans P9)⟩
theorem ok__law_right {P : Program} {w : World} {K : PySem.W.Frag} {mg : Str → Option Value} {base : Heap} (T : Env K mg) : Fc P w K mg base 134 (He.ga K "_law_right") [] (sp__law_right K ) := by
  obtain ⟨fd, D, F⟩ := fb__law_right T
  exact F.all (D.bindsN fun _ _ _ _ _ _ us hl => match us, hl with | [_], _ => rfl)
end
section
def sp_law (K : PySem.W.Frag) : Sp := fun vs H Q _ => ∃ (a : Addr) (ns : List Int), vs = [.ref a] ∧ SqL K H a (ns.map V.int) ∧ ns.length ≤ 63 ∧ ∀ H', Q (.bl true) H'
theorem ok_law {P : Program} {w : World} {K : PySem.W.Frag} {mg : Str → Option Value} {base : Heap} (T : Env K mg) {fd : FuncData} (F : FunD K "law" "law" (defArgs s_law) (defBody s_law) (defScope s_law) [] [] (He.ga K "law") fd) : Fb P w K mg base 135 (He.ga K "law") fd ["_law_script"] (sp_law K) := by
  refine fb_of F sc_law (fun vs H Q E h => ?_) (fun cdv A outer s H vs Q E hr h => ?_)
  · obtain ⟨a, ns, rfl, _⟩ := h
    rfl
  · obtain ⟨a, ns, rfl, hS, hl, q⟩ := h
    refine ⟨_, (pss_cons (ps_for (passes_of rfl) rfl (pi_range1 (by rfl) T.n_range (pa_cons (pe_callB (call_max2 rfl) (by rfl) T.n_max (by decide +kernel) (pa_cons pe_int (pa_cons (pe_callB (call_min2 rfl) (by rfl) T.n_min (by decide +kernel) (pa_cons (pe_callB call_len (by rfl) T.n_len (by decide +kernel) (pa_cons (pv 0) pa_nil)) (pa_cons pe_int pa_nil))) pa_nil))) pa_nil)) (pg_name (i := 1) sc_law.nd rfl (Or.inl rfl))
      (pss_one (ps_if (pt_not (pt_val (c_call (ok__law_right T) (hr.mono (by decide)) T.g__law_right T.k__law_right takes0 (pa_cons (c_call (ok__law_pot T) (hr.mono (by decide)) T.g__law_pot T.k__law_pot takes0 (pa_cons (pv 0) (pa_cons (pv 1) pa_nil))) pa_nil))))
      (pss_one (ps_ret pe_bl))
      pss_nil)))
      (pss_one (ps_ret pe_bl))), ?_⟩
    refine ⟨_, rfl, _, _, rfl, .inl ⟨_, hS, rfl⟩, _, _, rfl, _, _, rfl, _, rfl, (turns_lo 4 _ (by decide)), (turns_hi 4 _ (by decide)), for_range (fun i σ H' => Ex H H' ∧ ∃ v1, σ = [some (.ref a), v1]) ⟨.refl H, _, rfl⟩ ?_ ?_⟩
    · rintro i σ H1 hi ⟨X1, v1, rfl⟩
      have i1 : i < 1000 := turns_lt 4 _ (by decide) hi
      refine ⟨_, rfl, _, rfl, a, ns, _, rfl, ex_sql X1 hS, by omega, by omega, fun p H2 np P2 K2 => ?_⟩
      have X2 : Ex H H2 := fun b o e => by rw [K2 b (ne_of_none (X1 b o e) np)]; exact X1 b o e
      have hp0 : H p = none := ex_fresh X1 np
      refine ⟨p, rfl, P2, fun H3 k3 => ⟨true, rfl, iteF ⟨fun b o e => k3.2 b o (ne_of_none e hp0) (X2 b o e), _, rfl⟩⟩⟩
    · rintro σ H1 ⟨_, _, rfl⟩
      exact q _
end
end Toy
namespace Toy
open PySem PySem.Spec PyProof.Rows L2 L3
def xf1 : List Fx := [fun K => (He.Fa.glo "is_whole").ok K,
  fun K => (He.Fa.glo "is_moment").ok K,
  fun K => (He.Fa.glo "want_moment").ok K,
  fun K => (He.Fa.glo "clock_of").ok K,
  fun K => (He.Fa.glo "show_moment").ok K,
  fun K => (He.Fa.glo "is_number").ok K,
  fun K => (He.Fa.glo "all_rising").ok K,
  fun K => (He.Fa.glo "shorts_in").ok K,
  fun K => (He.Fa.glo "row_moments").ok K,
  fun K => (He.Fa.glo "row_many").ok K,
  fun K => (He.Fa.glo "row_pieces").ok K,
  fun K => (He.Fa.glo "row_text").ok K,
  fun K => (He.Fa.glo "_law_pot").ok K,
  fun K => (He.Fa.glo "_law_draw").ok K,
  fun K => (He.Fa.glo "_law_moments").ok K,
  fun K => (He.Fa.glo "_law_row_moments").ok K,
  fun K => (He.Fa.glo "_law_wide").ok K,
  fun K => (He.Fa.glo "_law_gap").ok K,
  fun K => (He.Fa.glo "_law_short").ok K,
  fun K => (He.Fa.glo "_law_row").ok K,
  fun K => (He.Fa.glo "_law_spread").ok K,
  fun K => (He.Fa.glo "_law_pieces").ok K,
  fun K => (He.Fa.glo "_law_time").ok K,
  fun K => (He.Fa.glo "_law_word").ok K,
  fun K => (He.Fa.glo "_law_text").ok K,
  fun K => (He.Fa.glo "_law_made").ok K,
  fun K => (He.Fa.glo "_law_change").ok K,
  fun K => (He.Fa.glo "_law_kept").ok K,
  fun K => (He.Fa.glo "_law_asked").ok K,
  fun K => (He.Fa.glo "_law_ats_right").ok K,
  fun K => (He.Fa.glo "_law_right").ok K,
  fun K => (He.Fa.glo "law").ok K,
  fun K => (He.Fa.int "HOUR" (60)).ok K,
  fun K => (He.Fa.int "DAY" (1440)).ok K,
  fun K => (He.Fa.str "COLON" ":").ok K,
  fun K => (He.Fa.str "BLANK" " ").ok K,
  fun K => (He.Fa.int "MOST_MOMENTS" (1440)).ok K,
  fun K => (He.Fa.int "MOST_NESTED" (8)).ok K,
  fun K => (He.Fa.str "NO_PARTS" "-").ok K,
  fun K => (He.Fa.free "all").ok K,
  fun K => (He.Fa.free "bool").ok K,
  fun K => (He.Fa.free "divmod").ok K,
  fun K => (He.Fa.free "int").ok K,
  fun K => (He.Fa.free "isinstance").ok K,
  fun K => (He.Fa.free "len").ok K,
  fun K => (He.Fa.free "list").ok K,
  fun K => (He.Fa.free "max").ok K,
  fun K => (He.Fa.free "min").ok K,
  fun K => (He.Fa.free "range").ok K,
  fun K => (He.Fa.free "repr").ok K,
  fun K => (He.Fa.free "str").ok K,
  fun K => (He.Fa.free "sum").ok K,
  fun K => (He.Fa.free "tuple").ok K,
  fun K => (He.Fa.free "zip").ok K,
  fun K => (He.Fa.glo "GoingError").ok K,
  exoB bmV "ValueError.__new__" "GoingError",
  fun K => (He.Fa.glo "NoTime").ok K,
  exoB bmV "ValueError.__new__" "NoTime",
  fun K => (He.Fa.glo "NoPiece").ok K,
  exoB bmV "ValueError.__new__" "NoPiece",
  fun K => (He.Fa.glo "Short").ok K,
  fun K => (He.Fa.glo "At").ok K,
  fun K => (He.Fa.glo "Over").ok K,
  fun K => (He.Fa.glo "Spread").ok K,
  sysB,
  fun K => (He.Fa.cls "Short").ok K,
  insB "Short",
  fun K => (He.Fa.meth "Short" "moments").ok K,
  fun K => (He.Fa.meth "Short" "pieces").ok K,
  fun K => (He.Fa.meth "Short" "begins").ok K,
  fun K => (He.Fa.meth "Short" "ends").ok K,
  fun K => (He.Fa.meth "Short" "means_many").ok K,
  fun K => (He.Fa.meth "Short" "nested").ok K,
  kitF "Short" "Short" true,
  kitF "Short" "Spread" false,
  kitF "Short" "At" false,
  kitF "Short" "Over" false,
  kitFT "Short" "int" false,
  kitFT "Short" "bool" false,
  kitFT "Short" "list" false,
  kitFT "Short" "tuple" false,
  fun K => (He.Fa.cls "At").ok K,
  insB "At",
  fun K => (He.Fa.noat "At" "moment").ok K,
  fun K => (He.Fa.meth "At" "__init__").ok K,
  fun K => (He.Fa.meth "At" "moments").ok K,
  fun K => (He.Fa.meth "At" "pieces").ok K]
def xf2 : List Fx := [fun K => (He.Fa.meth "At" "begins").ok K,
  fun K => (He.Fa.meth "At" "ends").ok K,
  fun K => (He.Fa.meth "At" "means_many").ok K,
  fun K => (He.Fa.meth "At" "nested").ok K,
  fun K => (He.Fa.meth "At" "__str__").ok K,
  fun K => (He.Fa.mkr "At").ok K,
  kitF "At" "Short" true,
  kitF "At" "Spread" false,
  kitF "At" "At" true,
  kitF "At" "Over" false,
  kitFT "At" "int" false,
  kitFT "At" "bool" false,
  kitFT "At" "list" false,
  kitFT "At" "tuple" false,
  fun K => (He.Fa.cls "Over").ok K,
  insB "Over",
  fun K => (He.Fa.noat "Over" "kept").ok K,
  fun K => (He.Fa.noat "Over" "many").ok K,
  fun K => (He.Fa.noat "Over" "step").ok K,
  fun K => (He.Fa.meth "Over" "__init__").ok K,
  fun K => (He.Fa.meth "Over" "parts").ok K,
  fun K => (He.Fa.meth "Over" "moments").ok K,
  fun K => (He.Fa.meth "Over" "pieces").ok K,
  fun K => (He.Fa.meth "Over" "begins").ok K,
  fun K => (He.Fa.meth "Over" "ends").ok K,
  fun K => (He.Fa.meth "Over" "means_many").ok K,
  fun K => (He.Fa.meth "Over" "nested").ok K,
  fun K => (He.Fa.meth "Over" "__str__").ok K,
  fun K => (He.Fa.mkr "Over").ok K,
  kitF "Over" "Short" true,
  kitF "Over" "Spread" false,
  kitF "Over" "At" false,
  kitF "Over" "Over" true,
  kitFT "Over" "int" false,
  kitFT "Over" "bool" false,
  kitFT "Over" "list" false,
  kitFT "Over" "tuple" false,
  fun K => (He.Fa.cls "Spread").ok K,
  insB "Spread",
  fun K => (He.Fa.noat "Spread" "kept").ok K,
  fun K => (He.Fa.noat "Spread" "held").ok K,
  fun K => (He.Fa.meth "Spread" "__init__").ok K,
  fun K => (He.Fa.meth "Spread" "parts").ok K,
  fun K => (He.Fa.meth "Spread" "moments").ok K,
  fun K => (He.Fa.meth "Spread" "pieces").ok K,
  fun K => (He.Fa.meth "Spread" "__eq__").ok K,
  fun K => (He.Fa.meth "Spread" "__len__").ok K,
  fun K => (He.Fa.meth "Spread" "__str__").ok K,
  fun K => (He.Fa.meth "Spread" "__repr__").ok K,
  fun K => (He.Fa.mkr "Spread").ok K,
  noBaseF "Spread",
  kitF "Spread" "Short" false,
  kitF "Spread" "Spread" true,
  kitF "Spread" "At" false,
  kitF "Spread" "Over" false,
  kitFT "Spread" "int" false,
  kitFT "Spread" "bool" false,
  kitFT "Spread" "list" false,
  kitFT "Spread" "tuple" false,
  kitBF "int" "Short" false,
  kitBF "bool" "Short" false,
  kitBF "str" "Short" false,
  kitBF "NoneType" "Short" false,
  kitBF "list" "Short" false,
  kitBF "tuple" "Short" false,
  kitBF "dict" "Short" false,
  kitBF "int" "Spread" false,
  kitBF "bool" "Spread" false,
  kitBF "str" "Spread" false,
  kitBF "NoneType" "Spread" false,
  kitBF "list" "Spread" false,
  kitBF "tuple" "Spread" false,
  kitBF "dict" "Spread" false,
  kitBF "int" "At" false,
  kitBF "bool" "At" false,
  kitBF "str" "At" false,
  kitBF "NoneType" "At" false,
  kitBF "list" "At" false,
  kitBF "tuple" "At" false,
  kitBF "dict" "At" false,
  kitBF "int" "Over" false,
  kitBF "bool" "Over" false,
  kitBF "str" "Over" false,
  kitBF "NoneType" "Over" false,
  kitBF "list" "Over" false,
  kitBF "tuple" "Over" false,
  kitBF "dict" "Over" false]
def xf : List Fx := xf1 ++ xf2
def d_is_whole : He.DefD := ⟨("is_whole", none), "is_whole", "is_whole", defArgs s_is_whole, defBody s_is_whole, defScope s_is_whole, [], []⟩
def d_is_moment : He.DefD := ⟨("is_moment", none), "is_moment", "is_moment", defArgs s_is_moment, defBody s_is_moment, defScope s_is_moment, [], []⟩
def d_want_moment : He.DefD := ⟨("want_moment", none), "want_moment", "want_moment", defArgs s_want_moment, defBody s_want_moment, defScope s_want_moment, [], []⟩
def d_clock_of : He.DefD := ⟨("clock_of", none), "clock_of", "clock_of", defArgs s_clock_of, defBody s_clock_of, defScope s_clock_of, [], []⟩
def d_show_moment : He.DefD := ⟨("show_moment", none), "show_moment", "show_moment", defArgs s_show_moment, defBody s_show_moment, defScope s_show_moment, [], []⟩
def d_is_number : He.DefD := ⟨("is_number", none), "is_number", "is_number", defArgs s_is_number, defBody s_is_number, defScope s_is_number, [], []⟩
def d_Short_moments : He.DefD := ⟨("Short", some "moments"), "moments", "Short.moments", defArgs s_Short_moments, defBody s_Short_moments, defScope s_Short_moments, [], []⟩
def d_Short_pieces : He.DefD := ⟨("Short", some "pieces"), "pieces", "Short.pieces", defArgs s_Short_pieces, defBody s_Short_pieces, defScope s_Short_pieces, [], []⟩
def d_Short_begins : He.DefD := ⟨("Short", some "begins"), "begins", "Short.begins", defArgs s_Short_begins, defBody s_Short_begins, defScope s_Short_begins, [], []⟩
def d_Short_ends : He.DefD := ⟨("Short", some "ends"), "ends", "Short.ends", defArgs s_Short_ends, defBody s_Short_ends, defScope s_Short_ends, [], []⟩
def d_Short_means_many : He.DefD := ⟨("Short", some "means_many"), "means_many", "Short.means_many", defArgs s_Short_means_many, defBody s_Short_means_many, defScope s_Short_means_many, [], []⟩
def d_Short_nested : He.DefD := ⟨("Short", some "nested"), "nested", "Short.nested", defArgs s_Short_nested, defBody s_Short_nested, defScope s_Short_nested, [], []⟩
def d_all_rising : He.DefD := ⟨("all_rising", none), "all_rising", "all_rising", defArgs s_all_rising, defBody s_all_rising, defScope s_all_rising, [], []⟩
def d_shorts_in : He.DefD := ⟨("shorts_in", none), "shorts_in", "shorts_in", defArgs s_shorts_in, defBody s_shorts_in, defScope s_shorts_in, [], []⟩
def d_row_moments : He.DefD := ⟨("row_moments", none), "row_moments", "row_moments", defArgs s_row_moments, defBody s_row_moments, defScope s_row_moments, [], []⟩
def d_row_many : He.DefD := ⟨("row_many", none), "row_many", "row_many", defArgs s_row_many, defBody s_row_many, defScope s_row_many, [], []⟩
def d_row_pieces : He.DefD := ⟨("row_pieces", none), "row_pieces", "row_pieces", defArgs s_row_pieces, defBody s_row_pieces, defScope s_row_pieces, [], []⟩
def d_row_text : He.DefD := ⟨("row_text", none), "row_text", "row_text", defArgs s_row_text, defBody s_row_text, defScope s_row_text, [], []⟩
def d_At_init : He.DefD := ⟨("At", some "__init__"), "__init__", "At.__init__", defArgs s_At_init, defBody s_At_init, defScope s_At_init, [], []⟩
def d_At_moments : He.DefD := ⟨("At", some "moments"), "moments", "At.moments", defArgs s_At_moments, defBody s_At_moments, defScope s_At_moments, [], []⟩
def d_At_pieces : He.DefD := ⟨("At", some "pieces"), "pieces", "At.pieces", defArgs s_At_pieces, defBody s_At_pieces, defScope s_At_pieces, [], []⟩
def d_At_begins : He.DefD := ⟨("At", some "begins"), "begins", "At.begins", defArgs s_At_begins, defBody s_At_begins, defScope s_At_begins, [], []⟩
def d_At_ends : He.DefD := ⟨("At", some "ends"), "ends", "At.ends", defArgs s_At_ends, defBody s_At_ends, defScope s_At_ends, [], []⟩
def d_At_means_many : He.DefD := ⟨("At", some "means_many"), "means_many", "At.means_many", defArgs s_At_means_many, defBody s_At_means_many, defScope s_At_means_many, [], []⟩
def d_At_nested : He.DefD := ⟨("At", some "nested"), "nested", "At.nested", defArgs s_At_nested, defBody s_At_nested, defScope s_At_nested, [], []⟩
def d_At_str : He.DefD := ⟨("At", some "__str__"), "__str__", "At.__str__", defArgs s_At_str, defBody s_At_str, defScope s_At_str, [], []⟩
def d_Over_init : He.DefD := ⟨("Over", some "__init__"), "__init__", "Over.__init__", defArgs s_Over_init, defBody s_Over_init, defScope s_Over_init, [.int (2), .int (60)], []⟩
def d_Over_parts : He.DefD := ⟨("Over", some "parts"), "parts", "Over.parts", defArgs s_Over_parts, defBody s_Over_parts, defScope s_Over_parts, [], []⟩
def d_Over_moments : He.DefD := ⟨("Over", some "moments"), "moments", "Over.moments", defArgs s_Over_moments, defBody s_Over_moments, defScope s_Over_moments, [], []⟩
def d_Over_pieces : He.DefD := ⟨("Over", some "pieces"), "pieces", "Over.pieces", defArgs s_Over_pieces, defBody s_Over_pieces, defScope s_Over_pieces, [], []⟩
def d_Over_begins : He.DefD := ⟨("Over", some "begins"), "begins", "Over.begins", defArgs s_Over_begins, defBody s_Over_begins, defScope s_Over_begins, [], []⟩
def d_Over_ends : He.DefD := ⟨("Over", some "ends"), "ends", "Over.ends", defArgs s_Over_ends, defBody s_Over_ends, defScope s_Over_ends, [], []⟩
def d_Over_means_many : He.DefD := ⟨("Over", some "means_many"), "means_many", "Over.means_many", defArgs s_Over_means_many, defBody s_Over_means_many, defScope s_Over_means_many, [], []⟩
def d_Over_nested : He.DefD := ⟨("Over", some "nested"), "nested", "Over.nested", defArgs s_Over_nested, defBody s_Over_nested, defScope s_Over_nested, [], []⟩
def d_Over_str : He.DefD := ⟨("Over", some "__str__"), "__str__", "Over.__str__", defArgs s_Over_str, defBody s_Over_str, defScope s_Over_str, [], []⟩
def d_Spread_init : He.DefD := ⟨("Spread", some "__init__"), "__init__", "Spread.__init__", defArgs s_Spread_init, defBody s_Spread_init, defScope s_Spread_init, [], []⟩
def d_Spread_parts : He.DefD := ⟨("Spread", some "parts"), "parts", "Spread.parts", defArgs s_Spread_parts, defBody s_Spread_parts, defScope s_Spread_parts, [], []⟩
def d_Spread_moments : He.DefD := ⟨("Spread", some "moments"), "moments", "Spread.moments", defArgs s_Spread_moments, defBody s_Spread_moments, defScope s_Spread_moments, [], []⟩
def d_Spread_pieces : He.DefD := ⟨("Spread", some "pieces"), "pieces", "Spread.pieces", defArgs s_Spread_pieces, defBody s_Spread_pieces, defScope s_Spread_pieces, [], []⟩
def d_Spread_eq : He.DefD := ⟨("Spread", some "__eq__"), "__eq__", "Spread.__eq__", defArgs s_Spread_eq, defBody s_Spread_eq, defScope s_Spread_eq, [], []⟩
def d_Spread_len : He.DefD := ⟨("Spread", some "__len__"), "__len__", "Spread.__len__", defArgs s_Spread_len, defBody s_Spread_len, defScope s_Spread_len, [], []⟩
def d_Spread_str : He.DefD := ⟨("Spread", some "__str__"), "__str__", "Spread.__str__", defArgs s_Spread_str, defBody s_Spread_str, defScope s_Spread_str, [], []⟩
def d_Spread_repr : He.DefD := ⟨("Spread", some "__repr__"), "__repr__", "Spread.__repr__", defArgs s_Spread_repr, defBody s_Spread_repr, defScope s_Spread_repr, [], []⟩
def d__law_pot : He.DefD := ⟨("_law_pot", none), "_law_pot", "_law_pot", defArgs s__law_pot, defBody s__law_pot, defScope s__law_pot, [], []⟩
def d__law_draw : He.DefD := ⟨("_law_draw", none), "_law_draw", "_law_draw", defArgs s__law_draw, defBody s__law_draw, defScope s__law_draw, [], []⟩
def d__law_moments : He.DefD := ⟨("_law_moments", none), "_law_moments", "_law_moments", defArgs s__law_moments, defBody s__law_moments, defScope s__law_moments, [], []⟩
def d__law_row_moments : He.DefD := ⟨("_law_row_moments", none), "_law_row_moments", "_law_row_moments", defArgs s__law_row_moments, defBody s__law_row_moments, defScope s__law_row_moments, [], []⟩
def d__law_wide : He.DefD := ⟨("_law_wide", none), "_law_wide", "_law_wide", defArgs s__law_wide, defBody s__law_wide, defScope s__law_wide, [], []⟩
def d__law_gap : He.DefD := ⟨("_law_gap", none), "_law_gap", "_law_gap", defArgs s__law_gap, defBody s__law_gap, defScope s__law_gap, [], []⟩
def d__law_short : He.DefD := ⟨("_law_short", none), "_law_short", "_law_short", defArgs s__law_short, defBody s__law_short, defScope s__law_short, [], []⟩
def d__law_row : He.DefD := ⟨("_law_row", none), "_law_row", "_law_row", defArgs s__law_row, defBody s__law_row, defScope s__law_row, [], []⟩
def d__law_spread : He.DefD := ⟨("_law_spread", none), "_law_spread", "_law_spread", defArgs s__law_spread, defBody s__law_spread, defScope s__law_spread, [], []⟩
def d__law_pieces : He.DefD := ⟨("_law_pieces", none), "_law_pieces", "_law_pieces", defArgs s__law_pieces, defBody s__law_pieces, defScope s__law_pieces, [], []⟩
def d__law_time : He.DefD := ⟨("_law_time", none), "_law_time", "_law_time", defArgs s__law_time, defBody s__law_time, defScope s__law_time, [], []⟩
def d__law_word : He.DefD := ⟨("_law_word", none), "_law_word", "_law_word", defArgs s__law_word, defBody s__law_word, defScope s__law_word, [], []⟩
def d__law_text : He.DefD := ⟨("_law_text", none), "_law_text", "_law_text", defArgs s__law_text, defBody s__law_text, defScope s__law_text, [], []⟩
def d__law_made : He.DefD := ⟨("_law_made", none), "_law_made", "_law_made", defArgs s__law_made, defBody s__law_made, defScope s__law_made, [], []⟩
def d__law_change : He.DefD := ⟨("_law_change", none), "_law_change", "_law_change", defArgs s__law_change, defBody s__law_change, defScope s__law_change, [], []⟩
def d__law_kept : He.DefD := ⟨("_law_kept", none), "_law_kept", "_law_kept", defArgs s__law_kept, defBody s__law_kept, defScope s__law_kept, [], []⟩
def d__law_asked : He.DefD := ⟨("_law_asked", none), "_law_asked", "_law_asked", defArgs s__law_asked, defBody s__law_asked, defScope s__law_asked, [], []⟩
def d__law_ats_right : He.DefD := ⟨("_law_ats_right", none), "_law_ats_right", "_law_ats_right", defArgs s__law_ats_right, defBody s__law_ats_right, defScope s__law_ats_right, [], []⟩
def d__law_right : He.DefD := ⟨("_law_right", none), "_law_right", "_law_right", defArgs s__law_right, defBody s__law_right, defScope s__law_right, [], []⟩
def d_law : He.DefD := ⟨("law", none), "law", "law", defArgs s_law, defBody s_law, defScope s_law, [], []⟩
def fn : List He.DefD := [d_is_whole, d_is_moment, d_want_moment, d_clock_of, d_show_moment, d_is_number, d_Short_moments, d_Short_pieces, d_Short_begins, d_Short_ends, d_Short_means_many, d_Short_nested, d_all_rising, d_shorts_in, d_row_moments, d_row_many, d_row_pieces, d_row_text, d_At_init, d_At_moments, d_At_pieces, d_At_begins, d_At_ends, d_At_means_many, d_At_nested, d_At_str, d_Over_init, d_Over_parts, d_Over_moments, d_Over_pieces, d_Over_begins, d_Over_ends, d_Over_means_many, d_Over_nested, d_Over_str, d_Spread_init, d_Spread_parts, d_Spread_moments, d_Spread_pieces, d_Spread_eq, d_Spread_len, d_Spread_str, d_Spread_repr, d__law_pot, d__law_draw, d__law_moments, d__law_row_moments, d__law_wide, d__law_gap, d__law_short, d__law_row, d__law_spread, d__law_pieces, d__law_time, d__law_word, d__law_text, d__law_made, d__law_change, d__law_kept, d__law_asked, d__law_ats_right, d__law_right, d_law]
abbrev R : PySem.W.OpenRow := PySem.W.OpenLaw.row PySem.Challenge.rw_shortgoings_k28_handed_and_shared
def adr0 : List Addr := [3, 319, 145, 387, 247, 318, 144, 386, 246, 24, 23, 195, 264, 335, 107, 114, 121, 128, 135, 142, 202, 209, 216, 223, 230, 237, 244, 271, 276, 283]
def adr1 : List Addr := [290, 297, 304, 309, 316, 342, 349, 356, 363, 370, 377, 384, 1, 37, 49, 58, 65, 72, 79, 86, 93, 154, 159, 166, 171, 176, 181, 398, 405, 410]
def adr2 : List Addr := [417, 424, 431, 438, 445, 452, 459, 466, 473, 478, 483, 488, 493, 498, 505, 510, 517, 36, 48, 57, 64, 71, 78, 85, 92, 153, 158, 165, 170, 175]
def adr3 : List Addr := [180, 397, 404, 409, 416, 423, 430, 437, 444, 451, 458, 465, 472, 477, 482, 487, 492, 497, 504, 509, 516, 106, 113, 120, 127, 134, 141, 194, 201, 208]
def adr4 : List Addr := [215, 222, 229, 236, 243, 263, 257, 270, 275, 282, 289, 296, 303, 308, 315, 334, 341, 348, 355, 362, 369, 376, 383]
def adr : List Addr := adr0 ++ adr1 ++ adr2 ++ adr3 ++ adr4
abbrev hk : PySem.W.Hook := hookA adr xf fn
def ob (s : PySem.W.SharedT) : He.AlD := obsA adr xf fn (HandSHeadRun.getT s)
theorem ob_eq (s : PySem.W.SharedT) : ob s = hk.obs s.abs := obsA_eq (HandSHeadRun.getT_eq s)
def ns0 : List PySem.Str := ["GoingError", "NoTime", "NoPiece", "HOUR", "DAY", "COLON", "BLANK", "is_whole", "is_moment", "want_moment", "clock_of", "show_moment", "MOST_MOMENTS", "MOST_NESTED", "NO_PARTS", "is_number", "Short", "all_rising", "shorts_in", "row_moments", "row_many", "row_pieces", "row_text", "At", "Over", "Spread", "_law_pot", "_law_draw", "_law_moments", "_law_row_moments"]
def ns1 : List PySem.Str := ["_law_wide", "_law_gap", "_law_short", "_law_row", "_law_spread", "_law_pieces", "_law_time", "_law_word", "_law_text", "_law_made", "_law_change", "_law_kept", "_law_asked", "_law_ats_right", "_law_right"]
def nss : List PySem.Str := ns0 ++ ns1
theorem run_a (w : World) : HandSHeadRun.RunA R (PySem.W.view R.prog [50]) 8000 nss w := by
  intro os
  kernel_rfl
theorem run_b (w : World) : HandSHeadRun.RunB R 8000 (fun s => xf1.all fun p => p (He.frG (HandSHeadRun.getT s) adr)) w := by
  intro os
  kernel_rfl
theorem run_c (w : World) : HandSHeadRun.RunB R 8000 (fun s => xf2.all fun p => p (He.frG (HandSHeadRun.getT s) adr)) w := by
  intro os
  kernel_rfl
theorem run_d (w : World) : ∀ os : OsState, (HandSHeadRun.endR R 8000 w os).map (fun s => (fn.all fun d => d.ok (He.frG (HandSHeadRun.getT s) adr), fn.map fun d => He.fnW (He.frG (HandSHeadRun.getT s) adr) d.at_)) = some (true, fn.map He.DefD.val) := by
  intro os
  kernel_rfl
theorem run (w : World) : HandSHeadRun.RunEq R (PySem.W.view R.prog [50]) hk ob 8000 nss w := HandSHeadRun.runEq_of (run_a w) (runC_of rfl (run_b w) (run_c w) (run_d w))
theorem env_of {K : PySem.W.Frag} {h : Heap} {mg : Str → Option Value} (X : K.In h) (G : h.Ns mainGlobals mg) (c : SaysX xf fn K) : Env K mg :=
  ⟨He.glo_ok X G (c.fact 0 (f := fun K => (He.Fa.glo "is_whole").ok K) rfl),
  He.glo_ok X G (c.fact 1 (f := fun K => (He.Fa.glo "is_moment").ok K) rfl),
  He.glo_ok X G (c.fact 2 (f := fun K => (He.Fa.glo "want_moment").ok K) rfl),
  He.glo_ok X G (c.fact 3 (f := fun K => (He.Fa.glo "clock_of").ok K) rfl),
  He.glo_ok X G (c.fact 4 (f := fun K => (He.Fa.glo "show_moment").ok K) rfl),
  He.glo_ok X G (c.fact 5 (f := fun K => (He.Fa.glo "is_number").ok K) rfl),
  He.glo_ok X G (c.fact 6 (f := fun K => (He.Fa.glo "all_rising").ok K) rfl),
  He.glo_ok X G (c.fact 7 (f := fun K => (He.Fa.glo "shorts_in").ok K) rfl),
  He.glo_ok X G (c.fact 8 (f := fun K => (He.Fa.glo "row_moments").ok K) rfl),
  He.glo_ok X G (c.fact 9 (f := fun K => (He.Fa.glo "row_many").ok K) rfl),
  He.glo_ok X G (c.fact 10 (f := fun K => (He.Fa.glo "row_pieces").ok K) rfl),
  He.glo_ok X G (c.fact 11 (f := fun K => (He.Fa.glo "row_text").ok K) rfl),
  He.glo_ok X G (c.fact 12 (f := fun K => (He.Fa.glo "_law_pot").ok K) rfl),
  He.glo_ok X G (c.fact 13 (f := fun K => (He.Fa.glo "_law_draw").ok K) rfl),
  He.glo_ok X G (c.fact 14 (f := fun K => (He.Fa.glo "_law_moments").ok K) rfl),
  He.glo_ok X G (c.fact 15 (f := fun K => (He.Fa.glo "_law_row_moments").ok K) rfl),
  He.glo_ok X G (c.fact 16 (f := fun K => (He.Fa.glo "_law_wide").ok K) rfl),
  He.glo_ok X G (c.fact 17 (f := fun K => (He.Fa.glo "_law_gap").ok K) rfl),
  He.glo_ok X G (c.fact 18 (f := fun K => (He.Fa.glo "_law_short").ok K) rfl),
  He.glo_ok X G (c.fact 19 (f := fun K => (He.Fa.glo "_law_row").ok K) rfl),
  He.glo_ok X G (c.fact 20 (f := fun K => (He.Fa.glo "_law_spread").ok K) rfl),
  He.glo_ok X G (c.fact 21 (f := fun K => (He.Fa.glo "_law_pieces").ok K) rfl),
  He.glo_ok X G (c.fact 22 (f := fun K => (He.Fa.glo "_law_time").ok K) rfl),
  He.glo_ok X G (c.fact 23 (f := fun K => (He.Fa.glo "_law_word").ok K) rfl),
  He.glo_ok X G (c.fact 24 (f := fun K => (He.Fa.glo "_law_text").ok K) rfl),
  He.glo_ok X G (c.fact 25 (f := fun K => (He.Fa.glo "_law_made").ok K) rfl),
  He.glo_ok X G (c.fact 26 (f := fun K => (He.Fa.glo "_law_change").ok K) rfl),
  He.glo_ok X G (c.fact 27 (f := fun K => (He.Fa.glo "_law_kept").ok K) rfl),
  He.glo_ok X G (c.fact 28 (f := fun K => (He.Fa.glo "_law_asked").ok K) rfl),
  He.glo_ok X G (c.fact 29 (f := fun K => (He.Fa.glo "_law_ats_right").ok K) rfl),
  He.glo_ok X G (c.fact 30 (f := fun K => (He.Fa.glo "_law_right").ok K) rfl),
  He.glo_ok X G (c.fact 31 (f := fun K => (He.Fa.glo "law").ok K) rfl),
  gint_of X G (c.fact 32 (f := fun K => (He.Fa.int "HOUR" (60)).ok K) rfl),
  gint_of X G (c.fact 33 (f := fun K => (He.Fa.int "DAY" (1440)).ok K) rfl),
  gstr_of X G (c.fact 34 (f := fun K => (He.Fa.str "COLON" ":").ok K) rfl),
  gstr_of X G (c.fact 35 (f := fun K => (He.Fa.str "BLANK" " ").ok K) rfl),
  gint_of X G (c.fact 36 (f := fun K => (He.Fa.int "MOST_MOMENTS" (1440)).ok K) rfl),
  gint_of X G (c.fact 37 (f := fun K => (He.Fa.int "MOST_NESTED" (8)).ok K) rfl),
  gstr_of X G (c.fact 38 (f := fun K => (He.Fa.str "NO_PARTS" "-").ok K) rfl),
  He.free_ok X G (c.fact 39 (f := fun K => (He.Fa.free "all").ok K) rfl),
  He.free_ok X G (c.fact 40 (f := fun K => (He.Fa.free "bool").ok K) rfl),
  He.free_ok X G (c.fact 41 (f := fun K => (He.Fa.free "divmod").ok K) rfl),
  He.free_ok X G (c.fact 42 (f := fun K => (He.Fa.free "int").ok K) rfl),
  He.free_ok X G (c.fact 43 (f := fun K => (He.Fa.free "isinstance").ok K) rfl),
  He.free_ok X G (c.fact 44 (f := fun K => (He.Fa.free "len").ok K) rfl),
  He.free_ok X G (c.fact 45 (f := fun K => (He.Fa.free "list").ok K) rfl),
  He.free_ok X G (c.fact 46 (f := fun K => (He.Fa.free "max").ok K) rfl),
  He.free_ok X G (c.fact 47 (f := fun K => (He.Fa.free "min").ok K) rfl),
  He.free_ok X G (c.fact 48 (f := fun K => (He.Fa.free "range").ok K) rfl),
  He.free_ok X G (c.fact 49 (f := fun K => (He.Fa.free "repr").ok K) rfl),
  He.free_ok X G (c.fact 50 (f := fun K => (He.Fa.free "str").ok K) rfl),
  He.free_ok X G (c.fact 51 (f := fun K => (He.Fa.free "sum").ok K) rfl),
  He.free_ok X G (c.fact 52 (f := fun K => (He.Fa.free "tuple").ok K) rfl),
  He.free_ok X G (c.fact 53 (f := fun K => (He.Fa.free "zip").ok K) rfl),
  He.glo_ok X G (c.fact 54 (f := fun K => (He.Fa.glo "GoingError").ok K) rfl),
  exo_of (c.fact 55 (f := exoB bmV "ValueError.__new__" "GoingError") rfl),
  He.glo_ok X G (c.fact 56 (f := fun K => (He.Fa.glo "NoTime").ok K) rfl),
  exo_of (c.fact 57 (f := exoB bmV "ValueError.__new__" "NoTime") rfl),
  He.glo_ok X G (c.fact 58 (f := fun K => (He.Fa.glo "NoPiece").ok K) rfl),
  exo_of (c.fact 59 (f := exoB bmV "ValueError.__new__" "NoPiece") rfl),
  He.glo_ok X G (c.fact 60 (f := fun K => (He.Fa.glo "Short").ok K) rfl),
  He.glo_ok X G (c.fact 61 (f := fun K => (He.Fa.glo "At").ok K) rfl),
  He.glo_ok X G (c.fact 62 (f := fun K => (He.Fa.glo "Over").ok K) rfl),
  He.glo_ok X G (c.fact 63 (f := fun K => (He.Fa.glo "Spread").ok K) rfl),
  sys_of (c.fact 64 (f := sysB) rfl),
  He.cls_ok (c.fact 65 (f := fun K => (He.Fa.cls "Short").ok K) rfl),
  insC_of (c.fact 66 (f := insB "Short") rfl),
  He.meth_ok (c.fact 67 (f := fun K => (He.Fa.meth "Short" "moments").ok K) rfl),
  He.meth_ok (c.fact 68 (f := fun K => (He.Fa.meth "Short" "pieces").ok K) rfl),
  He.meth_ok (c.fact 69 (f := fun K => (He.Fa.meth "Short" "begins").ok K) rfl),
  He.meth_ok (c.fact 70 (f := fun K => (He.Fa.meth "Short" "ends").ok K) rfl),
  He.meth_ok (c.fact 71 (f := fun K => (He.Fa.meth "Short" "means_many").ok K) rfl),
  He.meth_ok (c.fact 72 (f := fun K => (He.Fa.meth "Short" "nested").ok K) rfl),
  of_decide_eq_true (c.fact 73 (f := kitF "Short" "Short" true) rfl),
  of_decide_eq_true (c.fact 74 (f := kitF "Short" "Spread" false) rfl),
  of_decide_eq_true (c.fact 75 (f := kitF "Short" "At" false) rfl),
  of_decide_eq_true (c.fact 76 (f := kitF "Short" "Over" false) rfl),
  of_decide_eq_true (c.fact 77 (f := kitFT "Short" "int" false) rfl),
  of_decide_eq_true (c.fact 78 (f := kitFT "Short" "bool" false) rfl),
  of_decide_eq_true (c.fact 79 (f := kitFT "Short" "list" false) rfl),
  of_decide_eq_true (c.fact 80 (f := kitFT "Short" "tuple" false) rfl),
  He.cls_ok (c.fact 81 (f := fun K => (He.Fa.cls "At").ok K) rfl),
  insC_of (c.fact 82 (f := insB "At") rfl),
  He.noat_ok (c.fact 83 (f := fun K => (He.Fa.noat "At" "moment").ok K) rfl),
  He.meth_ok (c.fact 84 (f := fun K => (He.Fa.meth "At" "__init__").ok K) rfl),
  He.meth_ok (c.fact 85 (f := fun K => (He.Fa.meth "At" "moments").ok K) rfl),
  He.meth_ok (c.fact 86 (f := fun K => (He.Fa.meth "At" "pieces").ok K) rfl),
  He.meth_ok (c.fact 87 (f := fun K => (He.Fa.meth "At" "begins").ok K) rfl),
  He.meth_ok (c.fact 88 (f := fun K => (He.Fa.meth "At" "ends").ok K) rfl),
  He.meth_ok (c.fact 89 (f := fun K => (He.Fa.meth "At" "means_many").ok K) rfl),
  He.meth_ok (c.fact 90 (f := fun K => (He.Fa.meth "At" "nested").ok K) rfl),
  He.meth_ok (c.fact 91 (f := fun K => (He.Fa.meth "At" "__str__").ok K) rfl),
  He.mkr_ok (c.fact 92 (f := fun K => (He.Fa.mkr "At").ok K) rfl),
  of_decide_eq_true (c.fact 93 (f := kitF "At" "Short" true) rfl),
  of_decide_eq_true (c.fact 94 (f := kitF "At" "Spread" false) rfl),
  of_decide_eq_true (c.fact 95 (f := kitF "At" "At" true) rfl),
  of_decide_eq_true (c.fact 96 (f := kitF "At" "Over" false) rfl),
  of_decide_eq_true (c.fact 97 (f := kitFT "At" "int" false) rfl),
  of_decide_eq_true (c.fact 98 (f := kitFT "At" "bool" false) rfl),
  of_decide_eq_true (c.fact 99 (f := kitFT "At" "list" false) rfl),
  of_decide_eq_true (c.fact 100 (f := kitFT "At" "tuple" false) rfl),
  He.cls_ok (c.fact 101 (f := fun K => (He.Fa.cls "Over").ok K) rfl),
  insC_of (c.fact 102 (f := insB "Over") rfl),
  He.noat_ok (c.fact 103 (f := fun K => (He.Fa.noat "Over" "kept").ok K) rfl),
  He.noat_ok (c.fact 104 (f := fun K => (He.Fa.noat "Over" "many").ok K) rfl),
  He.noat_ok (c.fact 105 (f := fun K => (He.Fa.noat "Over" "step").ok K) rfl),
  He.meth_ok (c.fact 106 (f := fun K => (He.Fa.meth "Over" "__init__").ok K) rfl),
  He.meth_ok (c.fact 107 (f := fun K => (He.Fa.meth "Over" "parts").ok K) rfl),
  He.meth_ok (c.fact 108 (f := fun K => (He.Fa.meth "Over" "moments").ok K) rfl),
  He.meth_ok (c.fact 109 (f := fun K => (He.Fa.meth "Over" "pieces").ok K) rfl),
  He.meth_ok (c.fact 110 (f := fun K => (He.Fa.meth "Over" "begins").ok K) rfl),
  He.meth_ok (c.fact 111 (f := fun K => (He.Fa.meth "Over" "ends").ok K) rfl),
  He.meth_ok (c.fact 112 (f := fun K => (He.Fa.meth "Over" "means_many").ok K) rfl),
  He.meth_ok (c.fact 113 (f := fun K => (He.Fa.meth "Over" "nested").ok K) rfl),
  He.meth_ok (c.fact 114 (f := fun K => (He.Fa.meth "Over" "__str__").ok K) rfl),
  He.mkr_ok (c.fact 115 (f := fun K => (He.Fa.mkr "Over").ok K) rfl),
  of_decide_eq_true (c.fact 116 (f := kitF "Over" "Short" true) rfl),
  of_decide_eq_true (c.fact 117 (f := kitF "Over" "Spread" false) rfl),
  of_decide_eq_true (c.fact 118 (f := kitF "Over" "At" false) rfl),
  of_decide_eq_true (c.fact 119 (f := kitF "Over" "Over" true) rfl),
  of_decide_eq_true (c.fact 120 (f := kitFT "Over" "int" false) rfl),
  of_decide_eq_true (c.fact 121 (f := kitFT "Over" "bool" false) rfl),
  of_decide_eq_true (c.fact 122 (f := kitFT "Over" "list" false) rfl),
  of_decide_eq_true (c.fact 123 (f := kitFT "Over" "tuple" false) rfl),
  He.cls_ok (c.fact 124 (f := fun K => (He.Fa.cls "Spread").ok K) rfl),
  insC_of (c.fact 125 (f := insB "Spread") rfl),
  He.noat_ok (c.fact 126 (f := fun K => (He.Fa.noat "Spread" "kept").ok K) rfl),
  He.noat_ok (c.fact 127 (f := fun K => (He.Fa.noat "Spread" "held").ok K) rfl),
  He.meth_ok (c.fact 128 (f := fun K => (He.Fa.meth "Spread" "__init__").ok K) rfl),
  He.meth_ok (c.fact 129 (f := fun K => (He.Fa.meth "Spread" "parts").ok K) rfl),
  He.meth_ok (c.fact 130 (f := fun K => (He.Fa.meth "Spread" "moments").ok K) rfl),
  He.meth_ok (c.fact 131 (f := fun K => (He.Fa.meth "Spread" "pieces").ok K) rfl),
  He.meth_ok (c.fact 132 (f := fun K => (He.Fa.meth "Spread" "__eq__").ok K) rfl),
  He.meth_ok (c.fact 133 (f := fun K => (He.Fa.meth "Spread" "__len__").ok K) rfl),
  He.meth_ok (c.fact 134 (f := fun K => (He.Fa.meth "Spread" "__str__").ok K) rfl),
  He.meth_ok (c.fact 135 (f := fun K => (He.Fa.meth "Spread" "__repr__").ok K) rfl),
  He.mkr_ok (c.fact 136 (f := fun K => (He.Fa.mkr "Spread").ok K) rfl),
  noBase_of (c.fact 137 (f := noBaseF "Spread") rfl),
  of_decide_eq_true (c.fact 138 (f := kitF "Spread" "Short" false) rfl),
  of_decide_eq_true (c.fact 139 (f := kitF "Spread" "Spread" true) rfl),
  of_decide_eq_true (c.fact 140 (f := kitF "Spread" "At" false) rfl),
  of_decide_eq_true (c.fact 141 (f := kitF "Spread" "Over" false) rfl),
  of_decide_eq_true (c.fact 142 (f := kitFT "Spread" "int" false) rfl),
  of_decide_eq_true (c.fact 143 (f := kitFT "Spread" "bool" false) rfl),
  of_decide_eq_true (c.fact 144 (f := kitFT "Spread" "list" false) rfl),
  of_decide_eq_true (c.fact 145 (f := kitFT "Spread" "tuple" false) rfl),
  of_decide_eq_true (c.fact 146 (f := kitBF "int" "Short" false) rfl),
  of_decide_eq_true (c.fact 147 (f := kitBF "bool" "Short" false) rfl),
  of_decide_eq_true (c.fact 148 (f := kitBF "str" "Short" false) rfl),
  of_decide_eq_true (c.fact 149 (f := kitBF "NoneType" "Short" false) rfl),
  of_decide_eq_true (c.fact 150 (f := kitBF "list" "Short" false) rfl),
  of_decide_eq_true (c.fact 151 (f := kitBF "tuple" "Short" false) rfl),
  of_decide_eq_true (c.fact 152 (f := kitBF "dict" "Short" false) rfl),
  of_decide_eq_true (c.fact 153 (f := kitBF "int" "Spread" false) rfl),
  of_decide_eq_true (c.fact 154 (f := kitBF "bool" "Spread" false) rfl),
  of_decide_eq_true (c.fact 155 (f := kitBF "str" "Spread" false) rfl),
  of_decide_eq_true (c.fact 156 (f := kitBF "NoneType" "Spread" false) rfl),
  of_decide_eq_true (c.fact 157 (f := kitBF "list" "Spread" false) rfl),
  of_decide_eq_true (c.fact 158 (f := kitBF "tuple" "Spread" false) rfl),
  of_decide_eq_true (c.fact 159 (f := kitBF "dict" "Spread" false) rfl),
  of_decide_eq_true (c.fact 160 (f := kitBF "int" "At" false) rfl),
  of_decide_eq_true (c.fact 161 (f := kitBF "bool" "At" false) rfl),
  of_decide_eq_true (c.fact 162 (f := kitBF "str" "At" false) rfl),
  of_decide_eq_true (c.fact 163 (f := kitBF "NoneType" "At" false) rfl),
  of_decide_eq_true (c.fact 164 (f := kitBF "list" "At" false) rfl),
  of_decide_eq_true (c.fact 165 (f := kitBF "tuple" "At" false) rfl),
  of_decide_eq_true (c.fact 166 (f := kitBF "dict" "At" false) rfl),
  of_decide_eq_true (c.fact 167 (f := kitBF "int" "Over" false) rfl),
  of_decide_eq_true (c.fact 168 (f := kitBF "bool" "Over" false) rfl),
  of_decide_eq_true (c.fact 169 (f := kitBF "str" "Over" false) rfl),
  of_decide_eq_true (c.fact 170 (f := kitBF "NoneType" "Over" false) rfl),
  of_decide_eq_true (c.fact 171 (f := kitBF "list" "Over" false) rfl),
  of_decide_eq_true (c.fact 172 (f := kitBF "tuple" "Over" false) rfl),
  of_decide_eq_true (c.fact 173 (f := kitBF "dict" "Over" false) rfl),
  c.def_ 0 (d := d_is_whole) rfl,
  c.def_ 1 (d := d_is_moment) rfl,
  c.def_ 2 (d := d_want_moment) rfl,
  c.def_ 3 (d := d_clock_of) rfl,
  c.def_ 4 (d := d_show_moment) rfl,
  c.def_ 5 (d := d_is_number) rfl,
  c.def_ 6 (d := d_Short_moments) rfl,
  c.def_ 7 (d := d_Short_pieces) rfl,
  c.def_ 8 (d := d_Short_begins) rfl,
  c.def_ 9 (d := d_Short_ends) rfl,
  c.def_ 10 (d := d_Short_means_many) rfl,
  c.def_ 11 (d := d_Short_nested) rfl,
  c.def_ 12 (d := d_all_rising) rfl,
  c.def_ 13 (d := d_shorts_in) rfl,
  c.def_ 14 (d := d_row_moments) rfl,
  c.def_ 15 (d := d_row_many) rfl,
  c.def_ 16 (d := d_row_pieces) rfl,
  c.def_ 17 (d := d_row_text) rfl,
  c.def_ 18 (d := d_At_init) rfl,
  c.def_ 19 (d := d_At_moments) rfl,
  c.def_ 20 (d := d_At_pieces) rfl,
  c.def_ 21 (d := d_At_begins) rfl,
  c.def_ 22 (d := d_At_ends) rfl,
  c.def_ 23 (d := d_At_means_many) rfl,
  c.def_ 24 (d := d_At_nested) rfl,
  c.def_ 25 (d := d_At_str) rfl,
  c.def_ 26 (d := d_Over_init) rfl,
  c.def_ 27 (d := d_Over_parts) rfl,
  c.def_ 28 (d := d_Over_moments) rfl,
  c.def_ 29 (d := d_Over_pieces) rfl,
  c.def_ 30 (d := d_Over_begins) rfl,
  c.def_ 31 (d := d_Over_ends) rfl,
  c.def_ 32 (d := d_Over_means_many) rfl,
  c.def_ 33 (d := d_Over_nested) rfl,
  c.def_ 34 (d := d_Over_str) rfl,
  c.def_ 35 (d := d_Spread_init) rfl,
  c.def_ 36 (d := d_Spread_parts) rfl,
  c.def_ 37 (d := d_Spread_moments) rfl,
  c.def_ 38 (d := d_Spread_pieces) rfl,
  c.def_ 39 (d := d_Spread_eq) rfl,
  c.def_ 40 (d := d_Spread_len) rfl,
  c.def_ 41 (d := d_Spread_str) rfl,
  c.def_ 42 (d := d_Spread_repr) rfl,
  c.def_ 43 (d := d__law_pot) rfl,
  c.def_ 44 (d := d__law_draw) rfl,
  c.def_ 45 (d := d__law_moments) rfl,
  c.def_ 46 (d := d__law_row_moments) rfl,
  c.def_ 47 (d := d__law_wide) rfl,
  c.def_ 48 (d := d__law_gap) rfl,
  c.def_ 49 (d := d__law_short) rfl,
  c.def_ 50 (d := d__law_row) rfl,
  c.def_ 51 (d := d__law_spread) rfl,
  c.def_ 52 (d := d__law_pieces) rfl,
  c.def_ 53 (d := d__law_time) rfl,
  c.def_ 54 (d := d__law_word) rfl,
  c.def_ 55 (d := d__law_text) rfl,
  c.def_ 56 (d := d__law_made) rfl,
  c.def_ 57 (d := d__law_change) rfl,
  c.def_ 58 (d := d__law_kept) rfl,
  c.def_ 59 (d := d__law_asked) rfl,
  c.def_ 60 (d := d__law_ats_right) rfl,
  c.def_ 61 (d := d__law_right) rfl,
  c.def_ 62 (d := d_law) rfl⟩
end Toy
open PySem PySem.W PySem.Calls PyProof.Rows
set_option maxRecDepth 100000 in
set_option maxHeartbeats 0 in
theorem PySem.Challenge.cw_shortgoings_k28_handed_and_shared_holds : PySem.Challenge.rw_shortgoings_k28_handed_and_shared.Holds := by
  w_on; o_law
  refine HandSHeadRun.head_any (r := OpenLaw.row PySem.Challenge.rw_shortgoings_k28_handed_and_shared) (q := view (OpenLaw.row PySem.Challenge.rw_shortgoings_k28_handed_and_shared).prog [50]) (H := Toy.hk) (ob := Toy.ob) (M := 8000) (loose := Toy.nss) (d := HandSHeadRun.topDef (OpenLaw.row PySem.Challenge.rw_shortgoings_k28_handed_and_shared).prog 50) (kwd := []) Toy.ob_eq
    (by kernel_rfl) (fun s => by kernel_rfl) Toy.run (by kernel_rfl) (by kernel_rfl) (by kernel_rfl) (by rfl) (by first | assumption | decide +kernel) (by decide +kernel) ⟨rfl, rfl, rfl, rfl, rfl, by decide +kernel⟩ ?hw ?hc
  case hw => w_witness2
  case hc =>
    refine L3.walk_end (l := PySem.Challenge.rw_shortgoings_k28_handed_and_shared) (n := 63) (k := 135) (x := "_law_script") rfl (by decide) (by kernel_rfl) (L3.rm_caller.mono (by decide)) ?F
    intro w mg fa h Y G hmg0
    obtain ⟨K, KX, c⟩ := Y
    have hmg : mg ("law" : PySem.Str) = some (.ref fa) := by
      have e : (HandSHeadRun.topDef (OpenLaw.row PySem.Challenge.rw_shortgoings_k28_handed_and_shared).prog 50).name = ("law" : PySem.Str) := by kernel_rfl
      rw [← e]
      exact hmg0
    have T := Toy.env_of KX G c
    have e := hmg.symm.trans T.g_law
    cases e
    obtain ⟨fd, F⟩ := T.f_law
    have b := L2.FunD.bindsA (ps := ["_law_script"]) F fun _ _ _ _ _ _ us hl => match us, hl with | [_], _ => rfl
    exact ⟨K, fd, Toy.sp_law K, KX, fun s v => b s [v] rfl, fun H a ns hl hS => ⟨a, ns, rfl, hS, hl, fun _ => rfl⟩, fun base _ _ => Toy.ok_law T F⟩
