import PyProof.Rows.All
import Wide.All
import OpenK.AllK
import Wide.FinOn
import PyProof.EqAt
import PyProof.EqKinds
import PyProof.TupleCall
import HandS.ForMost
import HandS.ForExc
import HandS.Defaults
import HandS.MakeKwOnly
import HandS.WideBits
import HandS.IsInst
import HandS.Flow
import HandS.Style
import HandS.Evl
import HandS.StrMore
import HandS.TupAny
import HandS.SortInts
import HandS.RaiseMore
import HandS.Zip
import HandS.Head0
import HandS.Head1
import HandS.Head2
import HandS.HeadEnd
import HandS.HeadHook1
import HandS.HeadHook2
import HandS.Walk
import PyProof.Rows.StrJoinRep
import PyProof.StrLawsLast
import HandS.Codes
import HandS.ExcIs
import KE.KTryMore
import KE.KFmtOwn
import PyProof.InstSpecial
import HandS.TryOnly
import HandS.FStr
import HandS.Conv
import HandS.SetFor
import HandS.Strs
import HandS.OwnEq
import HandS.Deep
import HandS.RaiseFrom
import HandS.SuiteRaise
import HandS.Exc
import KE.GoesMore
import HandS.HotCalls
import HandS.ExcField
import HandS.More
import PySem.Challenge.RW_shortgoings_k37_what_is_no_list
set_option Elab.async false
set_option linter.all false
set_option maxRecDepth 100000
set_option maxHeartbeats 4000000
namespace L3
open PySem PySem.Spec PyProof.Rows L2
structure Rm (k : Nat) (A : Around) : Prop where
  rm : Room k A
  gd : A.guards = some []
theorem Rm.mono {j k : Nat} {A : Around} (r : Rm k A) (h : j ≤ k) : Rm j A := ⟨r.rm.mono h, r.gd⟩
theorem Rm.deeper {k : Nat} {A : Around} (r : Rm (k + 1) A) (env : Env) : Rm k (A.deeper env) := ⟨r.rm.deeper env, r.gd⟩
theorem make_guards {A : Around} {C : Addr} {us : List Value} {kw : List (Str × Value)} : (A.under (.builtin "type.__call__" ⟨.ref C :: us, kw⟩)).guards = A.guards := by
  have e : Code.guards (.builtin "type.__call__" ⟨.ref C :: us, kw⟩) = [] := by
    first | rfl | simp [Code.guards, Code.isGuard, guardIds]
  show pushGuards (Code.guards (.builtin "type.__call__" ⟨.ref C :: us, kw⟩)) A.guards = A.guards
  rw [e]
  cases A.guards <;> rfl
theorem Rm.make {k : Nat} {A : Around} (r : Rm (k + 1) A) (C : Addr) (us : List Value) (kw : List (Str × Value)) : Rm k (A.under (.builtin "type.__call__" ⟨.ref C :: us, kw⟩)) :=
  ⟨r.rm.make C us kw, make_guards.trans r.gd⟩
structure Fb (P : Program) (w : World) (K : PySem.W.Frag) (mg : Str → Option Value) (base : Heap) (k : Nat) (f : Addr) (fd : FuncData) (ps : List Str) (sp : Sp) : Prop where
  len : ∀ vs H Q E, sp vs H Q E → vs.length = ps.length
  run : ∀ (A : Around) (outer : List Env) (s : Shared) (H : Hp) (args : Args) (us : List Value) (vs : List V) (Q : VK) (E : XK), Rm k A → Env0 P w K mg base A outer s H → BindsTo s fd args (ps.zip us) → Vals vs us → sp vs H Q E →
    codeAny (model P w) A (.call (.ref f) args) (CR (L2.CX P w) outer P w H s Q E) s
section
variable {P : Program} {w : World} {K : PySem.W.Frag} {mg : Str → Option Value} {base : Heap} {x qual : Str} {params : Arguments} {body : List Stmt} {scope : Scope} {dvs : List V} {kws : List (Str × V)} {f : Addr} {fd : FuncData} {k : Nat} {ps N : List Str} {sp : Sp}
theorem fb_of (F : FunD K x qual params body scope dvs kws f fd) (S : FnScope N ps scope) (len : ∀ vs H Q E, sp vs H Q E → vs.length = ps.length)
    (hbody : ∀ (cdv : Value) (A : Around) (outer : List Env) (s : Shared) (H : Hp) (vs : List V) (Q : VK) (E : XK), Rm k (A.deeper (envOfC qual scope s.heap.objs.size f cdv)) → sp vs H Q E →
      ∃ t, PSs (cxOf (L2.CX P w) P w K mg base N qual scope f cdv A outer s H E) body t ∧ t { nx := fun _ H' => Q .non H', rt := Q } (start N vs) H) : Fb P w K mg base (k + 1) f fd ps sp := by
  obtain ⟨oc, od, dV, kV, doc, pm, an, cdv, ct, osl, rfl, lk, hcd, _, _⟩ := F.ex
  refine ⟨len, fun A outer s H args us vs Q E hr e0 hb r hsp => ?_⟩
  have hl := len _ _ _ _ hsp
  have KX : K.In s.heap := e0.mod.kin.keeps fun b o e => (e0.bs b o e).1
  have lim : s.heap.NoLimit := e0.mod.nolimit.keeps fun b o e => (e0.bs b o e).1
  have hkind : ∀ y ∈ ps.zip us, scope.names.lookup y.1 = some .local ∨ (scope.names.lookup y.1 = some .cell ∧ ((cellsFrom (s.heap.objs.size + 1) scope.names []).lookup y.1).isSome = true) := fun ⟨n, v⟩ hy => by
    rcases S.par n (List.of_mem_zip hy).1 with q | q
    · exact .inl q
    · exact .inr ⟨q, PySem.W.cellsFrom_some _ _ _ (.inl q)⟩
  refine codeAny_call_function hr.rm.depth (KX _ _ lk) rfl S.co S.gen rfl (PySem.W.codeRec_of KX hcd) (hb _ _ _ _ ?_)
  refine wpAny_newFunctionEnv_cells S.kind hkind fun env he s1 x => ?_
  subst he
  refine ⟨lim.keeps x.toInCall.keep, codeAny_func ?_⟩
  obtain ⟨t, ht, hq⟩ := hbody cdv A outer s H vs Q E (hr.deeper _) hsp
  have I : Inv (cxOf (L2.CX P w) P w K mg base N qual scope f cdv A outer s H E) [] (start N vs) H s1 := inv_start S hr.rm.hd e0 hl r x
  refine wpAny_mono (ht.run [] s1 (start N vs) H _ I hq) (fun fl s' hs => ?_) fun e s' hs => hs
  have fin : ∀ {σ' : L2.St} {H' : Hp} {v : V} {u : Value}, Inv (cxOf (L2.CX P w) P w K mg base N qual scope f cdv A outer s H E) [] σ' H' s' → RelV v u → Q v H' → CE outer P w H s Q u s' :=
    fun {σ' H' v u} J rv q => ⟨v, H', J.os, J.bare, J.base, J.hok, rv, q⟩
  cases fl with
  | ret u =>
    obtain ⟨v, σ', H', J, rv, q⟩ := hs
    exact fin J rv q
  | next =>
    obtain ⟨σ', H', J, q⟩ := hs
    exact fin (v := V.non) (u := Value.none) J rfl q
  | brk =>
    obtain ⟨_, _, _, q⟩ := hs
    exact False.elim q
  | cont =>
    obtain ⟨_, _, _, q⟩ := hs
    exact False.elim q
theorem Fb.mono {j : Nat} (F : Fb P w K mg base j f fd ps sp) (h : j ≤ k) : Fb P w K mg base k f fd ps sp := ⟨F.len, fun A outer s H args us vs Q E hr => F.run A outer s H args us vs Q E (hr.mono h)⟩
theorem Fb.imp {sp' : Sp} (F : Fb P w K mg base k f fd ps sp) (h : ∀ vs H Q E, sp' vs H Q E → sp vs H Q E) : Fb P w K mg base k f fd ps sp' :=
  ⟨fun vs H Q E q => F.len vs H Q E (h _ _ _ _ q), fun A outer s H args us vs Q E hr he hb hv hs => F.run A outer s H args us vs Q E hr he hb hv (h _ _ _ _ hs)⟩
def Fc (P : Program) (w : World) (K : PySem.W.Frag) (mg : Str → Option Value) (base : Heap) (k : Nat) (f : Addr) (ks : List Str) (sp : Sp) : Prop :=
  ∀ (A : Around) (outer : List Env) (s : Shared) (H : Hp) (us ws : List Value) (vs : List V) (Q : VK) (E : XK), Rm k A → Env0 P w K mg base A outer s H → Vals vs (us ++ ws) → ws.length = ks.length → sp vs H Q E →
    codeAny (model P w) A (.call (.ref f) ⟨us, ks.zip ws⟩) (CR (L2.CX P w) outer P w H s Q E) s
theorem Fc.mono {j : Nat} {ks : List Str} (F : Fc P w K mg base j f ks sp) (h : j ≤ k) : Fc P w K mg base k f ks sp := fun A outer s H us ws vs Q E hr => F A outer s H us ws vs Q E (hr.mono h)
theorem Fc.imp {sp' : Sp} {ks : List Str} (F : Fc P w K mg base k f ks sp) (h : ∀ vs H Q E, sp' vs H Q E → sp vs H Q E) : Fc P w K mg base k f ks sp' :=
  fun A outer s H us ws vs Q E hr he hv hl hs => F A outer s H us ws vs Q E hr he hv hl (h _ _ _ _ hs)
/-- every parameter is given by place -/
theorem Fb.all (F : Fb P w K mg base k f fd ps sp) (hb : Binds K fd ps []) : Fc P w K mg base k f [] sp := fun A outer s H us ws vs Q E hr e0 r hl h => by
  cases ws with
  | cons w ws => cases hl
  | nil =>
    rw [List.append_nil] at r
    have KX : K.In s.heap := e0.mod.kin.keeps fun b o e => (e0.bs b o e).1
    have l2 : us.length = ps.length := by rw [← r.length]; exact F.len _ _ _ _ h
    have b := hb s us KX (by rw [List.append_nil]; exact l2)
    rw [List.append_nil] at b
    exact F.run A outer s H ⟨us, []⟩ us vs Q E hr e0 b r h
/-- some by place, some by name, some left out: g puts the given ones and the defaults into the parameters' order -/
theorem Fb.shape (D : FunD K x qual params body scope dvs kws f fd) (F : Fb P w K mg base k f fd ps sp) (n : Nat) (ks : List Str) (g : {α : Type} → List α → List α → List α) (hd : dvs ≠ [])
    (hrel : ∀ {vs ds : List V} {us its : List Value}, Vals vs us → Vals ds its → Vals (g vs ds) (g us its))
    (h : ∀ (T : Addr) (kV doc pm : Value) (an : Option Addr) (cdv ct : Value) (us ws its : List Value), us.length = n → ws.length = ks.length → its.length = dvs.length →
      ∃ k, bindArgs (PySem.W.fnOf x qual params body scope (.ref T) kV doc pm an cdv ct) ⟨us, ks.zip ws⟩ = seqItems? (.ref T) >>= k ∧ k (some its.toArray) = pure (ps.zip (g (us ++ ws) its))) :
    Fc P w K mg base k f ks (fun vs H Q E => vs.length = n + ks.length ∧ sp (g vs dvs) H Q E) := by
  obtain ⟨oc, od, dV, kV, doc, pm, an, cdv, ct, osl, rfl, lk, hcd, hD, hK⟩ := D.ex
  rcases hD with ⟨e, _⟩ | ⟨_, T, o, its, m, rfl, lT, oT, rT⟩
  · exact absurd e hd
  · intro A outer s H us ws vs Q E hr e0 r hl hsp
    have KX : K.In s.heap := e0.mod.kin.keeps fun b o e => (e0.bs b o e).1
    have l1 : its.length = dvs.length := rT.length.symm
    have l2 : us.length = n := by
      have e := r.length
      rw [hsp.1, List.length_append, hl] at e
      omega
    obtain ⟨k, e1, e2⟩ := h T kV doc pm an cdv ct us ws its l2 hl l1
    refine F.run A outer s H ⟨us, ks.zip ws⟩ (g (us ++ ws) its) (g vs dvs) Q E hr e0 (BindsTo.of_looks fun M => ?_) (hrel r rT) hsp.2
    rw [e1]
    exact looks_items KX lT oT (.of_pure e2)
/-- all parameters given, some by name, no defaults -/
theorem Fb.names (D : FunD K x qual params body scope [] kws f fd) (F : Fb P w K mg base k f fd ps sp) (n : Nat) (ks : List Str) (g : {α : Type} → List α → List α)
    (hrel : ∀ {vs : List V} {us : List Value}, Vals vs us → Vals (g vs) (g us))
    (h : ∀ (kV doc pm : Value) (an : Option Addr) (cdv ct : Value) (us ws : List Value), us.length = n → ws.length = ks.length →
      bindArgs (PySem.W.fnOf x qual params body scope .none kV doc pm an cdv ct) ⟨us, ks.zip ws⟩ = pure (ps.zip (g (us ++ ws)))) :
    Fc P w K mg base k f ks (fun vs H Q E => vs.length = n + ks.length ∧ sp (g vs) H Q E) := by
  obtain ⟨oc, od, dV, kV, doc, pm, an, cdv, ct, osl, rfl, lk, hcd, hD, hK⟩ := D.ex
  rcases hD with ⟨_, rfl⟩ | ⟨e, _⟩
  · intro A outer s H us ws vs Q E hr e0 r hl hsp
    have l2 : us.length = n := by
      have e := r.length
      rw [hsp.1, List.length_append, hl] at e
      omega
    exact F.run A outer s H ⟨us, ks.zip ws⟩ (g (us ++ ws)) (g vs) Q E hr e0 (.of_eq (h kV doc pm an cdv ct us ws l2 hl)) (hrel r) hsp.2
  · exact absurd rfl e
end
def tFc (sp : Sp) (W : WX) (t : TA) : TE := fun σ H Q => t σ H fun vs H1 => sp vs H1 Q (WE W σ)
section
variable {X : Cx} {k : Nat} {f C : Addr} {ks : List Str} {sp : Sp} {W : WX} {x m : Str} {p pos apos : Pos} {e o : Expr} {es : List Expr} {kws : List Keyword} {ta : TE} {t tk : TA}
theorem run_fc {pins : List (Addr × Obj)} {σ : L2.St} {H : Hp} {s : Shared} {Q : VK} {us ws : List Value} {vs : List V} (F : Fc X.prog X.w X.K X.mg X.base k f ks sp) (hr : Rm k X.A) (hx : Takes X W)
    (I : Inv X pins σ H s) (r : Vals vs (us ++ ws)) (hl : ws.length = ks.length) (h : sp vs H Q (WE W σ)) : wpAny (model X.prog X.w) X.A (call (.ref f) us (ks.zip ws)) (EP X pins σ Q) X.xe s := by
  refine wpAny_call (codeAny_mono (F X.A X.stack s H us ws vs Q (WE W σ) hr I.env0 r hl h) fun r s' hq => ?_)
  cases r with
  | error e => exact passAt hx σ pins H s e s' I hq
  | ok fl =>
    cases fl with
    | ret u => exact I.after hq
    | next => exact False.elim hq
    | brk => exact False.elim hq
    | cont => exact False.elim hq
/-- f(e, ..) -/
theorem c_call (F : Fc X.prog X.w X.K X.mg X.base k f [] sp) (hr : Rm k X.A) (hm : X.mg x = some (.ref f)) (hk : PySem.W.keepIn X.K (.ref f) = true) (hx : Takes X W)
    (ha : PA X (e :: es) t) (hg : Gl X x := by rfl) (hdb : (x == ("__debug__" : Str)) = false := by decide) (he : starEach (e :: es) X.env = (false, eval e X.env) :: starEach es X.env := by rfl) (hpl : (backTo pos (starEach es X.env)).any (·.1) = false := by rfl) :
    PE X (.Call (.Name x p) (e :: es) [] pos) (tFc sp W t) := by
  refine ⟨fun pins s σ H Q I h => ?_⟩
  refine wpAny_Call_Name_kw (ld_glob I hg hm ?_ hdb)
  refine PySem.W.callWith_K (h₀ := X.base) I.ok.mod.kin hk (thn (ha.run pos pins s σ H _ I h) fun us s1 ⟨vs, H1, I1, r, q⟩ => ⟨I1.kIn, ?_⟩) he hpl
  exact run_fc (ws := []) F hr hx I1 (by rw [List.append_nil]; exact r) rfl q
end
@[irreducible] def rRepr (K : PySem.W.Frag) : List V → Hp → VK → Prop := fun xs H Q => ∃ (a : Addr) (d : PyData), xs = [.ref a] ∧ Dp K H (.ref a) d ∧ d.hasDict = false ∧ d.showable = true ∧ d.depth ≤ 60 ∧ d.shown.length ≤ sizeLine ∧ Q (.str d.shown) H
theorem call_repr {X : Cx} {k : Nat} (hr : Rm k X.A) : CallR X (.builtin "repr") (rRepr X.K) := by
  intro pins s σ H xs us Q I r h
  unfold rRepr at h
  obtain ⟨a, d, rfl, hd, hnd, hs, hdp, hsz, q⟩ := h
  cases r with
  | cons r1 r2 =>
    cases r2
    obtain ⟨as, rd⟩ := Dp.reads I d (.ref a) _ hd r1
    obtain rfl : _ = Value.ref a := r1
    refine repr_of_reads' rd hs (PyData.noDict_hsm hnd) hr.gd (by have := hr.rm.un; omega) (fun _ _ e => e) (fun h' u tk hk => ?_) hsz
    exact ⟨.str d.shown, H, I.kept hk, ⟨u, rfl⟩, q⟩
theorem rm_caller : Rm 230 callerA := ⟨⟨rfl, by decide, by decide⟩, rfl⟩
section
variable {P : Program} {w : World} {K : PySem.W.Frag} {mg mb : Str → Option Value} {k : Nat} {fa a : Addr} {fd : FuncData} {x : Str} {sp : Sp} {s₁ : Shared} {vs : List Value} {ns : List Int}
/-- the law's call over one abstract heap, in which at most the script is tracked -/
theorem law_core (H : Hp) (KX : K.In s₁.heap) (hns : s₁.heap.Ns mainGlobals mg) (hb : s₁.heap.Ns builtinsNs mb) (hbb : ∀ x : Str, x ≠ "__name__" → mb x = bootBuiltins x) (hlim : s₁.heap.NoLimit) (hg : s₁.gens = #[])
    (ha : s₁.heap.get? a = some { cls := .type "list", data := .seq vs.toArray }) (hr : Rm k callerA)
    (F : ∀ base : Heap, K.In base → base.Ns mainGlobals mg → Fb P w K mg base k fa fd [x] sp) (hbind : ∀ (s : Shared) (u : Value), BindsTo s fd ⟨[u], []⟩ [(x, u)])
    (hO : Only H) (hsp : sp [.ref a] H (fun v _ => v = .bl true) fun _ _ _ => False) (hok : HOk P w H s₁.heap) (hA : ∀ b, H b ≠ none → b = a) (hK : H a ≠ none → K.lookup a = none) :
    codeAny (model P w) callerA (.call (.ref fa) ⟨[.ref a], []⟩) (fun r s' => r = .ok (.ret (.bool true)) ∧ OldK s₁.heap s'.heap ∧ s'.os = s₁.os ∧ AllBare s'.gens) s₁ := by
  have isA : ∀ {b : Addr} {u : HO}, H b = some u → b = a := fun {b u} q => hA b (fun z => nomatch (q.symm.trans z))
  have free : ∀ {b : Addr} {o : Obj} {es : Array DictEntry} {ep : Nat}, s₁.heap.get? b = some o → o.data = .dict es ep → H b = none := fun {b o es ep} e d => by
    cases q : H b with
    | none => rfl
    | some u =>
      have eb := isA q
      subst eb
      rw [ha] at e
      cases e
      cases (show Data.seq vs.toArray _ = Data.dict es ep from d)
  have nsK : ∀ {b : Addr} {m : Str → Option Value}, s₁.heap.Ns b m → (hidT s₁.heap H).Ns b m := fun {b m} ⟨o, es, ep, e, d, r⟩ => ⟨o, es, ep, hidT_get e (free e d), d, r⟩
  have inK : K.In (hidT s₁.heap H) := fun b o e => hidT_get (KX b o e) (by
    cases q : H b with
    | none => rfl
    | some u =>
      have eb := isA q
      subst eb
      rw [hK (fun z => nomatch (q.symm.trans z))] at e
      cases e)
  have hM : Mod K mg (hidT s₁.heap H) := ⟨inK, nsK hns, ⟨mb, nsK hb, hbb⟩, let ⟨mc, h1, h2⟩ := hlim; ⟨mc, nsK h1, h2⟩⟩
  have e0 : Env0 P w K mg (hidT s₁.heap H) callerA [] s₁ H := ⟨rfl, hM, fun b o e => of_hidT e, Nat.le_of_eq (hidT_size _ _), trivial, (fun b z => nomatch (show b ∈ ([] : List Addr) from z)), hok, .of_eq hg⟩
  refine codeAny_mono ((F _ inK (nsK hns)).run callerA [] s₁ H ⟨[.ref a], []⟩ [.ref a] [.ref a] _ _ hr e0 (hbind s₁ (.ref a)) (.cons rfl .nil) hsp) fun r s' h => ?_
  cases r with
  | error e =>
    obtain ⟨_, _, _, _, _, _, _, _, _, _, _, _, z⟩ := h
    exact z.elim
  | ok fl =>
    cases fl with
    | next => exact h.elim
    | brk => exact h.elim
    | cont => exact h.elim
    | ret u =>
      obtain ⟨v, H', os, bare, un, hok2, rv, rfl⟩ := h
      obtain rfl : u = Value.bool true := rv
      refine ⟨rfl, OldK.of_keep fun b o e => ?_, os, bare⟩
      cases q : H b with
      | none => exact un.keep b o e q (fun z => nomatch (show b ∈ ([] : List Addr) from z)) (fun z => nomatch z)
      | some u =>
        rcases hO b with z | ⟨ob, xs, z⟩
        · exact nomatch (q.symm.trans z)
        · have e1 := (hok b _ z).1
          have e2 := (hok2 b _ (un.frzs b ob _ z)).1
          rw [e] at e1
          cases e1
          exact e2
theorem law_end (KX : K.In s₁.heap) (hns : s₁.heap.Ns mainGlobals mg) (hb : s₁.heap.Ns builtinsNs mb) (hbb : ∀ x : Str, x ≠ "__name__" → mb x = bootBuiltins x) (hlim : s₁.heap.NoLimit) (hg : s₁.gens = #[])
    (ha : s₁.heap.get? a = some { cls := .type "list", data := .seq vs.toArray }) (hi : IntsAre vs ns) (hl : ns.length ≤ sizeLine) (hr : Rm k callerA)
    (F : ∀ base : Heap, K.In base → base.Ns mainGlobals mg → Fb P w K mg base k fa fd [x] sp) (hbind : ∀ (s : Shared) (u : Value), BindsTo s fd ⟨[u], []⟩ [(x, u)])
    (hsp : ∀ H : Hp, SqL K H a (ns.map V.int) → sp [.ref a] H (fun v _ => v = .bl true) fun _ _ _ => False) :
    codeAny (model P w) callerA (.call (.ref fa) ⟨[.ref a], []⟩) (fun r s' => r = .ok (.ret (.bool true)) ∧ OldK s₁.heap s'.heap ∧ s'.os = s₁.os ∧ AllBare s'.gens) s₁ := by
  have rv := vals_ints hi
  cases hk : K.lookup a with
  | some o =>
    have e := KX a o hk
    rw [ha] at e
    cases e
    have sq : SqL K (fun _ => none) a (ns.map V.int) := .inr ⟨_, vs.toArray, _, hk, rfl, rfl, rfl, by rw [List.size_toArray, hi.length]; exact hl, by simpa using rv⟩
    exact law_core (fun _ => none) KX hns hb hbb hlim hg ha hr F hbind (fun _ => .inl rfl) (hsp _ sq) (fun b u z => nomatch (show (none : Option HO) = some u from z)) (fun b z => absurd rfl z) fun z => absurd rfl z
  | none =>
    have h1 : ∀ b, b ≠ a → (upd (fun _ => none) a (.frz { cls := .type "list", data := .seq vs.toArray } (.lst (ns.map V.int)))) b = none := fun b n => upd_ne n
    refine law_core (upd (fun _ => none) a (.frz { cls := .type "list", data := .seq vs.toArray } (.lst (ns.map V.int)))) KX hns hb hbb hlim hg ha hr F hbind (fun b => ?_) (hsp _ (.inl (.inr ⟨_, upd_same⟩))) (fun b u z => ?_) (fun b z => ?_) fun _ => hk
    · by_cases n : b = a
      · subst n
        exact .inr ⟨_, _, upd_same⟩
      · exact .inl (h1 b n)
    · by_cases n : b = a
      · subst n
        rw [upd_same] at z
        cases z
        exact ⟨ha, by rw [List.length_map]; exact hl, vs, _, rv, ha⟩
      · rw [h1 b n] at z
        cases z
    · by_cases n : b = a
      · exact n
      · exact absurd (h1 b n) z
end
theorem walk_end {l : PySem.W.OpenLaw} {n k : Nat} {q : Program} {loose : List Str} {XP : (Str → Option Value) → Heap → Prop} {YP : World → Heap → Prop} {d : DefRec} {x : Str}
    (hn : l.most = some n) (hn2 : n ≤ sizeLine) (hdf : d.params.defaults = []) (hr : Rm k callerA)
    (F : ∀ (w : World) (mg : Str → Option Value) (fa : Addr) (h : Heap), YP w h → h.Ns mainGlobals mg → mg d.name = some (.ref fa) →
      ∃ (K : PySem.W.Frag) (fd : FuncData) (sp : Sp), K.In h ∧ (∀ (s : Shared) (u : Value), BindsTo s fd ⟨[u], []⟩ [(x, u)]) ∧
        (∀ (H : Hp) (a : Addr) (ns : List Int), ns.length ≤ n → SqL K H a (ns.map V.int) → sp [.ref a] H (fun v _ => v = .bl true) fun _ _ _ => False) ∧
        ∀ base : Heap, K.In base → base.Ns mainGlobals mg → Fb l.prog w K mg base k fa fd [x] sp) :
    PySem.W.WalkO q loose XP YP l.row.toRowW d [] (fun f vs => PySem.call f vs) := by
  refine Att.attach_call hn hdf fun w s₀ s₁ mg mb fa o pm cd doc a vs ns G Y ho hd hcd hmg hobj hints hlen hg => ?_
  obtain ⟨K, fd, sp, KX, hb, hsp, hF⟩ := F w mg fa _ Y G.T.g hmg
  exact law_end KX G.T.g G.T.b G.T.builtins G.T.nolimit hg hobj hints (Nat.le_trans hlen hn2) hr hF hb (fun H hS => hsp H a ns hlen hS)
end L3
set_option Elab.async false
set_option linter.all false
set_option maxRecDepth 100000
set_option maxHeartbeats 4000000
namespace L3
open PySem PySem.Spec PyProof.Rows L2
abbrev Fx := PySem.W.Frag → Bool
def obsX (xf : List Fx) (fn : List He.DefD) (K : PySem.W.Frag) : He.AlD := ((xf.all fun p => p K) && fn.all fun d => d.ok K, fn.map fun d => He.fnW K d.at_)
def SaysX (xf : List Fx) (fn : List He.DefD) (K : PySem.W.Frag) : Prop := obsX xf fn K = He.valD fn
section
variable {xf : List Fx} {fn : List He.DefD} {K : PySem.W.Frag}
theorem SaysX.fact (c : SaysX xf fn K) (i : Nat) {f : Fx} (h : xf[i]? = some f := by rfl) : f K = true := by
  have c1 := (He.ba (show ((xf.all fun f => f K) && fn.all fun d => d.ok K) = true from congrArg (fun z : He.AlD => z.1) c)).1
  exact List.all_eq_true.mp c1 f (List.mem_of_getElem? h)
theorem SaysX.def_ (c : SaysX xf fn K) (i : Nat) {d : He.DefD} (h : fn[i]? = some d := by rfl) : ∃ fd, FunD K d.name d.qual d.params d.body d.scope (d.dvs K) (d.kws K) (He.fAd K d.at_) fd := by
  have c2 := (He.ba (show ((xf.all fun f => f K) && fn.all fun d => d.ok K) = true from congrArg (fun z : He.AlD => z.1) c)).2
  have e : fn.map (fun d => He.fnW K d.at_) = fn.map He.DefD.val := congrArg (fun z : He.AlD => z.2) c
  have e2 : (fn.map fun d => He.fnW K d.at_)[i]? = (fn.map He.DefD.val)[i]? := by rw [e]
  rw [List.getElem?_map, List.getElem?_map, h] at e2
  exact He.DefD.funD (Option.some.inj e2) (List.all_eq_true.mp c2 d (List.mem_of_getElem? h))
end
structure Exo (K : PySem.W.Frag) (C : Addr) (bmB : List Value) (newId : String) : Prop where
  x : PySem.W.excIn K C bmB newId = true
  kp : PySem.W.keepIn K (.ref C) = true
  sub : PySem.W.subIn K (.ref C) (.type "BaseException") = some true
  ty : PySem.W.typeIn K (.ref C) = some (.type "type")
abbrev bmV : List Value := [.type "ValueError", .type "Exception", .type "BaseException", .type "object"]
abbrev bmL : List Value := [.type "LookupError", .type "Exception", .type "BaseException", .type "object"]
abbrev bmR : List Value := [.type "RuntimeError", .type "Exception", .type "BaseException", .type "object"]
def exoB (bmB : List Value) (newId : String) (x : Str) : Fx := fun K => PySem.W.excIn K (He.ga K x) bmB newId && (PySem.W.keepIn K (.ref (He.ga K x)) && (decide (PySem.W.subIn K (.ref (He.ga K x)) (.type "BaseException") = some true) && decide (PySem.W.typeIn K (.ref (He.ga K x)) = some (.type "type"))))
theorem exo_of {bmB : List Value} {newId : String} {x : Str} {K : PySem.W.Frag} (h : exoB bmB newId x K = true) : Exo K (He.ga K x) bmB newId := by
  obtain ⟨h1, h⟩ := He.ba h
  obtain ⟨h2, h⟩ := He.ba h
  obtain ⟨h3, h4⟩ := He.ba h
  exact ⟨h1, h2, of_decide_eq_true h3, of_decide_eq_true h4⟩
section
variable {K : PySem.W.Frag} {h : Heap} {mg : Str → Option Value}
theorem gint_of (X : K.In h) (G : h.Ns mainGlobals mg) {x : Str} {i : Int} (c : (He.Fa.int x i).ok K = true) : ∃ u, mg x = some u ∧ RelV (.int i) u := by
  obtain ⟨t, e⟩ := He.int_ok X G c
  exact ⟨_, e, ⟨t, rfl⟩⟩
theorem gstr_of (X : K.In h) (G : h.Ns mainGlobals mg) {x z : Str} (c : (He.Fa.str x z).ok K = true) : ∃ u, mg x = some u ∧ RelV (.str z) u := by
  obtain ⟨t, e⟩ := He.str_ok X G c
  exact ⟨_, e, ⟨t, rfl⟩⟩
end
/-- a module's constant -/
theorem pe_k {X : Cx} {x : Str} {v : V} {pos : Pos} (h : ∃ u, X.mg x = some u ∧ RelV v u) (hg : Gl X x := by rfl) (hdb : (x == ("__debug__" : Str)) = false := by decide) : PE X (.Name x pos) (tC v) := by
  obtain ⟨u, e, r⟩ := h
  exact pe_glob hg e r hdb
end L3
set_option Elab.async false
set_option linter.all false
set_option maxRecDepth 100000
set_option maxHeartbeats 4000000
namespace L3
open PySem PySem.Spec PyProof.Rows L2
abbrev Ex (H H' : Hp) : Prop := Same H H'
theorem ex_new {H : Hp} {p : Addr} {o : HO} (h : H p = none) : Ex H (upd H p o) := fun a u e => by
  rw [upd_ne (ne_of_none e h)]
  exact e
/-- an object that H does not know may change -/
theorem ex_mut {H H' : Hp} {p : Addr} {o : HO} (e : Ex H H') (h : H p = none) : Ex H (upd H' p o) := fun a u ha => by
  rw [upd_ne (ne_of_none ha h)]
  exact e a u ha
theorem ex_sql {K : PySem.W.Frag} {H H' : Hp} {a : Addr} {xs : List V} (e : Ex H H') (h : SqL K H a xs) : SqL K H' a xs := Same.seq e h
theorem ex_sqt {K : PySem.W.Frag} {H H' : Hp} {a : Addr} {xs : List V} (e : Ex H H') (h : SqT K H a xs) : SqT K H' a xs := by
  rcases h with (h | ⟨o, h⟩) | h
  · exact .inl (.inl (e _ _ h))
  · exact .inl (.inr ⟨o, e _ _ h⟩)
  · exact .inr h
theorem ex_fresh {H H' : Hp} {p : Addr} (e : Ex H H') (h : H' p = none) : H p = none := Same.free e h
theorem sq_lst {K : PySem.W.Frag} {H : Hp} {a : Addr} {xs : List V} (h : H a = some (.lst xs)) : SqL K H a xs := .inl (.inl h)
theorem sq_tup {K : PySem.W.Frag} {H : Hp} {a : Addr} {xs : List V} (h : H a = some (.tup xs)) : SqT K H a xs := .inl (.inl h)
/-- a value of a known type -/
def isW : V → Bool
  | .int _ => true
  | _ => false
def isM : V → Bool
  | .int i => decide (0 ≤ i)
  | _ => false
def Cl (K : PySem.W.Frag) (H : Hp) (x : V) : Prop := ∃ t b c, TyX K H x t ∧ PySem.W.kitOne K t (.type "int") = some b ∧ PySem.W.kitOne K t (.type "bool") = some c ∧ isW x = (b && !c)
section
variable {K : PySem.W.Frag} {H : Hp}
theorem cl_int (i : Int) : Cl K H (.int i) := ⟨_, true, false, .base (.int i), kit_ty (by decide +kernel), kit_ty (by decide +kernel), rfl⟩
theorem cl_bl (b : Bool) : Cl K H (.bl b) := ⟨_, true, true, .base (.bl b), kit_ty (by decide +kernel), kit_ty (by decide +kernel), rfl⟩
theorem cl_non : Cl K H .non := ⟨_, false, false, .base .non, kit_ty (by decide +kernel), kit_ty (by decide +kernel), rfl⟩
theorem cl_str (z : Str) : Cl K H (.str z) := ⟨_, false, false, .base (.str z), kit_ty (by decide +kernel), kit_ty (by decide +kernel), rfl⟩
theorem kit_list : PySem.W.kitOne K (.type "list") (.type "int") = some false ∧ PySem.W.kitOne K (.type "list") (.type "bool") = some false := ⟨kit_ty (by decide +kernel), kit_ty (by decide +kernel)⟩
theorem kit_tuple : PySem.W.kitOne K (.type "tuple") (.type "int") = some false ∧ PySem.W.kitOne K (.type "tuple") (.type "bool") = some false := ⟨kit_ty (by decide +kernel), kit_ty (by decide +kernel)⟩
theorem kit_dict : PySem.W.kitOne K (.type "dict") (.type "int") = some false ∧ PySem.W.kitOne K (.type "dict") (.type "bool") = some false := ⟨kit_ty (by decide +kernel), kit_ty (by decide +kernel)⟩
theorem cl_lst {a : Addr} {xs : List V} (e : H a = some (.lst xs)) : Cl K H (.ref a) := ⟨_, false, false, .base (.lst e), kit_list.1, kit_list.2, rfl⟩
theorem cl_tup {a : Addr} {xs : List V} (e : H a = some (.tup xs)) : Cl K H (.ref a) := ⟨_, false, false, .base (.tup e), kit_tuple.1, kit_tuple.2, rfl⟩
theorem cl_dK {a : Addr} {kvs : List (Key × V)} (e : H a = some (.dK kvs)) : Cl K H (.ref a) := ⟨_, false, false, .base (.dK e), kit_dict.1, kit_dict.2, rfl⟩
end
theorem isM_w {x : V} (h : isM x = true) : ∃ i, x = .int i ∧ 0 ≤ i := by
  cases x with
  | int i => exact ⟨i, rfl, of_decide_eq_true h⟩
  | _ => cases h
theorem isM_f {x : V} (h : isW x = false) : isM x = false := by
  cases x with
  | int i => cases h
  | _ => rfl
/-- given values and defaults in the parameters' order -/
def pick {α : Type} (ix : List (Sum Nat Nat)) (us its : List α) : List α := ix.filterMap fun j => match j with
  | .inl i => us[i]?
  | .inr i => its[i]?
theorem pick_vals {vs ds : List V} {us its : List Value} (ix : List (Sum Nat Nat)) (r1 : Vals vs us) (r2 : Vals ds its) : Vals (pick ix vs ds) (pick ix us its) := by
  have one : ∀ {vs : List V} {us : List Value} (i : Nat), Vals vs us → (∃ v u, vs[i]? = some v ∧ us[i]? = some u ∧ RelV v u) ∨ (vs[i]? = none ∧ us[i]? = none) := fun {vs us} i r => by
    cases e : vs[i]? with
    | none => exact .inr ⟨rfl, r.none_of e⟩
    | some v =>
      obtain ⟨u, h1, h2⟩ := r.get e
      exact .inl ⟨v, u, rfl, h1, h2⟩
  induction ix with
  | nil => exact .nil
  | cons j ix ih =>
    unfold pick at ih ⊢
    cases j with
    | inl i =>
      rcases one i r1 with ⟨v, u, h1, h2, h3⟩ | ⟨h1, h2⟩
      · simp only [List.filterMap_cons, h1, h2]
        exact .cons h3 ih
      · simp only [List.filterMap_cons, h1, h2]
        exact ih
    | inr i =>
      rcases one i r2 with ⟨v, u, h1, h2, h3⟩ | ⟨h1, h2⟩
      · simp only [List.filterMap_cons, h1, h2]
        exact .cons h3 ih
      · simp only [List.filterMap_cons, h1, h2]
        exact ih
end L3
namespace L3
open PySem PySem.Spec PyProof.Rows L2
theorem log_of {n : Nat} (h : n < 10 ^ 200) : n.log2 < 1920 := PySem.Flt.log2_lt_of (by decide) (Nat.lt_trans h (by decide +kernel))
/-- data that repr shows, without dicts: whole numbers of at most 500 figures, texts of any signs -/
def okI (i : Int) : Bool := decide (i.natAbs < 10 ^ 200)
def okT (x : Str) : Bool := x.cps.toList.all fun c => decide (c < 16 ^ 8)
mutual
def okD : PyData → Bool
  | .none => true
  | .bool _ => true
  | .int i => okI i
  | .str x => okT x
  | .list xs => okL xs
  | .tuple xs => okL xs
  | .dict _ => false
def okL : List PyData → Bool
  | [] => true
  | x :: xs => okD x && okL xs
end
mutual
def szD : PyData → Nat
  | .none => 4
  | .bool _ => 5
  | .int _ => 1921
  | .str x => 10 * x.length + 2
  | .list xs => szL xs + 3
  | .tuple xs => szL xs + 3
  | .dict _ => 0
def szL : List PyData → Nat
  | [] => 0
  | x :: xs => szD x + 2 + szL xs
end
mutual
theorem okD_tells : ∀ d : PyData, okD d = true → d.hasDict = false ∧ d.showable = true ∧ d.shown.length ≤ szD d
  | .none, _ => ⟨rfl, rfl, Nat.le_refl _⟩
  | .bool b, _ => ⟨rfl, rfl, by cases b <;> decide⟩
  | .int i, h => by
    have h1 : i.natAbs < 10 ^ 200 := of_decide_eq_true (show decide (i.natAbs < 10 ^ 200) = true from h)
    exact ⟨rfl, decide_eq_true (log_of h1), int_text_len_1921 (log_of h1)⟩
  | .str x, h => by
    have h1 : ∀ c ∈ x.cps.toList, c < 16 ^ 8 := fun c hc => of_decide_eq_true (List.all_eq_true.mp h c hc)
    exact ⟨rfl, rfl, StrLaws.reprText_len x h1⟩
  | .list xs, h => by
    obtain ⟨h1, h2, h3⟩ := okL_tells xs h
    refine ⟨h1, h2, Nat.le_trans (listText_len_le (PyData.shownAll xs)) ?_⟩
    have e := PyData.shownAll_length xs
    show _ ≤ szL xs + 3
    omega
  | .tuple xs, h => by
    obtain ⟨h1, h2, h3⟩ := okL_tells xs h
    refine ⟨h1, h2, Nat.le_trans (tupleText_len_le (PyData.shownAll xs)) ?_⟩
    have e := PyData.shownAll_length xs
    show _ ≤ szL xs + 3
    omega
  | .dict _, h => by cases h
theorem okL_tells : ∀ xs : List PyData, okL xs = true → PyData.hasDictAll xs = false ∧ PyData.showableAll xs = true ∧ ((PyData.shownAll xs).map (·.length)).sum + 2 * xs.length ≤ szL xs
  | [], _ => ⟨rfl, rfl, Nat.le_refl _⟩
  | x :: xs, h => by
    obtain ⟨g1, g2⟩ := He.ba (show (okD x && okL xs) = true from h)
    obtain ⟨h1, h2, h3⟩ := okD_tells x g1
    obtain ⟨k1, k2, k3⟩ := okL_tells xs g2
    refine ⟨?_, ?_, ?_⟩
    · show (x.hasDict || PyData.hasDictAll xs) = false
      rw [h1, k1]
      rfl
    · show (x.showable && PyData.showableAll xs) = true
      rw [h2, k2]
      rfl
    · show (x.shown.length + ((PyData.shownAll xs).map (·.length)).sum) + 2 * (xs.length + 1) ≤ szD x + 2 + szL xs
      omega
end
/-- repr of a list, a tuple -/
theorem rr_data {K : PySem.W.Frag} {H : Hp} {a : Addr} {d : PyData} {Q : VK} (h : Dp K H (.ref a) d) (ho : okD d = true) (hz : szD d ≤ 16000000) (hd : d.depth ≤ 60) (q : Q (.str d.shown) H) : rRepr K [.ref a] H Q := by
  obtain ⟨h1, h2, h3⟩ := okD_tells d ho
  unfold rRepr
  exact ⟨a, d, rfl, h, h1, h2, hd, Nat.le_trans h3 (Nat.le_trans hz (by rw [sizeLine_eq]; decide)), q⟩
section
variable {K : PySem.W.Frag} {H : Hp} {a : Addr} {ns : List Int} {Q : VK}
theorem dpAll_ints (K : PySem.W.Frag) (H : Hp) : ∀ ns : List Int, DpAll K H (ns.map V.int) (ns.map PyData.int)
  | [] => .nil
  | n :: ns => .cons (.int n) (dpAll_ints K H ns)
theorem ints_ok : ∀ ns : List Int, (∀ n ∈ ns, okI n = true) → okL (ns.map PyData.int) = true
  | [], _ => rfl
  | n :: ns, h => by
    show (okI n && okL (ns.map PyData.int)) = true
    rw [ints_ok ns fun m hm => h m (List.mem_cons_of_mem _ hm), h n List.mem_cons_self]
    rfl
theorem ints_sz : ∀ ns : List Int, szL (ns.map PyData.int) = 1923 * ns.length
  | [] => rfl
  | n :: ns => by
    show 1921 + 2 + szL (ns.map PyData.int) = 1923 * (ns.length + 1)
    rw [ints_sz ns]
    omega
theorem ints_depth : ∀ ns : List Int, PyData.depthAll (ns.map PyData.int) = 0
  | [] => rfl
  | n :: ns => by
    show max 0 (PyData.depthAll (ns.map PyData.int)) = 0
    rw [ints_depth ns]
    rfl
end
end L3
namespace L3
open PySem PySem.Spec PyProof.Rows L2
section
variable {K : PySem.W.Frag} {a : Addr} {xs : List V} {g : TG} {tt : TT} {te : TE} {vs : List Nat} {σ : L2.St} {H1 : Hp} {D : Addr} {Qd : Hp → Prop}
theorem small_len {n : Nat} (h : n ≤ 100000) : n < sizeLine := Nat.lt_of_le_of_lt h (by rw [sizeLine_eq]; decide)
abbrev Turn (g : TG) (tt : TT) (te : TE) (vs : List Nat) (σ : L2.St) (D : Addr) (x : V) (H : Hp) (N : Hp → Prop) : Prop :=
  g x (wipe σ vs) H fun σ2 H2 => wipe σ2 vs = wipe σ vs ∧ tt σ2 H2 fun b H3 => if b = true then te σ2 H3 fun y H4 => ∃ acc, H4 D = some (.lst acc) ∧ acc.length < sizeLine ∧ N (upd H4 D (.lst (acc ++ [y]))) else N H3
end
end L3
namespace L3
open PySem PySem.Spec PyProof.Rows L2
abbrev turns (most : Int) (n : Nat) : Int := if (if most < (n : Int) then most else (n : Int)) > (1 : Int) then (if most < (n : Int) then most else (n : Int)) else (1 : Int)
theorem turns_lo (most : Int) (n : Nat) (h : 0 < most ∧ most ≤ 63) : -(2 ^ 62) ≤ turns most n := by
  unfold turns
  split <;> split <;> omega
theorem turns_hi (most : Int) (n : Nat) (h : 0 < most ∧ most ≤ 63) : turns most n < 2 ^ 62 := by
  unfold turns
  split <;> split <;> omega
theorem turns_lt {i : Nat} (most : Int) (n : Nat) (h : 0 < most ∧ most ≤ 63) (hi : i < (turns most n).toNat) : i < 1000 := by
  unfold turns at hi
  split at hi <;> split at hi <;> omega
end L3
set_option Elab.async false
set_option linter.all false
set_option maxRecDepth 100000
set_option maxHeartbeats 4000000
namespace L3
open PySem PySem.Spec PyProof.Rows L2 TL
section
variable {J : It} {n : Nat} {G : Hp → Prop} {Y : Nat → Hp → V → Hp → Prop} {g : TG} {tt : TT} {te : TE} {vs : List Nat} {σ : L2.St} {H1 : Hp} {D : Addr} {Qd : Hp → Prop}
theorem range_fm_succ (fm : Nat → Option V) (i : Nat) : (List.range (i + 1)).filterMap fm = match fm i with
    | some y => (List.range i).filterMap fm ++ [y]
    | none => (List.range i).filterMap fm := by
  rw [List.range_succ, List.filterMap_append]
  cases e : fm i with
  | none => simp [e]
  | some y => simp [e]
theorem fm_len (fm : Nat → Option V) (i : Nat) : ((List.range i).filterMap fm).length ≤ i := by
  have := List.length_filterMap_le fm (List.range i)
  rwa [List.length_range] at this
theorem lc_fm (w : L2.Walk J n G Y) (fm : Nat → Option V) (I : Hp → Prop) (hI : ∀ H l, I H → I (upd H D (.lst l))) (i0 : I H1) (hn : n ≤ 100000) (hG : ∀ H, I H → G H)
    (hs : ∀ (i : Nat) (x : V) (H H' : Hp) (acc : List V) (N : Hp → Prop), i < n → I H → H D = some (.lst acc) → acc.length < sizeLine → Y i H x H' →
      (∀ H4, I H4 → H4 D = some (.lst acc) → match fm i with | some y => N (upd H4 D (.lst (acc ++ [y]))) | none => N H4) → Turn g tt te vs σ D x H' N)
    (hd : ∀ H, I H → H D = some (.lst ((List.range n).filterMap fm)) → Qd H) :
    ∃ W : Nat → Nat → Hp → Prop, (∃ m, W 0 m (upd H1 D (.lst []))) ∧ ∀ i m H, W i m H →
      (J.stop i H ∧ Qd H) ∨ (J.go i H ∧ ∃ Nx : Hp → Prop, (∀ H', Nx H' → ∃ m', m' < m ∧ W (i + 1) m' H') ∧ ∀ x H', J.yld i H x H' → Turn g tt te vs σ D x H' Nx) := by
  refine L2.lc_it w (fun i H => I H ∧ i ≤ n ∧ H D = some (.lst ((List.range i).filterMap fm))) ⟨hI _ _ i0, Nat.zero_le _, upd_same⟩ (fun i H _ p => hG H p.1) ?_ (fun H p => hd H p.1 p.2.2)
  rintro i x H H' hi ⟨p1, p2, p3⟩ y
  refine hs i x H H' _ _ hi p1 p3 (small_len (Nat.le_trans (fm_len fm i) (by omega))) y fun H4 i4 d4 => ?_
  have e := range_fm_succ fm i
  cases q : fm i with
  | none =>
    rw [q] at e
    exact ⟨i4, hi, by rw [e]; exact d4⟩
  | some y =>
    rw [q] at e
    exact ⟨hI _ _ i4, hi, by rw [upd_same, e]⟩
end
end L3
set_option Elab.async false
set_option linter.all false
set_option maxRecDepth 100000
set_option maxHeartbeats 4000000
namespace Mo
open PySem TL
def val (l : List Nat) : Nat := NumText.digitsVal l
end Mo
set_option Elab.async false
set_option linter.all false
set_option maxRecDepth 100000
set_option maxHeartbeats 4000000
namespace L3
open PySem PySem.Spec PyProof.Rows L2
def excCB (x : Str) : Fx := fun K => He.eqO (PySem.W.findIn K (.ref (He.ga K x)) "__getattribute__") (some (some (.builtin "BaseException.__getattribute__"))) && (He.eqO (PySem.W.findIn K (.ref (He.ga K x)) "__getattr__") (some none) && (decide (PySem.W.subIn K (.ref (He.ga K x)) (.type "BaseException") = some true) && (PySem.W.hasDictIn K (He.ga K x) &&
  (He.eqO (PySem.W.findIn K (.ref (He.ga K x)) "__class__") (some (some (.builtin "object.__class__"))) && (He.eqO (PySem.W.specialIn K (.builtin "object.__class__") "__get__") (some (some (.builtin "getset_descriptor.__get__"))) && (decide (PySem.W.takesIn K (.builtin "object.__class__") = some true) && decide (PySem.W.mroIn K (He.ga K x) (.type "object") = some true)))))))
theorem excC_of {x : Str} {K : PySem.W.Frag} (h : excCB x K = true) : ExcC K (He.ga K x) := by
  obtain ⟨h1, h⟩ := He.ba h
  obtain ⟨h2, h⟩ := He.ba h
  obtain ⟨h3, h⟩ := He.ba h
  obtain ⟨h4, h⟩ := He.ba h
  obtain ⟨h5, h⟩ := He.ba h
  obtain ⟨h6, h⟩ := He.ba h
  obtain ⟨h7, h8⟩ := He.ba h
  exact ⟨He.eqO_ok h1, He.eqO_ok h2, of_decide_eq_true h3, h4, He.eqO_ok h5, He.eqO_ok h6, of_decide_eq_true h7, of_decide_eq_true h8⟩
def kitF (x y : Str) (b : Bool) : Fx := fun K => decide (PySem.W.kitOne K (.ref (He.ga K x)) (.ref (He.ga K y)) = some b)
def kitFT (x : Str) (y : String) (b : Bool) : Fx := fun K => decide (PySem.W.kitOne K (.ref (He.ga K x)) (.type y) = some b)
def exm3F (x : Str) (ys : List Str) : Fx := fun K => decide (PySem.W.exmAny K (.ref (He.ga K x)) (ys.map fun y => .ref (He.ga K y)) = some true)
end L3
set_option Elab.async false
set_option linter.all false
set_option maxRecDepth 100000
set_option maxHeartbeats 4000000
namespace L3
open PySem PySem.Spec PyProof.Rows L2
def keyD : Key → PyData
  | .inl i => .int i
  | .inr x => .str x
def zipK : List (Key × V) → List PyData → List (PyData × PyData)
  | (k, _) :: r, d :: ds => (keyD k, d) :: zipK r ds
  | _, _ => []
inductive Dq (K : PySem.W.Frag) (H : Hp) : V → PyData → Prop
  | non : Dq K H .non .none
  | bl (b : Bool) : Dq K H (.bl b) (.bool b)
  | int (i : Int) : Dq K H (.int i) (.int i)
  | str (x : Str) : Dq K H (.str x) (.str x)
  | lst {a : Addr} {xs : List V} {ds : List PyData} : SqL K H a xs → xs.length = ds.length → (∀ (i : Nat) (x : V) (d : PyData), xs[i]? = some x → ds[i]? = some d → Dq K H x d) → Dq K H (.ref a) (.list ds)
  | tup {a : Addr} {xs : List V} {ds : List PyData} : SqT K H a xs → xs.length = ds.length → (∀ (i : Nat) (x : V) (d : PyData), xs[i]? = some x → ds[i]? = some d → Dq K H x d) → Dq K H (.ref a) (.tuple ds)
  | dct {a : Addr} {kvs : List (Key × V)} {ds : List PyData} : H a = some (.dK kvs) → kvs.length = ds.length → (∀ (i : Nat) (k : Key) (x : V) (d : PyData), kvs[i]? = some (k, x) → ds[i]? = some d → Dq K H x d) → Dq K H (.ref a) (.dict (zipK kvs ds))
theorem Dq.mono {K : PySem.W.Frag} {H H' : Hp} {x : V} {d : PyData} (e : Ex H H') (h : Dq K H x d) : Dq K H' x d := by
  induction h with
  | non => exact .non
  | bl b => exact .bl b
  | int i => exact .int i
  | str x => exact .str x
  | lst s l _ ih => exact .lst (ex_sql e s) l ih
  | tup s l _ ih => exact .tup (ex_sqt e s) l ih
  | dct s l _ ih => exact .dct (e _ _ s) l ih
theorem all_reads {h : Heap} : ∀ (xs : List V) (ds : List PyData) (us : List Value), xs.length = ds.length → Vals xs us → (∀ (i : Nat) (x : V) (d : PyData), xs[i]? = some x → ds[i]? = some d → ∀ u, RelV x u → ∃ as, Reads h u d as ∧ sysModules ∉ as) → ∃ as, ReadsAll h us ds as ∧ sysModules ∉ as
  | [], [], _, _, r, _ => by
    cases r
    exact ⟨_, .nil, by simp⟩
  | x :: xs, d :: ds, _, l, r, h => by
    cases r with
    | cons r1 r2 =>
      obtain ⟨as, q1, n1⟩ := h 0 x d rfl rfl _ r1
      obtain ⟨bs, q2, n2⟩ := all_reads xs ds _ (by simpa using l) r2 fun i y e h1 h2 => h (i + 1) y e (by simpa using h1) (by simpa using h2)
      refine ⟨_, .cons q1 q2, fun z => ?_⟩
      rcases List.mem_append.mp z with z | z
      · exact n1 z
      · exact n2 z
theorem key_reads {h : Heap} {k : Key} {v : Value} (e : keyIs k v = true) : Reads h v (keyD k) [] := by
  rcases keyIs_shape e with ⟨i, t, rfl, rfl⟩ | ⟨x, t, rfl, rfl⟩
  · exact .int i t
  · exact .str x t
theorem kv_reads {P : Program} {w : World} {h : Heap} : ∀ (kvs : List (Key × V)) (ds : List PyData) (es : List DictEntry) (vs : List (Key × Value)), kvs.length = ds.length → KV kvs vs → Pairs (mixKind P w) es vs →
    (∀ (i : Nat) (k : Key) (x : V) (d : PyData), kvs[i]? = some (k, x) → ds[i]? = some d → ∀ u, RelV x u → ∃ as, Reads h u d as ∧ sysModules ∉ as) →
    ReadsAll h (es.map (·.key)) ((zipK kvs ds).map (·.1)) [] ∧ ∃ bs, ReadsAll h (es.map (·.val)) ((zipK kvs ds).map (·.2)) bs ∧ sysModules ∉ bs
  | [], [], es, vs, _, r, p, _ => by
    cases r
    cases p
    exact ⟨.nil, _, .nil, by simp⟩
  | (k, x) :: kvs, d :: ds, es, vs, l, r, p, h => by
    cases r with
    | cons r1 r2 =>
      cases p with
      | cons p1 p2 p3 =>
        obtain ⟨as, q1, n1⟩ := h 0 k x d rfl rfl _ r1.2
        obtain ⟨h1, bs, q2, n2⟩ := kv_reads kvs ds _ _ (by simpa using l) r2 p3 fun i k' y e h1 h2 => h (i + 1) k' y e (by simpa using h1) (by simpa using h2)
        refine ⟨ReadsAll.cons (as := []) (bs := []) (key_reads (by have e : k = _ := r1.1; subst e; exact p1)) h1, as ++ bs, ReadsAll.cons (by rw [← p2] at q1; exact q1) q2, fun z => ?_⟩
        rcases List.mem_append.mp z with z | z
        · exact n1 z
        · exact n2 z
/-- the part that is written holds sys.modules: a dict -/
def SysK (K : PySem.W.Frag) : Prop := ∃ o, K.lookup sysModules = some o ∧ o.cls = .type "dict"
def sysB : Fx := fun K => match K.lookup sysModules with
  | some o => match o.cls with
    | .type n => n == "dict"
    | _ => false
  | none => false
theorem sys_of {K : PySem.W.Frag} (h : sysB K = true) : SysK K := by
  unfold sysB at h
  split at h
  · rename_i o e
    split at h
    · rename_i n c
      have : n = "dict" := by simpa using h
      exact ⟨o, e, by rw [c, this]⟩
    · cases h
  · cases h
theorem Dq.reads {X : Cx} {pins : List (Addr × Obj)} {σ : L2.St} {H : Hp} {s : Shared} (I : Inv X pins σ H s) (S : SysK X.K) {x : V} {d : PyData} (h : Dq X.K H x d) : ∀ u, RelV x u → ∃ as, Reads s.heap u d as ∧ sysModules ∉ as := by
  obtain ⟨o1, k1, c1⟩ := S
  have g1 := I.kIn _ _ k1
  induction h with
  | non =>
    intro u r
    cases r
    exact ⟨_, .none, by simp⟩
  | bl b =>
    intro u r
    cases r
    exact ⟨_, .bool b, by simp⟩
  | int i =>
    rintro u ⟨t, rfl⟩
    exact ⟨_, .int i t, by simp⟩
  | str x =>
    rintro u ⟨t, rfl⟩
    exact ⟨_, .str x t, by simp⟩
  | @lst a xs ds hs l _ ih =>
    intro u r
    cases r
    obtain ⟨its, rv, ⟨o, n, ho, hc, _, hd⟩, _⟩ := I.list hs
    obtain ⟨as, hr, hn⟩ := all_reads xs ds its l rv ih
    refine ⟨_, .list ho hc hd hr, fun z => ?_⟩
    rcases List.mem_cons.mp z with z | z
    · rw [← z, g1] at ho
      cases ho
      rw [c1] at hc
      injection hc with z2
      exact absurd z2 (by decide)
    · exact hn z
  | @tup a xs ds hs l _ ih =>
    intro u r
    cases r
    obtain ⟨its, rv, ⟨o, ho, hc, n, hd⟩, _⟩ := I.tuple hs
    obtain ⟨as, hr, hn⟩ := all_reads xs ds its l rv ih
    exact ⟨_, .tuple ho hc hd hr, hn⟩
  | @dct a kvs ds hs l _ ih =>
    intro u r
    cases r
    obtain ⟨_, ns, vs, rk, o, es, ep, ho, ⟨hc, _, _⟩, hd, _, hp, _⟩ := dk_of I.hok hs
    obtain ⟨h1, bs, h2, hn⟩ := kv_reads kvs ds es.toList vs l rk hp ih
    refine ⟨_, .dict ho hc hd h1 h2, fun z => ?_⟩
    rcases List.mem_cons.mp z with z | z
    · rw [← z] at ns
      simp at ns
    · exact hn (by simpa using z)
end L3
set_option Elab.async false
set_option linter.all false
set_option maxRecDepth 100000
set_option maxHeartbeats 4000000
namespace L3
open PySem PySem.Spec PyProof.Rows L2
theorem Rm.in1 {k : Nat} {A : Around} (r : Rm (k + 1) A) : Rm k A.in1 := ⟨r.rm.in1, r.gd⟩
section
variable {X : Cx} {k : Nat} {f C : Addr} {ks : List Str} {sp : Sp} {W : WX} {x m : Str} {p pos apos : Pos} {e o : Expr} {es : List Expr} {kws : List Keyword} {ta : TE} {t tk : TA}
/-- a def that runs somewhere below the body -/
theorem run_fcA {A : Around} {pins : List (Addr × Obj)} {σ : L2.St} {H : Hp} {s : Shared} {Q : VK} {us ws : List Value} {vs : List V} (F : Fc X.prog X.w X.K X.mg X.base k f ks sp) (hr : Rm k A) (hf : A.frames = X.A.frames) (hx : Takes X W)
    (I : Inv X pins σ H s) (r : Vals vs (us ++ ws)) (hl : ws.length = ks.length) (h : sp vs H Q (WE W σ)) : wpAny (model X.prog X.w) A (call (.ref f) us (ks.zip ws)) (EP X pins σ Q) X.xe s := by
  have e0 : Env0 X.prog X.w X.K X.mg X.base A X.stack s H := by
    have e := I.env0
    exact ⟨by rw [hf]; exact e.frames, e.mod, e.bs, e.bsz, e.funs, e.frf, e.hok, e.bare⟩
  refine wpAny_call (codeAny_mono (F A X.stack s H us ws vs Q (WE W σ) hr e0 r hl h) fun r s' hq => ?_)
  cases r with
  | error e => exact passAt hx σ pins H s e s' I hq
  | ok fl =>
    cases fl with
    | ret u => exact I.after hq
    | next => exact False.elim hq
    | brk => exact False.elim hq
    | cont => exact False.elim hq
/-- o.m(e, ..) of an instance of the class at C -/
def tMt (C : Addr) (m : Str) (sp : Sp) (W : WX) (ta : TE) (t : TA) : TE := fun σ H Q => ta σ H fun x H1 => ∃ a dx fs, x = .ref a ∧ H1 a = some (.ins C dx fs) ∧ fs.lookup m = none ∧ t σ H1 fun vs H2 => sp (x :: vs) H2 Q (WE W σ)
theorem c_meth0 {pl : Sem Bool} (he : PE X o ta) (c : Cls X.K C) (hm : Meth X.K C m f) (F : Fc X.prog X.w X.K X.mg X.base k f [] sp) (hr : Rm k X.A) (hx : Takes X W)
    (ht : eval (.Call (.Attribute o m apos) [] [] pos) X.env = (do
      let ov ← eval o X.env
      standAt apos.atName
      let (f, first) ← holding [ov] (getMethod ov m pl)
      callWith pos f first (backTo pos (starEach [] X.env)) (backToKw pos (keywordEach [] X.env))) := by rfl) :
    PE X (.Call (.Attribute o m apos) [] [] pos) (tMt C m sp W ta tNil) := by
  refine ⟨fun pins s σ H Q I h => ?_⟩
  refine PySem.W.methodCall_KW (pl := pl) (thn (he.run pins s σ H _ I h) fun u s1 ⟨x, H1, I1, rx, a, dx, fs, ex, ea, l, q⟩ => ?_) ht
  subst ex
  obtain rfl : u = Value.ref a := rx
  refine getmeth_ok I1 ea c hm l ?_
  exact PySem.W.callWith_K0 (first := [.ref a]) I1.kIn hm.kp (run_fc (us := [.ref a]) (ws := []) (vs := [.ref a]) F hr hx I1 (.cons rfl .nil) rfl q)
theorem run_mk {pins : List (Addr × Obj)} {σ : L2.St} {H : Hp} {s : Shared} {Q : VK} {us ws : List Value} {vs : List V} (M : Mk X.K C f) (F : Fc X.prog X.w X.K X.mg X.base k f ks sp) (hr : Rm (k + 1) X.A) (hx : Takes X W)
    (I : Inv X pins σ H s) (r : Vals vs (us ++ ws)) (hl : ws.length = ks.length)
    (h : ∀ x dx, H x = none → H dx = none → dx ≠ x → sp (.ref x :: vs) (upd (upd H dx (.own x)) x (.ins C dx [])) (fun v H2 => v = .non ∧ Q (.ref x) H2) (WE W σ)) :
    wpAny (model X.prog X.w) X.A (call (.ref C) us (ks.zip ws)) (EP X pins σ Q) X.xe s := by
  have hq := h (s.heap.objs.size + 1) s.heap.objs.size (I.hok.fresh (Nat.le_succ _)) (I.hok.fresh (Nat.le_refl _)) (Nat.ne_of_lt (Nat.lt_succ_self _))
  have I2 := Inv.made (C := C) I
  refine wpAny_call (make_map (f := f) I.kIn M.makes M.init (beq_iff_eq.mp M.fn) (codeAny_mono (F _ X.stack _ _ (Value.ref (s.heap.objs.size + 1) :: us) ws (V.ref (s.heap.objs.size + 1) :: vs) _ (WE W σ) (hr.make C us (ks.zip ws))
    (I2.env0.make C us (ks.zip ws)) (.cons rfl r) hl hq) fun r s' hq' => ?_))
  cases r with
  | error e => exact passAt hx σ pins _ _ e s' I2 hq'
  | ok fl =>
    cases fl with
    | ret u =>
      obtain ⟨v, H', I3, rv, ev, q3⟩ := I2.after hq'
      subst ev
      exact ⟨rv, ⟨V.ref (s.heap.objs.size + 1), H', I3, rfl, q3⟩⟩
    | next => exact False.elim hq'
    | brk => exact False.elim hq'
    | cont => exact False.elim hq'
def tMk (C : Addr) (sp : Sp) (W : WX) (t : TA) : TE := fun σ H Q => t σ H fun vs H1 => ∀ x dx, H1 x = none → H1 dx = none → dx ≠ x →
  sp (.ref x :: vs) (upd (upd H1 dx (.own x)) x (.ins C dx [])) (fun v H2 => v = .non ∧ Q (.ref x) H2) (WE W σ)
theorem c_make (M : Mk X.K C f) (F : Fc X.prog X.w X.K X.mg X.base k f [] sp) (hr : Rm (k + 1) X.A) (hm : X.mg x = some (.ref C)) (hx : Takes X W)
    (ha : PA X (e :: es) t) (hg : Gl X x := by rfl) (hdb : (x == ("__debug__" : Str)) = false := by decide) (he : starEach (e :: es) X.env = (false, eval e X.env) :: starEach es X.env := by rfl) (hpl : (backTo pos (starEach es X.env)).any (·.1) = false := by rfl) :
    PE X (.Call (.Name x p) (e :: es) [] pos) (tMk C sp W t) := by
  refine ⟨fun pins s σ H Q I h => ?_⟩
  refine wpAny_Call_Name_kw (ld_glob I hg hm ?_ hdb)
  refine PySem.W.callWith_K (h₀ := X.base) I.ok.mod.kin M.kp (thn (ha.run pos pins s σ H _ I h) fun us s1 ⟨vs, H1, I1, r, q⟩ => ⟨I1.kIn, ?_⟩) he hpl
  exact run_mk (ws := []) M F hr hx I1 (by rw [List.append_nil]; exact r) rfl q
end
structure InsC (K : PySem.W.Frag) (C : Addr) : Prop where
  ha : PySem.W.findIn K (.ref C) "__class__" = some (some (.builtin "object.__class__"))
  hn : PySem.W.specialIn K (.builtin "object.__class__") "__get__" = some (some (.builtin "getset_descriptor.__get__"))
  ht : PySem.W.takesIn K (.builtin "object.__class__") = some true
  hm : PySem.W.mroIn K C (.type "object") = some true
def insB (x : Str) : Fx := fun K => He.eqO (PySem.W.findIn K (.ref (He.ga K x)) "__class__") (some (some (.builtin "object.__class__"))) && (He.eqO (PySem.W.specialIn K (.builtin "object.__class__") "__get__") (some (some (.builtin "getset_descriptor.__get__"))) &&
  (decide (PySem.W.takesIn K (.builtin "object.__class__") = some true) && decide (PySem.W.mroIn K (He.ga K x) (.type "object") = some true)))
theorem insC_of {x : Str} {K : PySem.W.Frag} (h : insB x K = true) : InsC K (He.ga K x) := by
  obtain ⟨h1, h⟩ := He.ba h
  obtain ⟨h2, h⟩ := He.ba h
  obtain ⟨h3, h4⟩ := He.ba h
  exact ⟨He.eqO_ok h1, He.eqO_ok h2, of_decide_eq_true h3, of_decide_eq_true h4⟩
theorem ty_ins {K : PySem.W.Frag} {H : Hp} {a C dx : Addr} {fs : List (Str × V)} (i : InsC K C) (c : Cls K C) (e : H a = some (.ins C dx fs)) : TyX K H (.ref a) (.ref C) := .base (.ins e c i.ha i.hn i.ht i.hm)
def kitBF (y : String) (x : Str) (b : Bool) : Fx := fun K => decide (PySem.W.kitOne K (.type y) (.ref (He.ga K x)) = some b)
def exm1F (x y : Str) (b : Bool) : Fx := fun K => decide (PySem.W.exmOne K (.ref (He.ga K x)) (.ref (He.ga K y)) = some b)
section
variable {X : Cx} {K : PySem.W.Frag}
theorem ix_listK (K : PySem.W.Frag) (h : X.K = K := by rfl) : IxR X (rIxL K) := h ▸ ix_list
theorem call_lenK (K : PySem.W.Frag) (h : X.K = K := by rfl) : CallR X (.builtin "len") (fun xs H Q => ∃ x n, xs = [x] ∧ LenV K x H n ∧ Q (.int n) H) := h ▸ call_len
theorem pe_fldK (K : PySem.W.Frag) {e : Expr} {f : Str} {pos : Pos} {ta : TE} (he : PE X e ta) (hb : attributeBase e f X.env (eval e X.env) = eval e X.env) (h : X.K = K := by rfl) : PE X (.Attribute e f pos) (tFld K ta f) := h ▸ pe_fld he hb
end
end L3
set_option Elab.async false
set_option linter.all false
set_option maxRecDepth 100000
set_option maxHeartbeats 4000000
namespace L3
open PySem PySem.Spec PyProof.Rows L2
section
variable {J : It} {n : Nat} {G : Hp → Prop} {Y : Nat → Hp → V → Hp → Prop} {g : TG} {tt : TT} {te : TE} {vs : List Nat} {σ : L2.St} {H1 : Hp} {D : Addr} {Qd : Hp → Prop}
theorem lc_any (w : L2.Walk J n G Y) (I : Nat → List V → Hp → Prop) (hI : ∀ i acc H l, I i acc H → I i acc (upd H D (.lst l))) (i0 : I 0 [] H1) (hn : n ≤ 100000) (hl : ∀ i acc H, I i acc H → acc.length ≤ i) (hG : ∀ i acc H, I i acc H → G H)
    (hs : ∀ (i : Nat) (x : V) (H H' : Hp) (acc : List V) (N : Hp → Prop), i < n → I i acc H → H D = some (.lst acc) → acc.length < sizeLine → Y i H x H' →
      (∀ y H4, H4 D = some (.lst acc) → I (i + 1) (acc ++ [y]) H4 → N (upd H4 D (.lst (acc ++ [y])))) → (∀ H4, H4 D = some (.lst acc) → I (i + 1) acc H4 → N H4) → Turn g tt te vs σ D x H' N)
    (hd : ∀ acc H, I n acc H → H D = some (.lst acc) → Qd H) :
    ∃ W : Nat → Nat → Hp → Prop, (∃ m, W 0 m (upd H1 D (.lst []))) ∧ ∀ i m H, W i m H →
      (J.stop i H ∧ Qd H) ∨ (J.go i H ∧ ∃ Nx : Hp → Prop, (∀ H', Nx H' → ∃ m', m' < m ∧ W (i + 1) m' H') ∧ ∀ x H', J.yld i H x H' → Turn g tt te vs σ D x H' Nx) := by
  refine L2.lc_it w (fun i H => i ≤ n ∧ ∃ acc, I i acc H ∧ H D = some (.lst acc)) ⟨Nat.zero_le _, [], hI _ _ _ _ i0, upd_same⟩ (fun i H _ p => ?_) ?_ (fun H p => ?_)
  · obtain ⟨_, acc, p, _⟩ := p
    exact hG i acc H p
  · rintro i x H H' hi ⟨p1, acc, p2, p3⟩ y
    have := hl _ _ _ p2
    refine hs i x H H' acc _ hi p2 p3 (small_len (by omega)) y (fun y H4 d4 i4 => ⟨hi, _, hI _ _ _ _ i4, upd_same⟩) fun H4 d4 i4 => ⟨hi, _, i4, d4⟩
  · obtain ⟨_, acc, p, d⟩ := p
    exact hd acc H p d
end
end L3
set_option Elab.async false
set_option linter.all false
set_option maxRecDepth 100000
set_option maxHeartbeats 4000000
namespace SrtA
open PySem PyProof.Rows Srt SrtO
section
variable {prog : Program} {w : World} {A : Around} {E : Value → Shared → Prop} {s : Shared}
theorem collect_tup {l : Addr} {vs : List Value} {Q : List Value → Shared → Prop} (hl : s.heap.IsTuple l vs.toArray)
    (h : Q vs { s with heap := (s.heap.push (seqObj "list" #[] 0)).update s.heap.objs.size (Obj.mapSeq (· ++ vs.toArray)) }) (hsz : vs.length ≤ sizeLine) :
    wpAny (model prog w) A (collect (.ref l)) Q E s := by
  obtain ⟨o, ho, hc, n, hd⟩ := id hl
  unfold collect
  refine wpAny_bind (wpAny_runValue (codeAny_builtin entry_proto_collect' ?_))
  show wpAny _ _ (do again (.builtin "list.__iadd__" ⟨[← newList [], .ref l], []⟩)) _ _ s
  refine wpAny_bind (wpAny_newList (wpAny_pure ⟨Code.quiet_builtin _ (by decide +kernel), codeAny_builtin entry_list_iadd' ?_⟩))
  show wpAny _ _ (Builtin.List.listExtendWith (.ref s.heap.objs.size) (.ref l) (.ref s.heap.objs.size)) _ _ { s with heap := s.heap.push (seqObj "list" #[] 0) }
  unfold Builtin.List.listExtendWith
  have ho' : (s.heap.push (seqObj "list" #[] 0)).get? l = some o := Heap.get?_push_of_some _ ho
  refine wpAny_bind (wpAny_typeOf (T := "tuple") ⟨o, ho', hc⟩ ?_)
  have ht : (Value.type "tuple" == Value.type "tuple") = true := by rfl
  rw [if_pos (by rw [ht]; simp)]
  refine wpAny_bind (listItems_at ho' hd ?_)
  refine wpAny_bind (listItems_at (xs := #[]) (n := 0) (Heap.get?_push_size _ rfl) rfl ?_)
  rw [if_neg (by simp)]
  refine wpAny_bind (listUpdate_at (xs := #[]) (n := 0) (Heap.get?_push_size _ rfl) rfl ?_ (Nat.zero_le _) (by show (#[] ++ vs.toArray).size ≤ sizeLine + 1; simp only [Array.size_append, List.size_toArray, List.length_nil]; omega))
  refine wpAny_pure ?_
  show wpAny (model prog w) A (do
      let o ← load s.heap.objs.size
      match o.data with
      | .seq xs _ => pure xs.toList
      | _ => unsupported "internal:collect") Q E { s with heap := (s.heap.push (seqObj "list" #[] 0)).update s.heap.objs.size (Obj.mapSeq (· ++ vs.toArray)) }
  refine wpAny_bind (wpAny_load (get?_update_seq (Heap.get?_push_size _ rfl) _) ?_)
  show wpAny _ _ (pure ((#[] : Array Value) ++ vs.toArray).toList) Q E _
  rw [show ((#[] : Array Value) ++ vs.toArray).toList = vs by simp]
  exact wpAny_pure h
theorem sorted_tup {l : Addr} {vs : List Value} {ltv : Value → Value → Bool} {Q : Value → Shared → Prop} (O : Swo ltv) (hl : s.heap.IsTuple l vs.toArray) (hz : vs.length ≤ sizeLine)
    (hS : 2 ≤ vs.length → ∀ (h₁ : Heap) (a : Addr), h₁.get? a = some (seqObj "list" vs.toArray 0) → (∀ b o, s.heap.get? b = some o → b ≠ a ∧ h₁.get? b = some o) → SortableO prog w A.in1.in1 { s with heap := h₁ } a vs ltv)
    (h : ∀ out : List Value, Srtd ltv out → Stb ltv out vs → Q (.ref (s.heap.objs.size + 1)) { s with heap := sortedAll s.heap vs out.toArray }) :
    wpAny (model prog w) A (call (.builtin "sorted") [.ref l]) Q E s := by
  refine Calls.call_function_entry kind_sorted plain_sorted entry_sorted (args_sorted1 _) ?_
  unfold Builtin.«sorted»
  refine wpAny_bind (m := checkCount "sorted" 1 1 _) (wpAny_pure ?_)
  refine wpAny_bind (collect_tup hl ?_ hz)
  refine wpAny_bind (wpAny_newList ?_ hz)
  have hsz : ((s.heap.push (seqObj "list" #[] 0)).update s.heap.objs.size (Obj.mapSeq (· ++ vs.toArray))).objs.size = s.heap.objs.size + 1 := by
    rw [Heap.size_update, size_push']
  have hoL : (((s.heap.push (seqObj "list" #[] 0)).update s.heap.objs.size (Obj.mapSeq (· ++ vs.toArray))).push (seqObj "list" vs.toArray 0)).get? (s.heap.objs.size + 1) = some (seqObj "list" vs.toArray 0) := by
    rw [← hsz]; exact Heap.get?_push_size _ rfl
  have keep : ∀ b o, s.heap.get? b = some o → b ≠ s.heap.objs.size + 1 ∧ (((s.heap.push (seqObj "list" #[] 0)).update s.heap.objs.size (Obj.mapSeq (· ++ vs.toArray))).push (seqObj "list" vs.toArray 0)).get? b = some o := fun b o q => by
    have hlt : b < s.heap.objs.size := Heap.lt_size q
    refine ⟨Nat.ne_of_lt (Nat.lt_succ_of_lt hlt), Heap.get?_push_of_some _ ?_⟩
    rw [Heap.get?_update_ne _ _ _ _ (Nat.ne_of_lt hlt)]
    exact Heap.get?_push_of_some _ q
  show wpAny _ _ _ _ _ { s with heap := ((s.heap.push (seqObj "list" #[] 0)).update s.heap.objs.size (Obj.mapSeq (· ++ vs.toArray))).push (seqObj "list" vs.toArray 0) }
  rw [hsz]
  refine wpAny_bind (wpAny_holding (wpAny_call_entry slot_list_sort ⟨_, hoL, rfl⟩ entry_list_sort (list_sort_ord O hoL hz (fun h2 => hS h2 _ _ hoL keep) fun out hs hb => ⟨_, rfl, ?_⟩) (args_list_sort _)))
  exact wpAny_pure ⟨_, rfl, h out hs hb⟩
end
end SrtA
namespace L3
open PySem PySem.Spec PyProof.Rows L2
/-- the numbers in order -/
def srt (ns : List Int) : List Int := ns.mergeSort (fun a b => decide (a ≤ b))
theorem srt_perm (ns : List Int) : (srt ns).Perm ns := List.mergeSort_perm ns _
theorem srt_sorted (ns : List Int) : (srt ns).Pairwise (· ≤ ·) := by
  have h := List.pairwise_mergeSort (le := fun a b : Int => decide (a ≤ b)) (fun a b c h1 h2 => decide_eq_true (Int.le_trans (of_decide_eq_true h1) (of_decide_eq_true h2))) (fun a b => by
    rcases Int.le_total a b with h | h
    · rw [decide_eq_true h]; rfl
    · rw [decide_eq_true h, Bool.or_true]) ns
  exact h.imp fun h => of_decide_eq_true h
theorem sorted_uniq : ∀ {xs ys : List Int}, xs.Perm ys → xs.Pairwise (· ≤ ·) → ys.Pairwise (· ≤ ·) → xs = ys
  | [], ys, p, _, _ => p.nil_eq
  | x :: xs, [], p, _, _ => absurd p.symm.nil_eq (by simp)
  | x :: xs, y :: ys, p, hx, hy => by
    have e : x = y := by
      have h1 : x ∈ y :: ys := p.subset List.mem_cons_self
      have h2 : y ∈ x :: xs := p.symm.subset List.mem_cons_self
      have l1 : y ≤ x := by
        rcases List.mem_cons.mp h1 with h | h
        · omega
        · exact (List.pairwise_cons.mp hy).1 x h
      have l2 : x ≤ y := by
        rcases List.mem_cons.mp h2 with h | h
        · omega
        · exact (List.pairwise_cons.mp hx).1 y h
      omega
    subst e
    rw [sorted_uniq (List.perm_cons x |>.mp p) (List.pairwise_cons.mp hx).2 (List.pairwise_cons.mp hy).2]
theorem srt_eq {xs ns : List Int} (p : xs.Perm ns) (h : xs.Pairwise (· ≤ ·)) : xs = srt ns := sorted_uniq (p.trans (srt_perm ns).symm) h (srt_sorted ns)
/-- sorted(xs), xs a list or a tuple of whole numbers -/
def rSortedA (K : PySem.W.Frag) : List V → Hp → VK → Prop := fun vs H Q => ∃ (a : Addr) (ns : List Int), vs = [V.ref a] ∧ (SqL K H a (ns.map V.int) ∨ SqT K H a (ns.map V.int)) ∧ ∀ p : Addr, H p = none → Q (.ref p) (upd H p (.lst ((srt ns).map V.int)))
section
variable {X : Cx}
theorem cr_sortedA (K : PySem.W.Frag) (hK : X.K = K := by rfl) : CallR X (.builtin "sorted") (rSortedA K) := by
  subst hK
  intro pins s σ H vs us Q I r h
  obtain ⟨a, ns, rfl, hs | hs, q⟩ := h
  · exact cr_sortedI pins s σ H [.ref a] us Q I r ⟨a, ns, rfl, hs, fun ns' p h1 h2 hp => by rw [srt_eq h1 h2]; exact q p hp⟩
  · obtain ⟨its, rv, hl, hz⟩ := I.tuple hs
    rw [Vals.ref1 r]
    have hi := rv.ints
    refine SrtA.sorted_tup SrtO.swo_int hl (by rw [← rv.length]; exact hz) (fun h2 h₁ a' _ _ => SrtO.ints_sortable hi h2) fun out h1 h2 => ?_
    obtain ⟨k1, k2, k3⟩ := SrtO.ints_out hi h1 h2
    obtain ⟨ep, he'⟩ := PyProof.Rows.sortedAll_at s.heap its out.toArray
    have hlen : ((out.map SrtO.iv).map V.int).length ≤ sizeLine := by
      rw [List.length_map, k2.length_eq]
      rw [List.length_map] at hz
      exact hz
    have q2 := q (s.heap.objs.size + 1) (I.hok.fresh (Nat.le_succ _))
    rw [← srt_eq k2 k3] at q2
    exact ⟨.ref _, upd H (s.heap.objs.size + 1) (.lst ((out.map SrtO.iv).map V.int)), I.laid (t' := s.toks) (fun _ _ => PyProof.Rows.sortedAll_old) (Nat.le_succ _) ⟨hlen, out, ep, vals_of_ints k1, he'⟩, rfl, q2⟩
end
section
variable {X : Cx} {K : PySem.W.Frag}
theorem pg_tupK (K : PySem.W.Frag) {es : List Expr} {k : Nat} {t : TGs} {n : Nat} {pos : Pos} (hc : X.calm = true) (h : PGs X es t)
    (hn : (assignEach es X.env).length = n := by rfl) (hst : (assignEach es X.env).findIdx? (·.1) = none := by rfl) (hK : X.K = K := by rfl) : PG X (.Tuple es k pos) (gTup K n t) := hK ▸ pg_tup hc h hn hst
theorem walk_zipT {a b : Addr} {xs ys : List V} {n : Nat} (hn : n = min xs.length ys.length) : L2.Walk (RZ.ItzT K a b) n (fun H => SqT K H a xs ∧ SqT K H b ys) (L2.YPair (fun i => xs[i]?) (fun i => ys[i]?)) := by
  subst hn
  refine ⟨fun i _ hi q => ?_, fun _ q => ⟨xs, ys, q.1, q.2, by omega⟩, fun i H v H' _ q y => ?_⟩
  · have h1 : i < xs.length := by omega
    have h2 : i < ys.length := by omega
    exact ⟨xs, ys, xs[i], ys[i], q.1, q.2, by simp [h1], by simp [h2]⟩
  · obtain ⟨T, x, z, h1, h2, h3, h4, h5⟩ := y
    exact ⟨T, x, z, h1, h2, h3, h4 xs q.1, h5 ys q.2⟩
theorem inV_int (d : Int) (ns : List Int) : inV (.int d) (ns.map V.int) = decide (d ∈ ns) := by
  induction ns with
  | nil => rfl
  | cons n r ih =>
    show (eqV (.int n) (.int d) || inV (.int d) (r.map V.int)) = _
    rw [ih]
    have e : eqV (.int n) (.int d) = decide (d = n) := by
      show decide (n = d) = _
      exact decide_eq_decide.mpr ⟨fun h => h.symm, fun h => h.symm⟩
    rw [e]
    by_cases h : d = n
    · simp [h]
    · simp [h]
theorem flat_ints (ns : List Int) : (ns.map V.int).all flatV = true := by
  induction ns with
  | nil => rfl
  | cons n r ih => exact (Bool.and_eq_true_iff.mpr ⟨rfl, ih⟩)
end
theorem isM_nat (n : Nat) : isM (.int (n : Int)) = true := decide_eq_true (Int.natCast_nonneg n)
end L3
set_option Elab.async false
set_option linter.all false
set_option maxRecDepth 100000
set_option maxHeartbeats 4000000
namespace L3
open PySem PySem.Spec PyProof.Rows L2
end L3
set_option Elab.async false
set_option linter.all false
set_option maxRecDepth 100000
set_option maxHeartbeats 4000000
namespace L3
open PySem PySem.Spec PyProof.Rows L2
end L3
set_option Elab.async false
set_option linter.all false
set_option maxRecDepth 100000
set_option maxHeartbeats 4000000
namespace L3
open PySem PySem.Spec PyProof.Rows L2
theorem range_fm {α β : Type} (g : α → Option β) : ∀ l : List α, (List.range l.length).filterMap (fun i => l[i]?.bind g) = l.filterMap g
  | [] => rfl
  | x :: l => by
    rw [List.length_cons, List.range_succ_eq_map, List.filterMap_cons, List.filterMap_map, List.filterMap_cons]
    have ih := range_fm g l
    have e : ((fun i => (x :: l)[i]?.bind g) ∘ Nat.succ) = fun i => l[i]?.bind g := funext fun i => by simp
    rw [e, ih]
    simp
section
variable {J : It} {G : Hp → Prop} {g : TG} {tt : TT} {te : TE} {vs : List Nat} {σ : L2.St} {H1 : Hp} {D : Addr} {Qd : Hp → Prop}
/-- a comprehension over xs (told as values by v), each of which gives gm x, or nothing -/
theorem lc_on {α : Type} (xs : List α) (v : α → V) (w : L2.Walk J (xs.map v).length G (L2.YAt (xs.map v))) (gm : α → Option V) (I : Hp → Prop) (hI : ∀ H l, I H → I (upd H D (.lst l))) (i0 : I H1) (hn : xs.length ≤ 100000) (hG : ∀ H, I H → G H)
    (hs : ∀ (i : Nat) (x : α) (H : Hp) (acc : List V) (N : Hp → Prop), xs[i]? = some x → I H → H D = some (.lst acc) → acc.length < sizeLine →
      (∀ H4, I H4 → H4 D = some (.lst acc) → match gm x with | some y => N (upd H4 D (.lst (acc ++ [y]))) | none => N H4) → Turn g tt te vs σ D (v x) H N)
    (hd : ∀ H, I H → H D = some (.lst (xs.filterMap gm)) → Qd H) :
    ∃ W : Nat → Nat → Hp → Prop, (∃ m, W 0 m (upd H1 D (.lst []))) ∧ ∀ i m H, W i m H →
      (J.stop i H ∧ Qd H) ∨ (J.go i H ∧ ∃ Nx : Hp → Prop, (∀ H', Nx H' → ∃ m', m' < m ∧ W (i + 1) m' H') ∧ ∀ x H', J.yld i H x H' → Turn g tt te vs σ D x H' Nx) := by
  refine lc_fm w (fun i => xs[i]?.bind gm) I hI i0 (by rw [List.length_map]; exact hn) hG (fun i x H H' acc N hi p hD la y k => ?_) fun H p hD => hd H p ?_
  · obtain ⟨rfl, hx⟩ := y
    rw [List.getElem?_map] at hx
    obtain ⟨z, hz, rfl⟩ := Option.map_eq_some_iff.mp hx
    refine hs i z _ acc N hz p hD la fun H4 p4 d4 => ?_
    have := k H4 p4 d4
    simp only [hz, Option.bind_some] at this
    exact this
  · rw [hD, List.length_map, range_fm]
/-- a comprehension over a range -/
theorem lc_rg {lo : Int} {n : Nat} (gm : Nat → Option V) (I : Hp → Prop) (hI : ∀ H l, I H → I (upd H D (.lst l))) (i0 : I H1) (hn : n ≤ 100000)
    (hs : ∀ (i : Nat) (H : Hp) (acc : List V) (N : Hp → Prop), i < n → I H → H D = some (.lst acc) → acc.length < sizeLine →
      (∀ H4, I H4 → H4 D = some (.lst acc) → match gm i with | some y => N (upd H4 D (.lst (acc ++ [y]))) | none => N H4) → Turn g tt te vs σ D (.int (lo + i)) H N)
    (hd : ∀ H, I H → H D = some (.lst ((List.range n).filterMap gm)) → Qd H) :
    ∃ W : Nat → Nat → Hp → Prop, (∃ m, W 0 m (upd H1 D (.lst []))) ∧ ∀ i m H, W i m H →
      ((Itr lo n).stop i H ∧ Qd H) ∨ ((Itr lo n).go i H ∧ ∃ Nx : Hp → Prop, (∀ H', Nx H' → ∃ m', m' < m ∧ W (i + 1) m' H') ∧ ∀ x H', (Itr lo n).yld i H x H' → Turn g tt te vs σ D x H' Nx) := by
  refine lc_fm (L2.walk_range (lo := lo) (n := n)) gm I hI i0 hn (fun _ _ => trivial) (fun i x H H' acc N hi p hD la y k => ?_) hd
  obtain ⟨rfl, rfl⟩ := y
  exact hs i _ acc N hi p hD la k
end
section
variable {J : It} {G : Hp → Prop} {g : TG} {tb : TS} {D : Ends} {σ : L2.St} {H : Hp}
/-- a for over xs (told as values by v) -/
theorem for_on {α : Type} (xs : List α) (v : α → V) (w : L2.Walk J (xs.map v).length G (L2.YAt (xs.map v))) (Pv : Nat → L2.St → Hp → Prop) (h0 : Pv 0 σ H) (hG : ∀ i σ H, Pv i σ H → G H)
    (hs : ∀ (i : Nat) (x : α) (σ : L2.St) (H : Hp), xs[i]? = some x → Pv i σ H → g (v x) σ H fun σ2 H2 => tb { D with nx := Pv (i + 1), ct := Pv (i + 1), bk := D.nx } σ2 H2) (hd : ∀ σ H, Pv xs.length σ H → D.nx σ H) :
    ∃ W : Nat → Nat → L2.St → Hp → Prop, (∃ m, W 0 m σ H) ∧ ∀ i m σ H, W i m σ H →
      (J.stop i H ∧ D.nx σ H) ∨ (J.go i H ∧ ∃ N : L2.St → Hp → Prop, (∀ σ' H', N σ' H' → ∃ m', m' < m ∧ W (i + 1) m' σ' H') ∧ ∀ x H', J.yld i H x H' → g x σ H' fun σ2 H2 => tb { D with nx := N, ct := N, bk := D.nx } σ2 H2) := by
  refine L2.for_it w Pv h0 (fun i σ H _ p => hG i σ H p) (fun i x σ H H' hi p y => ?_) (fun σ H p => hd σ H (by rw [List.length_map] at p; exact p))
  obtain ⟨rfl, hx⟩ := y
  rw [List.getElem?_map] at hx
  obtain ⟨z, hz, rfl⟩ := Option.map_eq_some_iff.mp hx
  exact hs i z σ _ hz p
end
theorem take_snoc {α : Type} {l : List α} {i : Nat} {x : α} (h : l[i]? = some x) : l.take (i + 1) = l.take i ++ [x] := by
  rw [List.take_add_one, h]
  rfl
/-- what stands elsewhere than at f stays -/
def Oth (f : Addr) (H H' : Hp) : Prop := ∀ b o, b ≠ f → H b = some o → H' b = some o
theorem Oth.refl (f : Addr) (H : Hp) : Oth f H H := fun _ _ _ e => e
theorem Oth.trans {f : Addr} {H H1 H2 : Hp} (a : Oth f H H1) (b : Oth f H1 H2) : Oth f H H2 := fun c o h e => b c o h (a c o h e)
theorem ex_oth {f : Addr} {H H1 : Hp} (a : Ex H H1) : Oth f H H1 := fun c o _ e => a c o e
theorem Oth.upd {f : Addr} {H H1 : Hp} {o : HO} (a : Oth f H H1) : Oth f H (L2.upd H1 f o) := fun b u nb e => by rw [upd_ne nb]; exact a b u nb e
theorem Oth.ex {f : Addr} {H0 H H1 : Hp} (x : Ex H0 H) (n : H0 f = none) (a : Oth f H H1) : Ex H0 H1 := fun b o e => a b o (ne_of_none e n) (x b o e)
theorem sz_le {n : Nat} (h : n ≤ 100000) : n ≤ sizeLine := Nat.le_of_lt (small_len h)
end L3
set_option Elab.async false
set_option linter.all false
set_option maxRecDepth 100000
set_option maxHeartbeats 4000000
namespace L3
open PySem PySem.Spec PyProof.Rows L2
theorem slA_of {K : PySem.W.Frag} {H : Hp} {a : Addr} {xs : List V} {lo hi : Option Int} {Q : VK} (ha : SqT K H a xs) (q : ∀ p H', Ex H H' → SqT K H' p (cutV xs lo hi) → Q (.ref p) H') : rSlA K (.ref a) lo hi H Q := by
  refine ⟨a, xs, rfl, ha, fun hw => q a H (.refl _) ?_, fun _ p np => q p _ (ex_new np) (sq_tup upd_same)⟩
  have e : cutV xs lo hi = xs := by
    unfold cutV
    rw [hw.1, hw.2]
    simp
  rw [e]
  exact ha
theorem tyOf_mono {K : PySem.W.Frag} {H H' : Hp} {x : V} {t : Value} (e : Ex H H') (h : TyOf K H x t) : TyOf K H' x t := by
  cases h with
  | non => exact .non
  | bl x => exact .bl x
  | int i => exact .int i
  | str x => exact .str x
  | flt x => exact .flt x
  | lst h => exact .lst (e _ _ h)
  | frz h => exact .frz (e _ _ h)
  | tup h => exact .tup (e _ _ h)
  | dK h => exact .dK (e _ _ h)
  | dT h => exact .dT (e _ _ h)
  | ins h cl ha hn htk hm => exact .ins (e _ _ h) cl ha hn htk hm
theorem tyX_mono {K : PySem.W.Frag} {H H' : Hp} {x : V} {t : Value} (e : Ex H H') (h : TyX K H x t) : TyX K H' x t := by
  cases h with
  | base h => exact .base (tyOf_mono e h)
  | byt b => exact .byt b
  | set h => exact .set (e _ _ h)
  | kList h c => exact .kList h c
  | kTuple h c => exact .kTuple h c
  | kDict h c => exact .kDict h c
  | fTuple h => exact .fTuple (e _ _ h)
  | fDict h => exact .fDict (e _ _ h)
theorem Cl.mono {K : PySem.W.Frag} {H H' : Hp} {x : V} (c : Cl K H x) (e : Ex H H') : Cl K H' x := let ⟨t, b, d, h1, h2⟩ := c; ⟨t, b, d, tyX_mono e h1, h2⟩
section
variable {J : It} {n : Nat} {G : Hp → Prop} {g : TG} {tt : TT} {te : TE} {vs : List Nat} {σ : L2.St} {H1 : Hp} {D : Addr} {Qd : Hp → Prop}
/-- a comprehension over pairs of xs and ys -/
theorem lc_zip {α β : Type} (xs : List α) (ys : List β) (v : α → V) (w : β → V) (wk : L2.Walk J n G (L2.YPair (fun i => (xs.map v)[i]?) (fun i => (ys.map w)[i]?))) (hn : n = min xs.length ys.length) (gm : α → β → Option V) (I : Hp → Prop) (hI : ∀ H l, I H → I (upd H D (.lst l))) (i0 : I H1) (hz : xs.length ≤ 100000) (hG : ∀ H, I H → G H)
    (hs : ∀ (i : Nat) (a : α) (b : β) (u : Addr) (H : Hp) (acc : List V) (N : Hp → Prop), xs[i]? = some a → ys[i]? = some b → I H → H u = none → H D = some (.lst acc) → acc.length < sizeLine →
      (∀ H4, I H4 → H4 D = some (.lst acc) → match gm a b with | some y => N (upd H4 D (.lst (acc ++ [y]))) | none => N H4) → Turn g tt te vs σ D (.ref u) (upd H u (.tup [v a, w b])) N)
    (hd : ∀ H, I H → H D = some (.lst ((xs.zip ys).filterMap fun p => gm p.1 p.2)) → Qd H) :
    ∃ W : Nat → Nat → Hp → Prop, (∃ m, W 0 m (upd H1 D (.lst []))) ∧ ∀ i m H, W i m H →
      (J.stop i H ∧ Qd H) ∨ (J.go i H ∧ ∃ Nx : Hp → Prop, (∀ H', Nx H' → ∃ m', m' < m ∧ W (i + 1) m' H') ∧ ∀ x H', J.yld i H x H' → Turn g tt te vs σ D x H' Nx) := by
  refine lc_fm wk (fun i => (xs.zip ys)[i]?.bind fun p => gm p.1 p.2) I hI i0 (by omega) hG (fun i x H H' acc N hi p hD la y k => ?_) fun H p hD => hd H p ?_
  · obtain ⟨u, x1, x2, rfl, nu, rfl, g1, g2⟩ := y
    dsimp only at g1 g2
    rw [List.getElem?_map] at g1 g2
    obtain ⟨a, ha, rfl⟩ := Option.map_eq_some_iff.mp g1
    obtain ⟨b, hb, rfl⟩ := Option.map_eq_some_iff.mp g2
    refine hs i a b u H acc N ha hb p nu hD la fun H4 p4 d4 => ?_
    have := k H4 p4 d4
    have ez : (xs.zip ys)[i]? = some (a, b) := by
      rw [List.getElem?_zip_eq_some]
      exact ⟨ha, hb⟩
    simp only [ez, Option.bind_some] at this
    exact this
  · rw [hD, hn, ← List.length_zip, range_fm]
end
end L3
set_option Elab.async false
set_option linter.all false
set_option maxRecDepth 100000
set_option maxHeartbeats 4000000
namespace L3
open PySem PySem.Spec PyProof.Rows L2 PySem.SeqAt PySem.Calls
/-- a type, of which the class at C is no base, or which is that class -/
def NoSub (K : PySem.W.Frag) (C : Addr) (t : Value) : Prop := t = .ref C ∨ PySem.W.kitOne K t (.ref C) = some false
/-- the class at C is none of the types that decline -/
structure NoBase (K : PySem.W.Frag) (C : Addr) : Prop where
  non : PySem.W.mroIn K C (.type "NoneType") = some false
  bl : PySem.W.mroIn K C (.type "bool") = some false
  int : PySem.W.mroIn K C (.type "int") = some false
  str : PySem.W.mroIn K C (.type "str") = some false
  lst : PySem.W.mroIn K C (.type "list") = some false
  tup : PySem.W.mroIn K C (.type "tuple") = some false
  dct : PySem.W.mroIn K C (.type "dict") = some false
  ne : PySem.W.findIn K (.ref C) "__ne__" = some (some (.builtin "object.__ne__"))
  ob : PySem.W.mroIn K C (.type "object") = some true
def noBaseF (x : Str) : Fx := fun K => (["NoneType", "bool", "int", "str", "list", "tuple", "dict"].all fun T => decide (PySem.W.mroIn K (He.ga K x) (.type T) = some false)) &&
  (He.eqO (PySem.W.findIn K (.ref (He.ga K x)) "__ne__") (some (some (.builtin "object.__ne__"))) && decide (PySem.W.mroIn K (He.ga K x) (.type "object") = some true))
theorem noBase_of {x : Str} {K : PySem.W.Frag} (h : noBaseF x K = true) : NoBase K (He.ga K x) := by
  obtain ⟨h1, h⟩ := He.ba h
  obtain ⟨h2, h3⟩ := He.ba h
  have g : ∀ T ∈ ["NoneType", "bool", "int", "str", "list", "tuple", "dict"], PySem.W.mroIn K (He.ga K x) (.type T) = some false := fun T hT => of_decide_eq_true (List.all_eq_true.mp h1 T hT)
  exact ⟨g _ (by decide), g _ (by decide), g _ (by decide), g _ (by decide), g _ (by decide), g _ (by decide), g _ (by decide), He.eqO_ok h2, of_decide_eq_true h3⟩
theorem noSub_look {K : PySem.W.Frag} {C : Addr} {t : Value} (h : NoSub K C t) {M : Model} {hp : Heap} (X : K.In hp) (q : (Value.ref C != t) = true) : PySem.W.Looks M hp (isSubtype t (.ref C)) false := by
  rcases h with rfl | h
  · simp at q
  · unfold PySem.W.kitOne at h
    split at h
    · cases h
    · exact (PySem.W.kit_cls X h).2.2
section
variable {prog : Program} {w : World} {A : Around} {E : Value → Shared → Prop} {s : Shared} {K : PySem.W.Frag} {x C f : Addr} {ox : Obj} {od : Option Obj} {b tb : Value}
theorem try_own {Q : Value → Shared → Prop} {n : Str} (X : K.In s.heap) (I : PySem.W.InstAt s.heap x ox C od) (hm : Meth K C n f)
    (h : wpAny (model prog w) A (call (.ref f) [.ref x, b]) (PySem.W.CmpBack Q) E s) : wpAny (model prog w) A (tryCompare (.ref x) n b) (fun r s' => ∃ v, r = some v ∧ Q v s') E s := by
  unfold tryCompare
  refine wpAny_bind (PySem.W.ifBound_K X I hm.at_ hm.fn (wpAny_mono h (fun v s' hv => ?_) fun _ _ e => e))
  cases v <;> first | exact hv.elim | exact wpAny_pure ⟨_, rfl, hv⟩
/-- a value that declines: then the right one's own == -/
theorem rc_ownR {Q : Value → Shared → Prop} {T : String} (hu : A.units < cLine) (X : K.In s.heap) (I : PySem.W.InstAt s.heap x ox C od) (hb : s.TypeIs b T) (ho : oneThing? .Eq b (.ref x) = none) (hn : PySem.W.mroIn K C (.type T) = some false) (hm : Meth K C "__eq__" f)
    (hd : ∀ Q' : Option Value → Shared → Prop, Q' none s → wpAny (model prog w) A (tryCompare b "__eq__" (.ref x)) Q' E s)
    (h : wpAny (model prog w) A (call (.ref f) [.ref x, b]) (PySem.W.CmpBack Q) E s) : wpAny (model prog w) A (richCompare .Eq b (.ref x)) Q E s := by
  have one := try_own (b := b) X I hm h
  simp only [richCompare, cmpInfo_Eq, ho]
  refine wpAny_holding (wpAny_bind (wpAny_cRoomFor hu ?_))
  refine wpAny_bind (wpAny_typeOf hb (wpAny_bind (I.type.here ?_)))
  split
  · refine wpAny_bind ((PySem.W.looks_mroIn X hn).here ?_)
    simp only [Bool.false_eq_true, if_false, Bool.not_false, if_true]
    refine wpAny_bind (m := tryCompare b _ (.ref x)) (hd _ ?_)
    refine wpAny_bind (m := tryCompare (.ref x) _ b) (wpAny_mono one (fun r s' z => ?_) fun _ _ e => e)
    obtain ⟨v, rfl, hq⟩ := z
    exact wpAny_pure hq
  · rename_i q
    exact absurd (by simp) q
end
section
variable {prog : Program} {w : World} {A : Around} {E : Value → Shared → Prop} {s : Shared} {K : PySem.W.Frag} {x C dx : Addr} {od : Option Obj}
theorem int_dec_ins (b : Int) (u : Tok) (l C dx : Addr) :
    Meets (Builtin.«int.__eq__» ⟨[.int b u, .ref l], []⟩) (fun _ R s => s.heap.get? l = some { cls := .ref C, dict := some dx, data := .plain } ∧ R (.ok (.ret .notImplemented)) s) :=
  .of_wp fun prog w A R s h => by obtain ⟨hp, g, d, tk, os⟩ := s; obtain ⟨hl, h⟩ := h; wp_walk using wpAny_loadPart' hl, wpAny_load hl; exact ⟨_, rfl, h⟩
theorem bool_dec_ins (b : Bool) (l C dx : Addr) :
    Meets (Builtin.«int.__eq__» ⟨[.bool b, .ref l], []⟩) (fun _ R s => s.heap.get? l = some { cls := .ref C, dict := some dx, data := .plain } ∧ R (.ok (.ret .notImplemented)) s) :=
  .of_wp fun prog w A R s h => by obtain ⟨hp, g, d, tk, os⟩ := s; obtain ⟨hl, h⟩ := h; wp_walk using wpAny_loadPart' hl, wpAny_load hl; exact ⟨_, rfl, h⟩
theorem str_dec_ins (b : Str) (u : Tok) (l C dx : Addr) :
    Meets (Builtin.«str.__eq__» ⟨[.str b u, .ref l], []⟩) (fun _ R s => s.heap.get? l = some { cls := .ref C, dict := some dx, data := .plain } ∧ R (.ok (.ret .notImplemented)) s) :=
  .of_wp fun prog w A R s h => by obtain ⟨hp, g, d, tk, os⟩ := s; obtain ⟨hl, h⟩ := h; wp_walk using wpAny_loadPart' hl, wpAny_load hl; exact ⟨_, rfl, h⟩
theorem wpAny_noInst {M : Model} {T : String} {Q : Bool → Shared → Prop} (X : K.In s.heap) (I : PySem.W.InstAt s.heap x (PySem.W.instObj C dx) C od) (hn : PySem.W.mroIn K C (.type T) = some false) (h : Q false s) : wpAny M A (isInstance (.ref x) (.type T)) Q E s := by
  unfold isInstance
  exact wpAny_bind (I.type.here ((PySem.W.looks_mroIn X hn).here h))
theorem list_dec_ins (l : Addr) (X : K.In s.heap) (I : PySem.W.InstAt s.heap x (PySem.W.instObj C dx) C od) (hn : PySem.W.mroIn K C (.type "list") = some false) {Q : Fin → Shared → Prop} (h : Q (.done (.ret .notImplemented)) s) :
    wpAny (model prog w) A (Builtin.«list.__eq__» ⟨[.ref l, .ref x], []⟩) Q E s := by
  unfold Builtin.«list.__eq__»
  wp_walk using wpAny_noInst X I hn
  exact h
theorem tuple_dec_ins (l : Addr) (X : K.In s.heap) (I : PySem.W.InstAt s.heap x (PySem.W.instObj C dx) C od) (hn : PySem.W.mroIn K C (.type "tuple") = some false) {Q : Fin → Shared → Prop} (h : Q (.done (.ret .notImplemented)) s) :
    wpAny (model prog w) A (Builtin.«tuple.__eq__» ⟨[.ref l, .ref x], []⟩) Q E s := by
  unfold Builtin.«tuple.__eq__»
  wp_walk using wpAny_noInst X I hn
  exact h
theorem dict_dec_ins (l : Addr) (hT : s.TypeIs (.ref l) "dict") (X : K.In s.heap) (I : PySem.W.InstAt s.heap x (PySem.W.instObj C dx) C od) (hn : PySem.W.mroIn K C (.type "dict") = some false) {Q : Fin → Shared → Prop} (h : Q (.done (.ret .notImplemented)) s) :
    wpAny (model prog w) A (Builtin.«dict.__eq__» ⟨[.ref l, .ref x], []⟩) Q E s := by
  show wpAny _ _ (Builtin.Dict.dictSlotArgs "__eq__" ⟨[.ref l, .ref x], []⟩ >>= _) _ _ s
  refine wpAny_bind ?_
  unfold Builtin.Dict.dictSlotArgs
  refine wpAny_bind (wpAny_notOrdered_dict hT ?_)
  show wpAny _ _ (pure (Value.ref l, Value.ref x)) _ _ s
  refine wpAny_pure ?_
  refine wpAny_bind (wpAny_noInst X I hn ?_)
  simp only [Bool.not_false, if_true]
  refine wpAny_bind (wpAny_rule ?_)
  exact wpAny_pure h
end
theorem cmpback_ {P : Value → Shared → Prop} {z : V} {v : Value} {s' : Shared} (r : RelV z v) (h : P v s') : PySem.W.CmpBack P v s' := by
  cases v with
  | notImplemented =>
    cases z with
    | int i => exact nomatch (show ∃ t, Value.notImplemented = Value.int i t from r)
    | str i => exact nomatch (show ∃ t, Value.notImplemented = Value.str i t from r)
    | byt i => exact nomatch (show ∃ t, Value.notImplemented = Value.bytes i t from r)
    | flt i => exact nomatch (show ∃ t, Value.notImplemented = Value.float i t from r)
    | non => exact nomatch (show Value.notImplemented = Value.none from r)
    | bl b => exact nomatch (show Value.notImplemented = Value.bool b from r)
    | ref a => exact nomatch (show Value.notImplemented = Value.ref a from r)
    | ty n => exact nomatch (show Value.notImplemented = Value.type n from r)
  | _ => exact h
/-- values whose == declines an instance -/
inductive Dec (K : PySem.W.Frag) (H : Hp) : V → Prop where
  | non : Dec K H .non
  | bl (b : Bool) : Dec K H (.bl b)
  | int (i : Int) : Dec K H (.int i)
  | str (z : Str) : Dec K H (.str z)
  | lst {a : Addr} {xs : List V} (e : SqL K H a xs) : Dec K H (.ref a)
  | tup {a : Addr} {xs : List V} (e : SqT K H a xs) : Dec K H (.ref a)
  | dK {a : Addr} {kvs : List (Key × V)} (e : H a = some (.dK kvs)) : Dec K H (.ref a)
/-- a rich comparison below the running body -/
def RcO (X : Cx) (k : Nat) (r : R2) : Prop := ∀ (A : Around) (pins : List (Addr × Obj)) (s : Shared) (σ : L2.St) (H : Hp) (x y : V) (u v : Value) (Q : VK), Rm k A → A.frames = X.A.frames → Inv X pins σ H s → RelV x u → RelV y v → r x y H Q →
  wpAny (model X.prog X.w) A (richCompare .Eq u v) (EP X pins σ Q) X.xe s
section
variable {X : Cx} {k : Nat} {f C : Addr} {sp : Sp} {pins : List (Addr × Obj)} {σ : L2.St} {H : Hp} {s : Shared}
theorem dec_try {x : Addr} {dx : Addr} {od : Option Obj} {z : V} {u : Value} (I : Inv X pins σ H s) (r : RelV z u) (d : Dec X.K H z) (J : PySem.W.InstAt s.heap x (PySem.W.instObj C dx) C od) (nb : NoBase X.K C) :
    ∃ T, s.TypeIs u T ∧ oneThing? .Eq u (.ref x) = none ∧ PySem.W.mroIn X.K C (.type T) = some false ∧ ∀ (A : Around) (E : Value → Shared → Prop) (Q' : Option Value → Shared → Prop), Q' none s → wpAny (model X.prog X.w) A (tryCompare u "__eq__" (.ref x)) Q' E s := by
  cases d with
  | non =>
    cases (show u = Value.none from r)
    exact ⟨"NoneType", rfl, rfl, nb.non, fun A E Q' h => wpAny_tryCompare_declines (show s.TypeIs .none "NoneType" from rfl) F.slot_NoneType_eq (call_gives F.slot_NoneType_eq rfl F.entry_NoneType_eq (F.args_NoneType_eq_2 _ _) (NoneType___eq___none_ref_0 x) ⟨rfl, h⟩)⟩
  | bl b =>
    cases (show u = Value.bool b from r)
    exact ⟨"bool", rfl, rfl, nb.bl, fun A E Q' h => wpAny_tryCompare_declines (show s.TypeIs (.bool b) "bool" from rfl) F.slot_bool_eq (call_meets F.slot_bool_eq rfl F.entry_int_eq (F.args_int_eq_2 _ _) (bool_dec_ins b x C dx) ⟨J.at_, rfl, h⟩)⟩
  | int i =>
    obtain ⟨t, e⟩ := (show ∃ t, u = Value.int i t from r)
    cases e
    exact ⟨"int", typeIs_int s i t, rfl, nb.int, fun A E Q' h => wpAny_tryCompare_declines (typeIs_int s i t) F.slot_int_eq (call_meets F.slot_int_eq (typeIs_int s i t) F.entry_int_eq (F.args_int_eq_2 _ _) (int_dec_ins i t x C dx) ⟨J.at_, rfl, h⟩)⟩
  | str z =>
    obtain ⟨t, e⟩ := (show ∃ t, u = Value.str z t from r)
    cases e
    exact ⟨"str", typeIs_str s z t, rfl, nb.str, fun A E Q' h => wpAny_tryCompare_declines (typeIs_str s z t) F.slot_str_eq (call_meets F.slot_str_eq (typeIs_str s z t) F.entry_str_eq (F.args_str_eq_2 _ _) (str_dec_ins z t x C dx) ⟨J.at_, rfl, h⟩)⟩
  | @lst a xs e =>
    cases (show u = Value.ref a from r)
    obtain ⟨its, rl, pl, hz⟩ := I.list e
    obtain ⟨o, n, ho, hc, _⟩ := pl
    have hT : s.TypeIs (.ref a) "list" := ⟨_, ho, hc⟩
    exact ⟨"list", hT, oneThing_ref _ _ _, nb.lst, fun A E Q' h => wpAny_tryCompare_declines hT F.slot_list_eq (wpAny_call_entry F.slot_list_eq hT F.entry_list_eq (list_dec_ins a I.kIn J nb.lst ⟨_, rfl, rfl, h⟩) (F.args_list_eq_2 _ _))⟩
  | @tup a xs e =>
    cases (show u = Value.ref a from r)
    obtain ⟨its, rl, ⟨o, ho, hc, n, d⟩, hz⟩ := I.tuple e
    have hT : s.TypeIs (.ref a) "tuple" := ⟨_, ho, hc⟩
    exact ⟨"tuple", hT, oneThing_ref _ _ _, nb.tup, fun A E Q' h => wpAny_tryCompare_declines hT F.slot_tuple_eq (wpAny_call_entry F.slot_tuple_eq hT F.entry_tuple_eq (tuple_dec_ins a I.kIn J nb.tup ⟨_, rfl, rfl, h⟩) (F.args_tuple_eq_2 _ _))⟩
  | @dK a kvs e =>
    cases (show u = Value.ref a from r)
    have hT : s.TypeIs (.ref a) "dict" := by
      obtain ⟨_, _, vs, _, hD⟩ := (show ObjOk _ _ H s.heap a (.dK kvs) from I.hok a _ e)
      exact hD.typeIs
    exact ⟨"dict", hT, oneThing_ref _ _ _, nb.dct, fun A E Q' h => wpAny_tryCompare_declines hT F.slot_dict_eq (wpAny_call_entry F.slot_dict_eq hT F.entry_dict_eq (dict_dec_ins a hT I.kIn J nb.dct ⟨_, rfl, rfl, h⟩) (F.args_dict_eq_2 _ _))⟩
/-- x == y: y an instance of C, x declines -/
def rEqR (K : PySem.W.Frag) (C : Addr) (sp : Sp) : R2 := fun x y H Q => ∃ a dx fs, y = .ref a ∧ H a = some (.ins C dx fs) ∧ Dec K H x ∧ sp [y, x] H Q (fun _ _ _ => False)
theorem rco_R (nb : NoBase X.K C) (hm : Meth X.K C "__eq__" f) (F : Fc X.prog X.w X.K X.mg X.base k f [] sp) : RcO X k (rEqR X.K C sp) := by
  intro A pins s σ H x y u v Q hr hf I rx ry h
  obtain ⟨a, dx, fs, rfl, ha, d, hsp⟩ := h
  cases (show v = Value.ref a from ry)
  obtain ⟨mA, J, _⟩ := ins_get I.hok ha
  obtain ⟨od, J, _⟩ := J.look
  obtain ⟨T, hT, h1, hn, hd⟩ := dec_try I rx d J nb
  have run := run_fcA (A := A) (W := fun _ _ _ _ => False) (us := [.ref a, u]) (ws := []) (vs := [.ref a, x]) (σ := σ) F hr hf takes0 I (.cons rfl (.cons rx .nil)) rfl hsp
  refine rc_ownR (by have := hr.rm.un; omega) I.kIn J hT h1 hn hm (hd _ _) (wpAny_mono run (fun w s' z => ?_) fun _ _ x => x)
  obtain ⟨z', H', I', rz, qz⟩ := z
  exact cmpback_ rz ⟨z', H', I', rz, qz⟩
def rOr (r r' : R2) : R2 := fun x y H Q => r x y H Q ∨ r' x y H Q
/-- x in a list, each item compared by r, the same object found ahead -/
def inW (r : R2) (K : PySem.W.Frag) (a : Addr) (ys : List V) (b : Addr) : List V → Hp → (Bool → Hp → Prop) → Prop
  | [], H, Q => SqL K H a ys ∧ Q false H
  | y :: l, H, Q => SqL K H a ys ∧ ((y = .ref b ∧ Q true H) ∨ (y ≠ .ref b ∧ r y (.ref b) H fun v H' => ∃ z, v = .bl z ∧ if z = true then Q true H' else inW r K a ys b l H' Q))
theorem eqBool_itm {A : Around} {r : R2} {b : Addr} {y : V} {u : Value} (h : RcO X k r) (hr : Rm k A) (hf : A.frames = X.A.frames) (I : Inv X pins σ H s) (ry : RelV y u) {Q : Bool → Hp → Prop}
    (q : (y = .ref b ∧ Q true H) ∨ (y ≠ .ref b ∧ r y (.ref b) H fun v H' => ∃ z, v = .bl z ∧ Q z H')) : wpAny (model X.prog X.w) A (eqBool u (.ref b)) (fun z s' => ∃ H', Inv X pins σ H' s' ∧ Q z H') X.xe s := by
  rcases q with ⟨rfl, q⟩ | ⟨ne, q⟩
  · cases (show u = Value.ref b from ry)
    exact SeqAt.EqAt.same (A := A) (s := s) (.ref b) X.prog X.w X.xe _ ⟨H, I, q⟩
  · have hu : (u == Value.ref b) = false := by
      rw [beq_eq_false_iff_ne]
      rintro rfl
      apply ne
      cases y with
      | ref a => injection (show Value.ref b = Value.ref a from ry) with e; rw [e]
      | int i => exact nomatch (show ∃ t, Value.ref b = Value.int i t from ry)
      | str i => exact nomatch (show ∃ t, Value.ref b = Value.str i t from ry)
      | byt i => exact nomatch (show ∃ t, Value.ref b = Value.bytes i t from ry)
      | flt i => exact nomatch (show ∃ t, Value.ref b = Value.float i t from ry)
      | non => exact nomatch (show Value.ref b = Value.none from ry)
      | bl c => exact nomatch (show Value.ref b = Value.bool c from ry)
      | ty n => exact nomatch (show Value.ref b = Value.type n from ry)
    have run := h A pins s σ H y (.ref b) u (.ref b) _ hr hf I ry rfl q
    unfold eqBool
    refine wpAny_holding ?_
    refine wpAny_ite_split (fun hab => absurd hab (by rw [hu]; decide)) (fun _ => ?_)
    have fin : wpAny (model X.prog X.w) A (richCompare .Eq u (.ref b) >>= fun v => truthOfDropped v) (fun z s' => ∃ H', Inv X pins σ H' s' ∧ Q z H') X.xe s := by
      refine wpAny_bind (wpAny_mono run (fun v s' hv => ?_) fun _ _ x => x)
      obtain ⟨z', H', I', rz, z, rfl, q⟩ := hv
      cases (show v = Value.bool z from rz)
      exact wpAny_truthy_bool ⟨H', I', q⟩
    cases u <;> exact fin
theorem in_loop {r : R2} {a b : Addr} {ys : List V} (h : RcO X k r) {R : Result → Shared → Prop} (hE : ∀ e s', X.xe e s' → R (.error e) s') (hr : Rm (k + 1) X.A) (Q : Bool → Hp → Prop) (hR : ∀ z H' s', Inv X pins σ H' s' → Q z H' → R (.ok (.ret (.bool z))) s') :
    ∀ (l : List V) (i : Nat) (H : Hp) (s : Shared), l = ys.drop i → Inv X pins σ H s → inW r X.K a ys b l H Q → wpAny (model X.prog X.w) X.A.in1 (Builtin.«list.__contains__.loop» ⟨[.ref a, .ref b, rawInt i], []⟩) (GQ.FinOf X.prog X.w X.A R) (fun e s' => R (.error e) s') s
  | [], i, H, s, el, I, hq => by
    obtain ⟨hS, q⟩ := hq
    obtain ⟨its, rl, pl, hz⟩ := I.list hS
    obtain ⟨⟨cls, dd, data, sl⟩, n, ho, hc, hd, hs⟩ := pl
    simp only at hc hd hs
    subst hc hd hs
    have hlen : ys.length ≤ i := List.drop_eq_nil_iff.mp el.symm
    have hR' := hR false H s I q
    have hl2 : its.length = ys.length := rl.length.symm
    obtain ⟨hp, g, d, tk, os⟩ := s
    wp_walk using AutoSeq1.wpAny_loadPart' ho
    have hi : its.toArray[((i : Nat) : Int).toNat]? = none := by simp; omega
    rw [hi]
    wp_walk
    exact hR'
  | y :: l, i, H, s, el, I, hq => by
    obtain ⟨hS, q⟩ := hq
    obtain ⟨its, rl, pl, hz⟩ := I.list hS
    obtain ⟨⟨cls, dd, data, sl⟩, n, ho, hc, hd, hs⟩ := pl
    simp only at hc hd hs
    subst hc hd hs
    have hy : ys[i]? = some y := by
      have : (ys.drop i)[0]? = some y := by rw [← el]; rfl
      rwa [List.getElem?_drop] at this
    obtain ⟨u, hu, ry⟩ : ∃ u, its[i]? = some u ∧ RelV y u := rl.get hy
    have step := eqBool_itm (A := X.A.in1) (Q := fun z H' => if z = true then Q true H' else inW r X.K a ys b l H' Q) h hr.in1 rfl I ry (q.imp (fun q => ⟨q.1, by simpa using q.2⟩) id)
    have rec_ := fun H' s' I' => in_loop (a := a) (b := b) h hE hr Q hR l (i + 1) H' s' (by rw [← List.tail_drop, ← el]; rfl) I'
    obtain ⟨hp, g, d, tk, os⟩ := s
    wp_walk using AutoSeq1.wpAny_loadPart' ho
    have hi : its.toArray[((i : Nat) : Int).toNat]? = some u := by simpa using hu
    rw [hi]
    refine wpAny_bind (wpAny_mono step (fun z s' hz => ?_) hE)
    obtain ⟨H', I', qz⟩ := hz
    cases z with
    | true =>
      have hR' := hR true H' s' I' (by simpa using qz)
      obtain ⟨hp2, g2, d2, tk2, os2⟩ := s'
      wp_walk
      exact hR'
    | false =>
      have hrec := rec_ H' s' I' (by simpa using qz)
      have hc : ((i : Int) + 1) = ((i + 1 : Nat) : Int) := by omega
      obtain ⟨hp2, g2, d2, tk2, os2⟩ := s'
      wp_walk
      rw [hc]
      exact ⟨plainId_quiet MeetsSeq.plain_contains_loop _, codeAny_builtin MeetsSeq.entry_contains_loop (by
        rw [Around.under_plainId MeetsSeq.plain_contains_loop _]
        exact hrec)⟩
theorem rco_RK (K : PySem.W.Frag) (nb : NoBase K C) (hm : Meth K C "__eq__" f) (F : Fc X.prog X.w K X.mg X.base k f [] sp) (h : X.K = K := by rfl) : RcO X k (rEqR K C sp) := by
  subst h
  exact rco_R nb hm F
end
end L3
set_option Elab.async false
set_option linter.all false
set_option maxRecDepth 100000
set_option maxHeartbeats 4000000
namespace L3
open PySem PySem.Spec PyProof.Rows L2 PySem.SeqAt PySem.Calls
theorem call_isiK {X : Cx} (K : PySem.W.Frag) (h : X.K = K := by rfl) : CallR X (.builtin "isinstance") (rIsi K) := by
  subst h
  exact call_isi
end L3
set_option Elab.async false
set_option linter.all false
set_option maxRecDepth 100000
set_option maxHeartbeats 4000000
namespace L3
open PySem PySem.Spec PyProof.Rows L2 PySem.SeqAt PySem.Calls
section
variable {X : Cx} {e : Expr} {t1 t2 : TE}
def tOrE (t1 t2 : TE) : TE := fun σ H Q => t1 σ H Q ∨ t2 σ H Q
/-- one reading or the other -/
theorem pe_orE (h1 : PE X e t1) (h2 : PE X e t2) : PE X e (tOrE t1 t2) := ⟨fun pins s σ H Q I h => h.elim (h1.run pins s σ H Q I) (h2.run pins s σ H Q I)⟩
end
/-- a promise that is asked for nothing -/
theorem fc_no {P : Program} {w : World} {K : PySem.W.Frag} {mg : Str → Option Value} {base : Heap} {k : Nat} {f : Addr} {ks : List Str} {sp : Sp} (h : ∀ vs H Q E, ¬ sp vs H Q E) : Fc P w K mg base k f ks sp := fun _ _ _ _ _ _ _ _ _ _ _ _ _ z => absurd z (h _ _ _ _)
end L3
set_option Elab.async false
set_option linter.all false
set_option maxRecDepth 100000
set_option maxHeartbeats 4000000
namespace L3
open PySem PySem.Spec PyProof.Rows L2 PySem.SeqAt PySem.Calls
end L3
set_option Elab.async false
set_option linter.all false
set_option maxRecDepth 100000
set_option maxHeartbeats 4000000
namespace L3
open PySem PySem.Spec PyProof.Rows L2
section
variable {p A B : Prop} [Decidable p]
theorem ifP (h : p) (q : A) : if decide p = true then A else B := by
  rw [decide_eq_true h]
  exact iteT q
theorem ifN (h : ¬ p) (q : B) : if decide p = true then A else B := by
  rw [decide_eq_false h]
  exact iteF q
end
theorem sz_big {n : Nat} (h : n ≤ 16000000) : n ≤ sizeLine := Nat.le_trans h (by rw [sizeLine_eq]; decide)
theorem sz_lt {n : Nat} (h : n ≤ 16000000) : n < sizeLine := Nat.lt_of_le_of_lt h (by rw [sizeLine_eq]; decide)
end L3
set_option Elab.async false
set_option linter.all false
set_option maxRecDepth 100000
set_option maxHeartbeats 4000000
namespace L3
open PySem PySem.Spec PyProof.Rows L2
structure FbN (P : Program) (w : World) (K : PySem.W.Frag) (mg : Str → Option Value) (base : Heap) (k : Nat) (f : Addr) (fd : FuncData) (ps : List Str) (sp : Sp) : Prop where
  len : ∀ vs H Q E, sp vs H Q E → vs.length = ps.length
  run : ∀ (A : Around) (outer : List Env) (s : Shared) (H : Hp) (args : Args) (us : List Value) (vs : List V) (Q : VK) (E : XK), Rm k A → Env0 P w K mg base A outer s H → BindsTo s fd args (ps.zip us) → Vals vs us → sp vs H Q E →
    codeAny (model P w) A (.call (.ref f) args) (CR (L2N.CX P w) outer P w H s Q E) s
section
variable {P : Program} {w : World} {K : PySem.W.Frag} {mg : Str → Option Value} {base : Heap} {x qual : Str} {params : Arguments} {body : List Stmt} {scope : Scope} {dvs : List V} {kws : List (Str × V)} {f : Addr} {fd : FuncData} {k : Nat} {ps N : List Str} {sp : Sp}
theorem FbN.mono {j : Nat} (F : FbN P w K mg base j f fd ps sp) (h : j ≤ k) : FbN P w K mg base k f fd ps sp := ⟨F.len, fun A outer s H args us vs Q E hr => F.run A outer s H args us vs Q E (hr.mono h)⟩
theorem FbN.imp {sp' : Sp} (F : FbN P w K mg base k f fd ps sp) (h : ∀ vs H Q E, sp' vs H Q E → sp vs H Q E) : FbN P w K mg base k f fd ps sp' :=
  ⟨fun vs H Q E q => F.len vs H Q E (h _ _ _ _ q), fun A outer s H args us vs Q E hr he hb hv hs => F.run A outer s H args us vs Q E hr he hb hv (h _ _ _ _ hs)⟩
def FcN (P : Program) (w : World) (K : PySem.W.Frag) (mg : Str → Option Value) (base : Heap) (k : Nat) (f : Addr) (ks : List Str) (sp : Sp) : Prop :=
  ∀ (A : Around) (outer : List Env) (s : Shared) (H : Hp) (us ws : List Value) (vs : List V) (Q : VK) (E : XK), Rm k A → Env0 P w K mg base A outer s H → Vals vs (us ++ ws) → ws.length = ks.length → sp vs H Q E →
    codeAny (model P w) A (.call (.ref f) ⟨us, ks.zip ws⟩) (CR (L2N.CX P w) outer P w H s Q E) s
theorem FcN.mono {j : Nat} {ks : List Str} (F : FcN P w K mg base j f ks sp) (h : j ≤ k) : FcN P w K mg base k f ks sp := fun A outer s H us ws vs Q E hr => F A outer s H us ws vs Q E (hr.mono h)
theorem FcN.imp {sp' : Sp} {ks : List Str} (F : FcN P w K mg base k f ks sp) (h : ∀ vs H Q E, sp' vs H Q E → sp vs H Q E) : FcN P w K mg base k f ks sp' :=
  fun A outer s H us ws vs Q E hr he hv hl hs => F A outer s H us ws vs Q E hr he hv hl (h _ _ _ _ hs)
/-- every parameter is given by place -/
theorem FbN.all (F : FbN P w K mg base k f fd ps sp) (hb : Binds K fd ps []) : FcN P w K mg base k f [] sp := fun A outer s H us ws vs Q E hr e0 r hl h => by
  cases ws with
  | cons w ws => cases hl
  | nil =>
    rw [List.append_nil] at r
    have KX : K.In s.heap := e0.mod.kin.keeps fun b o e => (e0.bs b o e).1
    have l2 : us.length = ps.length := by rw [← r.length]; exact F.len _ _ _ _ h
    have b := hb s us KX (by rw [List.append_nil]; exact l2)
    rw [List.append_nil] at b
    exact F.run A outer s H ⟨us, []⟩ us vs Q E hr e0 b r h
/-- all parameters given, some by name, no defaults -/
theorem FbN.names (D : FunD K x qual params body scope [] kws f fd) (F : FbN P w K mg base k f fd ps sp) (n : Nat) (ks : List Str) (g : {α : Type} → List α → List α)
    (hrel : ∀ {vs : List V} {us : List Value}, Vals vs us → Vals (g vs) (g us))
    (h : ∀ (kV doc pm : Value) (an : Option Addr) (cdv ct : Value) (us ws : List Value), us.length = n → ws.length = ks.length →
      bindArgs (PySem.W.fnOf x qual params body scope .none kV doc pm an cdv ct) ⟨us, ks.zip ws⟩ = pure (ps.zip (g (us ++ ws)))) :
    FcN P w K mg base k f ks (fun vs H Q E => vs.length = n + ks.length ∧ sp (g vs) H Q E) := by
  obtain ⟨oc, od, dV, kV, doc, pm, an, cdv, ct, osl, rfl, lk, hcd, hD, hK⟩ := D.ex
  rcases hD with ⟨_, rfl⟩ | ⟨e, _⟩
  · intro A outer s H us ws vs Q E hr e0 r hl hsp
    have l2 : us.length = n := by
      have e := r.length
      rw [hsp.1, List.length_append, hl] at e
      omega
    exact F.run A outer s H ⟨us, ks.zip ws⟩ (g (us ++ ws)) (g vs) Q E hr e0 (.of_eq (h kV doc pm an cdv ct us ws l2 hl)) (hrel r) hsp.2
  · exact absurd rfl e
end
end L3
namespace L3
open PySem PySem.Spec PyProof.Rows L2 L2H HotX
end L3
set_option Elab.async false
set_option linter.all false
set_option maxRecDepth 100000
set_option maxHeartbeats 4000000
namespace L3
open PySem PySem.Spec PyProof.Rows L2
def wFst (K : PySem.W.Frag) (c : Value) (i : Nat) (ts : Addr → Value → Option Addr → TS) (D : Ends) : WX := fun cls d σ H =>
  PySem.W.exmOne K cls c = some true ∧ ∀ a, H a = none → ts a cls d { nx := fun σ' H' => D.nx (σ'.set i none) H', rt := D.rt, bk := fun σ' H' => D.bk (σ'.set i none) H', ct := fun σ' H' => D.ct (σ'.set i none) H' } (σ.set i (some (.ref a))) H
def tTryFst (K : PySem.W.Frag) (c : Value) (i : Nat) (ts : Addr → Value → Option Addr → TS) (tb : WX → TS) : TS := fun D σ H => tb (wFst K c i ts D) D σ H
section
variable {X : Cx} {x n : Str} {c : Value} {i : Nat} {body suite : List Stmt} {b₀ : Stmt} {np pos pos' : Pos} {tb : WX → TS} {ts : Addr → Value → Option Addr → TS} {hds : List ExceptHandler}
theorem ps_try_fst (hs : X.stack = X.env :: X.outer) (hf : X.env.frame = some X.env.locals) (hN : X.N.Nodup) (hi : X.N[i]? = some n) (hln : X.env.kindOf n = some .local) (hc : Names X x c)
    (hb : ∀ (W : WX) (pn : List (Addr × Obj)) (xe : Value → Shared → Prop), Takes (X.tr pn xe) W → PassesOwn (model X.prog X.w) X.A X.env xe → PSs (X.tr pn xe) body (tb W))
    (hsu : ∀ (a : Addr) (oe : Obj) (cls : Value) (d : Option Addr) (pn : List (Addr × Obj)), Zc cls d oe → (∃ vs, oe.data = .fields vs) → PSs (X.suite a ((a, oe) :: pn)) (b₀ :: suite) (ts a cls d)) :
    PS X (.Try body (.ExceptHandler (some (.Name x np)) (some n) (b₀ :: suite) pos' :: hds) [] [] pos) (tTryFst X.K c i ts tb) := by
  refine ⟨fun pins s σ H D I h => ?_⟩
  have ok := I.ok
  have hfr : X.A.frames = some (X.env :: X.outer) := by rw [ok.frames, hs]
  refine wpAny_Try_except ?_
  refine wpAny_mono ((hb (wFst X.K c i ts D) (X.pn ++ pins) (fun e s₁ => wpAny (model X.prog X.w) X.A (noteFrame e X.env) (fun _ s₂ => wpAny (model X.prog X.w) X.A (setFlight e none) (fun _ s₃ =>
    wpAny (model X.prog X.w) X.A (handleBy e X.env (.ExceptHandler (some (.Name x np)) (some n) (b₀ :: suite) pos' :: hds)) (SP X pins D) X.xe s₃) X.xe s₂) X.xe s₁) (fun u s' xx => ?_) PassesOwn.looking).run [] s σ H D (I.toTry _) h) (fun f s1 hsp => ?_) (fun e s1 he => he)
  · obtain ⟨a, B, sI, pins', σ', H', cls, d, rfl, J', nb, up, sky, na, os, ag, hb1, hyes⟩ := xx
    have J : Inv X pins σ' H' sI := J'.ofTry ok
    have sky' : Sky B (X.env :: X.outer) a (Zc cls d) X.env.locals s'.heap := by rw [← hs]; exact sky
    show wpAny (model X.prog X.w) X.A (noteFrame (.ref a) X.env) _ _ _
    refine Sky.land Zc.steady hfr hf sky' fun h3 fl3 up3 => ?_
    have J3 : Inv X pins σ' H' { s' with heap := h3 } := J.landed nb fl3.1 (up.trans up3) os ag
    obtain ⟨oe3, vs3, he3, hz3, hd3⟩ := fl3.there
    have nfr : a ∉ frs (X.env :: X.outer) := fun hm => by
      obtain ⟨_, o', e', hnf⟩ := fl3.2.2.1.mem hm
      rw [he3] at e'
      cases e'
      exact hnf _ hd3
    have nL : a ≠ X.env.locals := fun z => nfr (List.mem_filterMap.mpr ⟨X.env, List.mem_cons_self, by rw [hf, z]⟩)
    have nF : a ∉ X.fs := fun hm => by
      obtain ⟨e, he, q⟩ := List.mem_filterMap.mp hm
      exact nfr (List.mem_filterMap.mpr ⟨e, List.mem_cons_of_mem _ he, q⟩)
    have S3 := J3.suite he3 hd3 na nL nF
    refine wpAny_handleBy_cons (codeAny_handlers_test ?_) (by intro q; cases q)
    have LT : PySem.W.Looks (model X.prog X.w) h3 (typeOf (.ref a)) cls := fun A Q E s k q => wpAny_typeOf_ref (k _ _ he3) (by rw [hz3.1]; exact q)
    have LM := PySem.W.exm_one (M := model X.prog X.w) (J3.kIn) LT hb1
    have test : ∀ {Q : Value → Shared → Prop} {E : Value → Shared → Prop}, Q c { s' with heap := h3 } → wpAny (model X.prog X.w) (X.A.mark (some (.ref a))) (eval (.Name x np) X.env) Q E { s' with heap := h3 } := fun {Q E} q => by
      obtain ⟨hg, hdbg, hm | ⟨hm, hv, hnn⟩⟩ := hc
      · exact ld_glob (X := X.suite a ((a, oe3) :: (X.pn ++ pins))) S3 hg hm q hdbg
      · exact ld_blt (X := X.suite a ((a, oe3) :: (X.pn ++ pins))) S3 hg hm hv q hnn hdbg
    refine test (LM.here ?_)
    refine codeAny_handlers_suite_as ?_
    refine HandSPX.lands_againZ fl3 fun h4 fl4 up4 => ?_
    have J4 : Inv X pins σ' H' { s' with heap := h4 } := J.landed nb fl4.1 ((up.trans up3).trans up4) os ag
    obtain ⟨oe4, vs4, he4, hz4, hd4⟩ := fl4.there
    have S4 := J4.suite he4 hd4 na nL nF
    refine store_ok (X := X.suite a ((a, oe4) :: (X.pn ++ pins))) (v := .ref a) S4 hN hi (.inl hln) rfl (fun s5 S5 => ?_) (.inr hln)
    refine wpAny_mono ((hsu a oe4 cls d (X.pn ++ pins) hz4 ⟨_, hd4⟩).run [] s5 _ H' _ S5 (hyes a na)) (fun f s6 hsp => ?_) (fun _ _ z => False.elim z)
    have end_ : ∀ {σ6 : L2.St} {H6 : Hp} {Q : Shared → Prop}, Inv (X.suite a ((a, oe4) :: (X.pn ++ pins))) [] σ6 H6 s6 → (∀ s7, Inv X pins (σ6.set i none) H6 s7 → Q s7) →
        wpAny (model X.prog X.w) X.A (do bindName X.env n .none; unbindBehindTheSuite X.env n pos') (fun _ s7 => Q s7) X.xe s6 := fun {σ6 H6 Q} S6 hq => gone_ok (S6.unsuite ok) hN hi hln hq
    cases f with
    | next =>
      obtain ⟨σ6, H6, S6, q6⟩ := hsp
      exact end_ S6 fun s7 J7 => ⟨_, _, J7, q6⟩
    | brk =>
      obtain ⟨σ6, H6, S6, q6⟩ := hsp
      exact end_ S6 fun s7 J7 => ⟨_, _, J7, q6⟩
    | cont =>
      obtain ⟨σ6, H6, S6, q6⟩ := hsp
      exact end_ S6 fun s7 J7 => ⟨_, _, J7, q6⟩
    | ret u =>
      obtain ⟨v6, σ6, H6, S6, r6, q6⟩ := hsp
      exact end_ S6 fun s7 J7 => ⟨_, _, _, J7, r6, q6⟩
  · cases f with
    | next =>
      obtain ⟨σ6, H6, S6, q6⟩ := hsp
      exact wpAny_execs_nil ⟨_, _, S6.ofTry ok, q6⟩
    | brk =>
      obtain ⟨σ6, H6, S6, q6⟩ := hsp
      exact ⟨_, _, S6.ofTry ok, q6⟩
    | cont =>
      obtain ⟨σ6, H6, S6, q6⟩ := hsp
      exact ⟨_, _, S6.ofTry ok, q6⟩
    | ret u =>
      obtain ⟨v6, σ6, H6, S6, r6, q6⟩ := hsp
      exact ⟨_, _, _, S6.ofTry ok, r6, q6⟩
end
def rNeE (K : PySem.W.Frag) : R2 := fun x y H Q => ∃ (a b : Addr) (xs : List V), x = .ref a ∧ y = .ref b ∧ SqL K H a xs ∧ SqL K H b [] ∧ Q (.bl (!xs.isEmpty)) H
theorem op_neE {X : Cx} (hu : X.A.units + 64 < cLine) : OpR X (compareOp .NotEq) (rNeE X.K) := by
  intro pins s σ H x y v u Q I rx ry h
  obtain ⟨a, b, xs, rfl, rfl, ha, hb, q⟩ := h
  cases (show v = Value.ref a from rx)
  cases (show u = Value.ref b from ry)
  obtain ⟨us, r1, p1, _⟩ := I.list ha
  obtain ⟨ws, r2, p2, _⟩ := I.list hb
  cases r2
  cases r1 with
  | nil =>
    refine SeqAt.RcNeAt.lists (A := X.A) (e := fun _ => true) p1.isList p2.isList rfl (by omega) (fun j h1 h2 => absurd h1 (Nat.not_lt_zero _)) X.prog X.w _ _ ?_
    exact ⟨.bl false, H, I, rfl, q⟩
  | cons z r =>
    refine SeqAt.RcNeAt.lists_lengths (A := X.A) p1.isList p2.isList rfl (by omega) X.prog X.w _ _ ?_
    exact ⟨.bl true, H, I, rfl, q⟩
end L3
set_option Elab.async false
set_option linter.all false
set_option maxRecDepth 100000
set_option maxHeartbeats 4000000
namespace L3
open PySem PySem.Spec PyProof.Rows L2
def Stays (H H' : Hp) (x : V) : Prop := ∀ a o, x = .ref a → H a = some o → H' a = some o
theorem tyOf_at {K : PySem.W.Frag} {H H' : Hp} {x : V} {t : Value} (e : Stays H H' x) (h : TyOf K H x t) : TyOf K H' x t := by
  cases h with
  | non => exact .non
  | bl x => exact .bl x
  | int i => exact .int i
  | str x => exact .str x
  | flt x => exact .flt x
  | lst h => exact .lst (e _ _ rfl h)
  | frz h => exact .frz (e _ _ rfl h)
  | tup h => exact .tup (e _ _ rfl h)
  | dK h => exact .dK (e _ _ rfl h)
  | dT h => exact .dT (e _ _ rfl h)
  | ins h cl ha hn htk hm => exact .ins (e _ _ rfl h) cl ha hn htk hm
theorem tyX_at {K : PySem.W.Frag} {H H' : Hp} {x : V} {t : Value} (e : Stays H H' x) (h : TyX K H x t) : TyX K H' x t := by
  cases h with
  | base h => exact .base (tyOf_at e h)
  | byt b => exact .byt b
  | set h => exact .set (e _ _ rfl h)
  | kList h c => exact .kList h c
  | kTuple h c => exact .kTuple h c
  | kDict h c => exact .kDict h c
  | fTuple h => exact .fTuple (e _ _ rfl h)
  | fDict h => exact .fDict (e _ _ rfl h)
theorem Cl.at {K : PySem.W.Frag} {H H' : Hp} {x : V} (c : Cl K H x) (e : Stays H H' x) : Cl K H' x := let ⟨t, b, d, h1, h2⟩ := c; ⟨t, b, d, tyX_at e h1, h2⟩
end L3
set_option Elab.async false
set_option linter.all false
set_option maxRecDepth 100000
set_option maxHeartbeats 4000000
namespace L3
open PySem PySem.Spec PyProof.Rows L2
def obsA (as : List Addr) (xf : List Fx) (fn : List He.DefD) (g : Addr → Option Obj) : He.AlD := obsX xf fn (He.frG g as)
def hookA (as : List Addr) (xf : List Fx) (fn : List He.DefD) : PySem.W.Hook where
  α := He.AlD
  obs := fun s => obsA as xf fn s.heap.get?
  val := fun _ => He.valD fn
  says := fun _ h => ∃ K : PySem.W.Frag, K.In h ∧ SaysX xf fn K
  of := fun _ _ e => ⟨_, He.frG_in, e⟩
  keeps := fun _ _ _ ⟨K, hK, c⟩ k => ⟨K, PySem.W.Frag.In.keeps hK k, c⟩
theorem obsA_eq {as : List Addr} {xf : List Fx} {fn : List He.DefD} {g : Addr → Option Obj} {s : Shared} (h : ∀ a, g a = s.heap.get? a) : obsA as xf fn g = (hookA as xf fn).obs s := by
  have e : g = s.heap.get? := funext h
  rw [e] <;> rfl
end L3
noncomputable section
namespace HandSHeadRun
open PySem PySem.W PySem.Calls PyProof.Rows
abbrev endR (r : OpenRow) (M : Nat) (w : World) (os : OsState) : Option SharedT := endF (stepQ (denQ tabQ) r.prog w) M r.prog w os
/-- what the machine's own looks say behind the run -/
def RunA (r : OpenRow) (q : Program) (M : Nat) (loose : List PySem.Str) (w : World) : Prop :=
  ∀ os : OsState, (endR r M w os).map (fun s => (looksF r.prog (boot_heap w.params) s.abs, seenQ q loose (importedModules r.prog.main.body) (fun s => xlAt q [] s && recOk r.toRowW.records s) s.abs)) = some (true, openGood q loose)
/-- some facts of what stands behind the run -/
def RunB (r : OpenRow) (M : Nat) (fs : SharedT → Bool) (w : World) : Prop := ∀ os : OsState, (endR r M w os).map fs = some true
/-- the defs' own values -/
def RunC (r : OpenRow) (H : Hook) (ob : SharedT → H.α) (M : Nat) (w : World) : Prop := ∀ os : OsState, (endR r M w os).map ob = some (H.val w)
theorem runEq_of {r : OpenRow} {q : Program} {H : Hook} {ob : SharedT → H.α} {M : Nat} {loose : List PySem.Str} {w : World} (a : RunA r q M loose w) (c : RunC r H ob M w) : RunEq r q H ob M loose w := fun os => by
  have h1 := a os
  have h2 := c os
  show (endR r M w os).map _ = _
  cases e : endR r M w os with
  | none =>
    rw [e] at h1
    cases h1
  | some s =>
    rw [e] at h1 h2
    have g1 := Option.some.inj h1
    have g2 := Option.some.inj h2
    show some _ = some _
    rw [← g2]
    have e1 := congrArg Prod.fst g1
    have e2 := congrArg Prod.snd g1
    dsimp only at e1 e2 ⊢
    rw [e1, e2]
end HandSHeadRun
end
namespace L3
open PySem PySem.Spec PyProof.Rows L2 HandSHeadRun
/-- the facts in three parts: two of the Bools, one of the defs -/
theorem runC_of {r : PySem.W.OpenRow} {as : List Addr} {xf xf1 xf2 : List Fx} {fn : List He.DefD} {M : Nat} {w : World} (e : xf = xf1 ++ xf2)
    (a : RunB r M (fun s => xf1.all fun p => p (He.frG (getT s) as)) w) (b : RunB r M (fun s => xf2.all fun p => p (He.frG (getT s) as)) w)
    (c : ∀ os : OsState, (endR r M w os).map (fun s => (fn.all fun d => d.ok (He.frG (getT s) as), fn.map fun d => He.fnW (He.frG (getT s) as) d.at_)) = some (true, fn.map He.DefD.val)) :
    RunC r (hookA as xf fn) (fun s => obsA as xf fn (getT s)) M w := fun os => by
  have h1 := a os
  have h2 := b os
  have h3 := c os
  cases e2 : endR r M w os with
  | none =>
    rw [e2] at h1
    cases h1
  | some s =>
    rw [e2] at h1 h2 h3
    have g1 : (xf1.all fun p => p (He.frG (getT s) as)) = true := Option.some.inj h1
    have g2 : (xf2.all fun p => p (He.frG (getT s) as)) = true := Option.some.inj h2
    have g3 := Option.some.inj h3
    have e3 := congrArg Prod.fst g3
    have e4 := congrArg Prod.snd g3
    dsimp only at e3 e4
    show some (obsA as xf fn (getT s)) = some (He.valD fn)
    unfold obsA obsX He.valD
    rw [e, List.all_append, g1, g2, e3, e4]
    rfl
end L3
set_option Elab.async false
set_option linter.all false
set_option maxRecDepth 100000
set_option maxHeartbeats 4000000
namespace EnT
open PySem PySem.Spec PyProof.Rows L2 L3
open AutoSeq1 (wpAny_loadPart')
theorem meets_enumT (l : Addr) (items : Array Value) (n : Nat) (dct : Option Addr) (sl : Array (Option Value)) :
    Meets (Builtin.«enumerate.__new__» ⟨[.type "enumerate", .ref l], []⟩) (fun _ R s => s.heap.get? l = some { cls := .type "tuple", dict := dct, data := .seq items n, slots := sl } ∧
      R (.ok (.ret (.ref (s.heap.push { cls := .type "tuple_iterator", data := .fields #[.ref l, .int 0 0] }).objs.size)))
        { s with heap := (s.heap.push { cls := .type "tuple_iterator", data := .fields #[.ref l, .int 0 0] }).push { cls := .type "enumerate", data := .fields #[.none, .bool false, .ref s.heap.objs.size, rawInt 0, .none, .none] } }) :=
  .of_wp fun prog w A R s h => by
    obtain ⟨hp, g, d, tk, os⟩ := s; obtain ⟨hl, h⟩ := h
    have hsub := sub_enumerate
    have hL : Heap.IsTuple (Shared.heap ⟨hp, g, d, tk, os⟩) l items := ⟨_, hl, rfl, n, rfl⟩
    wp_walk using wpAny_loadPart' hl
    refine wpAny_stack_any fun st => wpAny_pure ?_
    split
    · rename_i c _ _ _ _ _
      cases (c == Value.type "enumerate")
      · wp_walk using wpAny_loadPart' hl, wpAny_pyIter_tuple hL
        exact ⟨_, rfl, h⟩
      · wp_walk using wpAny_loadPart' hl, wpAny_pyIter_tuple hL
        exact ⟨_, rfl, h⟩
    · wp_walk using wpAny_loadPart' hl, wpAny_pyIter_tuple hL
      exact ⟨_, rfl, h⟩
theorem call_enumT {prog : Program} {w : World} {A : Around} {E : Value → Shared → Prop} {s : Shared} {l : Addr} {items : Array Value} {Q : Value → Shared → Prop} (hL : s.heap.IsTuple l items)
    (h : ∀ h', IsEnum h' (s.heap.objs.size + 1) s.heap.objs.size 0 .none → h'.IsTupleIter s.heap.objs.size l 0 → h'.objs.size = s.heap.objs.size + 2 →
      (∀ b o, s.heap.get? b = some o → h'.get? b = some o) → Q (.ref (s.heap.objs.size + 1)) { s with heap := h' }) :
    wpAny (model prog w) A (call (.type "enumerate") [.ref l]) Q E s := by
  obtain ⟨⟨c, dct, dt, sl⟩, hl, hc, n, hd⟩ := hL
  replace hc : c = .type "tuple" := hc
  replace hd : dt = .seq items n := hd
  subst hc hd
  refine callType_new F.called_enumerate (by decide) (F.typeCall_enumerate_1 _) (F.newCall_enumerate_1 _) (fun obj => F.args_object_init_2 obj _) F.entry_enumerate_new
    (meets_enumT l items n dct sl) ⟨hl, ?_⟩
  have hz : (s.heap.push { cls := .type "tuple_iterator", data := .fields #[.ref l, .int 0 0] }).objs.size = s.heap.objs.size + 1 := Heap.size_push ..
  show _ ∧ _
  rw [hz]
  have he : IsEnum ((s.heap.push { cls := .type "tuple_iterator", data := .fields #[.ref l, .int 0 0] }).push
      { cls := .type "enumerate", data := .fields #[.none, .bool false, .ref s.heap.objs.size, rawInt 0, .none, .none] }) (s.heap.objs.size + 1) s.heap.objs.size 0 .none := by
    have := Heap.get?_push_size (s.heap.push { cls := .type "tuple_iterator", data := .fields #[.ref l, .int 0 0] })
      (o := { cls := .type "enumerate", data := .fields #[.none, .bool false, .ref s.heap.objs.size, rawInt 0, .none, .none] }) rfl
    rw [hz] at this; exact this
  refine ⟨⟨_, he, rfl⟩, h _ he ⟨_, Heap.get?_push_of_some _ (Heap.get?_push_size _ rfl), rfl, rfl⟩ (by rw [Heap.size_push, hz]) fun b o x => Heap.get?_push_of_some _ (Heap.get?_push_of_some _ x)⟩
end EnT
namespace L3
open PySem PySem.Spec PyProof.Rows L2
/-- the tuple at a at each turn, each item in a new pair -/
def IteT (K : PySem.W.Frag) (a : Addr) : It :=
  ⟨fun i H => ∃ (xs : List V) (x : V), SqT K H a xs ∧ xs[i]? = some x, fun i H v H' => ∃ T x, v = .ref T ∧ H T = none ∧ H' = upd H T (.tup [.int (i : Nat), x]) ∧ ∀ xs, SqT K H a xs → xs[i]? = some x, fun i H => ∃ xs : List V, SqT K H a xs ∧ xs.length = i⟩
theorem turn_enumT {P : Program} {w : World} {K : PySem.W.Frag} {elts : List Expr} {kk : Nat} {tpos : Pos} (a e it : Addr) :
    L2.Turn P w K (.Tuple elts kk tpos) (IteT K a) [e, it] e (fun i h => (∃ old, IsEnum h e it ((i : Nat) : Int) old) ∧ h.IsTupleIter it a i ∧ e ≠ it ∧ a ≠ it ∧ e ≠ a) where
  mem := by simp
  obj := fun i h st b hb => by
    obtain ⟨⟨old, he⟩, ⟨o, ho, hc, hd⟩, _⟩ := st
    have e' : b = e ∨ b = it := by simpa using hb
    rcases e' with z | z
    · rw [z]; exact ⟨_, he, fun v q => nomatch q⟩
    · rw [z]; exact ⟨o, ho, fun v q => by rw [hd] at q; cases q⟩
  keep := fun i h h' st k => let ⟨⟨old, he⟩, hi, hne⟩ := st; ⟨⟨old, k e (by simp) _ he⟩, hi.at fun o q => k it (by simp) o q, hne⟩
  item := by
    intro X hP hw hK hc i pins s σ H E I hf st hg
    subst hP hw hK
    obtain ⟨⟨old, he⟩, hit, hne, hai, hea⟩ := st
    obtain ⟨xs, x, hq, hx⟩ := hg
    obtain ⟨its, rv, p, hz⟩ := I.tuple hq
    obtain ⟨u, hu, ru⟩ := rv.get hx
    have hel : e < s.heap.objs.size := Heap.lt_size he
    have hil : it < s.heap.objs.size := by obtain ⟨_, q, _⟩ := hit; exact Heap.lt_size q
    have hlt : i < its.toArray.size := by
      obtain ⟨z, _⟩ := List.getElem?_eq_some_iff.mp hu
      simpa using z
    have cm := I.ok.hd hc
    refine wpAny_pyNext_enum_itemD (Draws.tuple (prog := X.prog) (w := X.w) (A := X.A.in1) cm it a hai its.toArray) he ⟨hit, p⟩ hlt hne (by simp [hne, hea]) fun y h' tk hy ho hst hT hsz hk => ?_
    obtain rfl : u = y := by
      have e1 : its.toArray[i]? = some u := by simpa using hu
      rw [e1] at hy
      exact Option.some.inj hy
    refine ⟨_, rfl, wpAny_letOwnedTupleGo_enum (s := { s with heap := h', toks := tk + 1 }) ho fun h'' he' sb => ?_⟩
    have hT2 : h''.get? s.heap.objs.size = some { cls := .type "tuple", data := .seq #[.int i tk, u] } := (sb.2 _ (Nat.ne_of_gt hel)).trans hT
    have new : ObjOk X.prog X.w (upd H s.heap.objs.size (.tup [.int (i : Nat), x])) h'' s.heap.objs.size (.tup [.int (i : Nat), x]) :=
      ⟨by show 2 ≤ sizeLine; decide, [.int i tk, u], .cons ⟨_, rfl⟩ (.cons ru .nil), ⟨_, hT2, rfl, _, rfl⟩⟩
    have I1 : Inv X pins σ (upd H s.heap.objs.size (.tup [.int (i : Nat), x])) { s with heap := h'', toks := tk + 1 } :=
      I.turnedNew (ch := [e, it]) (fun b ob hb q => (sb.2 b (fun z => hb (by simp [z]))).trans (hk b ob (fun z => hb (by simp [z])) (fun z => hb (by simp [z])) q)) hf (Nat.le_refl _) new
    refine ⟨.ref s.heap.objs.size, _, I1, rfl, ⟨_, x, rfl, I.hok.fresh (Nat.le_refl _), rfl, fun ys hy => by rw [I.tuple_inj hy hq]; exact hx⟩, ⟨⟨u, ?_⟩, hst.1.at fun o q => (sb.2 it (Ne.symm hne)).trans q, hne, hai, hea⟩, fun b hb => ?_⟩
    · have e1 : ((i + 1 : Nat) : Int) = (i : Int) + 1 := by omega
      rw [e1]; exact he'
    · have hb' : b < s.heap.objs.size := by
        have e' : b = e ∨ b = it := by simpa using hb
        rcases e' with z | z
        · rw [z]; exact hel
        · rw [z]; exact hil
      rw [upd_ne (Nat.ne_of_lt hb')]
      exact (hf b hb).1
  done := by
    intro X hP hw hK hc i pins s σ H E I hf st hg
    subst hP hw hK
    obtain ⟨⟨old, he⟩, hit, hne, hai, hea⟩ := st
    obtain ⟨xs, hq, hx⟩ := hg
    obtain ⟨its, rv, p, hz⟩ := I.tuple hq
    obtain ⟨f0, f1, f2, f3, f4, f5⟩ := hf it (by simp)
    have hl := rv.length
    have en : its.toArray.size = i := by simp; omega
    have cm := I.ok.hd hc
    refine wpAny_pyNext_enum_endD (Draws.tuple (prog := X.prog) (w := X.w) (A := X.A.in1) cm it a hai its.toArray) he (by rw [en]; exact ⟨hit, p⟩) fun h' eb => ⟨rfl, I.turned (t' := s.toks) (fun b o hb q => eb b o hb q) f0 f1 f3 f4 f5⟩
  self := fun A i s Q E st h => let ⟨⟨_, he⟩, _⟩ := st; wpAny_pyIter_enum he h
theorem walk_enumT {K : PySem.W.Frag} {a : Addr} {xs : List V} : L2.Walk (IteT K a) xs.length (fun H => SqT K H a xs) (L2.YPair (fun i => some (.int (i : Nat))) (fun i => xs[i]?)) := by
  refine ⟨fun i _ hi q => ⟨xs, xs[i], q, by simp [hi]⟩, fun _ q => ⟨xs, q, rfl⟩, fun i H v H' _ q y => ?_⟩
  obtain ⟨T, x, h1, h2, h3, h4⟩ := y
  exact ⟨T, _, x, h1, h2, h3, rfl, h4 xs q⟩
/-- x[i], x a list or a tuple -/
def rIxA (K : PySem.W.Frag) : R2 := fun x y H Q => ∃ p xs i v, x = .ref p ∧ y = .int i ∧ (SqL K H p xs ∨ SqT K H p xs) ∧ atI xs i = some v ∧ Q v H
theorem ix_seqA {X : Cx} (K : PySem.W.Frag) (h : X.K = K := by rfl) : IxR X (rIxA K) := by
  subst h
  intro value slice pins s σ H x y v u Q I rx ry h hs
  obtain ⟨p, xs, i, z, e1, e2, hq, he, q⟩ := h
  rcases hq with hq | hq
  · exact ix_list value slice pins s σ H x y v u Q I rx ry ⟨p, xs, i, z, e1, e2, hq, he, q⟩ hs
  · exact ix_tup value slice pins s σ H x y v u Q I rx ry ⟨p, xs, i, z, e1, e2, hq, he, q⟩ hs
end L3
namespace L3
open PySem PySem.Spec PyProof.Rows L2
/-- at a a list or a tuple of these -/
def SqS (K : PySem.W.Frag) (H : Hp) (a : Addr) (xs : List V) : Prop := SqL K H a xs ∨ SqT K H a xs
theorem SqS.at {K : PySem.W.Frag} {H H' : Hp} {a : Addr} {xs : List V} (h : SqS K H a xs) (e : Stays H H' (.ref a)) : SqS K H' a xs := by
  rcases h with ((h | ⟨o, h⟩) | h) | ((h | ⟨o, h⟩) | h)
  · exact .inl (.inl (.inl (e _ _ rfl h)))
  · exact .inl (.inl (.inr ⟨o, e _ _ rfl h⟩))
  · exact .inl (.inr h)
  · exact .inr (.inl (.inl (e _ _ rfl h)))
  · exact .inr (.inl (.inr ⟨o, e _ _ rfl h⟩))
  · exact .inr (.inr h)
theorem stays_ex {H H' : Hp} {x : V} (e : Ex H H') : Stays H H' x := fun a o _ h => e a o h
theorem SqS.mono {K : PySem.W.Frag} {H H' : Hp} {a : Addr} {xs : List V} (h : SqS K H a xs) (e : Ex H H') : SqS K H' a xs := h.at (stays_ex e)
theorem sqL_at {K : PySem.W.Frag} {H H' : Hp} {a : Addr} {xs : List V} (h : SqL K H a xs) (e : Stays H H' (.ref a)) : SqL K H' a xs := by
  rcases h with (h | ⟨o, h⟩) | h
  · exact .inl (.inl (e _ _ rfl h))
  · exact .inl (.inr ⟨o, e _ _ rfl h⟩)
  · exact .inr h
theorem sqT_at {K : PySem.W.Frag} {H H' : Hp} {a : Addr} {xs : List V} (h : SqT K H a xs) (e : Stays H H' (.ref a)) : SqT K H' a xs := by
  rcases h with (h | ⟨o, h⟩) | h
  · exact .inl (.inl (e _ _ rfl h))
  · exact .inl (.inr ⟨o, e _ _ rfl h⟩)
  · exact .inr h
/-- what is a list or a tuple, walked: J stands for either walk, G for what it asks of a heap -/
def iSeqB (K : PySem.W.Frag) (tl : TE) : TI := fun σ H R => tl σ H fun v H1 => ∃ a xs, v = .ref a ∧ SqS K H1 a xs ∧ ∀ J G, L2.Walk J xs.length G (L2.YAt xs) → (∀ H', Stays H1 H' (.ref a) → G H') → R J H1
theorem pi_seqB {X : Cx} {tg l : Expr} {tl : TE} (hl : PE X l tl) (K : PySem.W.Frag) (hK : X.K = K := by rfl) : PI X tg l (iSeqB K tl) := by
  subst hK
  refine ⟨fun pins s σ H R I h => ?_⟩
  refine thn (hl.run pins s σ H _ I h) fun v s1 ⟨x, H1, I1, r1, a, xs, e, hq, q⟩ => ?_
  subst e
  cases r1
  rcases hq with hq | hq
  · have q1 := q (Itl X.K a) (fun H => SqL X.K H a xs) L2.walk_list fun H' e => sqL_at hq e
    obtain ⟨its, rv, p, hz⟩ := I1.list hq
    refine wpAny_pyIter_list p.isList ?_
    refine ⟨s1.heap.objs.size, [s1.heap.objs.size], _, _, H1, rfl, I1.kept (t' := s1.toks) fun b o e => Heap.get?_push_of_some _ e, turn_list a _, ⟨_, Heap.get?_push_size _ rfl, rfl, rfl⟩, fun b hb => ?_, q1⟩
    have e : b = s1.heap.objs.size := by simpa using hb
    subst e
    exact I1.fpOk (Nat.le_refl _) (I1.hok.fresh (Nat.le_refl _))
  · have q1 := q (Itt X.K a) (fun H => SqT X.K H a xs) L2.walk_tup fun H' e => sqT_at hq e
    obtain ⟨its, rv, p, hz⟩ := I1.tuple hq
    refine wpAny_pyIter_tuple (show s1.heap.IsTuple a its.toArray from p) ?_
    refine ⟨s1.heap.objs.size, [s1.heap.objs.size], _, _, H1, rfl, I1.kept (t' := s1.toks) fun b o e => Heap.get?_push_of_some _ e, turn_tuple a _, ⟨_, Heap.get?_push_size _ rfl, rfl, rfl⟩, fun b hb => ?_, q1⟩
    have e : b = s1.heap.objs.size := by simpa using hb
    subst e
    exact I1.fpOk (Nat.le_refl _) (I1.hok.fresh (Nat.le_refl _))
/-- enumerate of a list or a tuple -/
def iEnumB (K : PySem.W.Frag) (ta : TA) : TI := fun σ H R => ta σ H fun vs H1 => ∃ a xs, vs = [.ref a] ∧ SqS K H1 a xs ∧ ∀ J G, L2.Walk J xs.length G (L2.YPair (fun i => some (.int (i : Nat))) (fun i => xs[i]?)) → (∀ H', Stays H1 H' (.ref a) → G H') → R J H1
theorem pi_enumB {X : Cx} {e : Expr} {ta : TA} {p pos tpos : Pos} {elts : List Expr} {kk : Nat} (K : PySem.W.Frag) (hg : Gl X "enumerate") (hm : X.mg "enumerate" = none) (ha : PA X [e] ta) (hs : starEach [e] X.env = [(false, eval e X.env)] := by rfl) (hK : X.K = K := by rfl) :
    PI X (.Tuple elts kk tpos) (.Call (.Name "enumerate" p) [e] [] pos) (iEnumB K ta) := by
  subst hK
  refine ⟨fun pins s σ H R I h => ?_⟩
  refine Call_ (ld_blt I hg hm boot_enumerate (PyProof.Rows.callWith_type1 (thn (ha.run pos pins s σ H _ I h) fun us s1 ⟨vs, H1, I1, r1, q1⟩ => ?_) hs rfl))
  obtain ⟨a, xs, ex, hq, q⟩ := q1
  subst ex
  cases r1 with
  | cons r rr =>
    cases rr
    cases r
    rcases hq with hq | hq
    · have q1 := q (Ite X.K a) (fun H => SqL X.K H a xs) L2.walk_enum fun H' e => sqL_at hq e
      obtain ⟨its, rv, p', hz⟩ := I1.list hq
      refine call_enumerate_list p'.isList fun h' he hit hsz hk => wpAny_pyIter_enum he ?_
      have I2 : Inv X pins σ H1 { s1 with heap := h' } := I1.kept (t' := s1.toks) hk
      refine ⟨s1.heap.objs.size + 1, [s1.heap.objs.size + 1, s1.heap.objs.size], _, _, H1, rfl, I2, turn_enum a (s1.heap.objs.size + 1) s1.heap.objs.size, ⟨⟨.none, he⟩, hit, Nat.succ_ne_self _⟩, fun b hb => ?_, q1⟩
      have e' : b = s1.heap.objs.size + 1 ∨ b = s1.heap.objs.size := by simpa using hb
      have hle : s1.heap.objs.size ≤ b := by
        rcases e' with z | z
        · rw [z]; exact Nat.le_add_right _ _
        · rw [z]; exact Nat.le_refl _
      exact I1.fpOk hle (I1.hok.fresh hle)
    · have q1 := q (IteT X.K a) (fun H => SqT X.K H a xs) walk_enumT fun H' e => sqT_at hq e
      obtain ⟨its, rv, p', hz⟩ := I1.tuple hq
      have al : a < s1.heap.objs.size := by
        obtain ⟨_, e2, _⟩ := p'
        exact Heap.lt_size e2
      refine EnT.call_enumT p' fun h' he hit hsz hk => wpAny_pyIter_enum he ?_
      have I2 : Inv X pins σ H1 { s1 with heap := h' } := I1.kept (t' := s1.toks) hk
      refine ⟨s1.heap.objs.size + 1, [s1.heap.objs.size + 1, s1.heap.objs.size], _, _, H1, rfl, I2, turn_enumT a (s1.heap.objs.size + 1) s1.heap.objs.size, ⟨⟨.none, he⟩, hit, Nat.succ_ne_self _, Nat.ne_of_lt al, Nat.ne_of_gt (Nat.lt_succ_of_lt al)⟩, fun b hb => ?_, q1⟩
      have e' : b = s1.heap.objs.size + 1 ∨ b = s1.heap.objs.size := by simpa using hb
      have hle : s1.heap.objs.size ≤ b := by
        rcases e' with z | z
        · rw [z]; exact Nat.le_add_right _ _
        · rw [z]; exact Nat.le_refl _
      exact I1.fpOk hle (I1.hok.fresh hle)
end L3
set_option Elab.async false
set_option linter.all false
set_option maxRecDepth 100000
set_option maxHeartbeats 4000000
namespace L3
open PySem PySem.Spec PyProof.Rows L2
end L3
set_option Elab.async false
set_option linter.all false
set_option maxRecDepth 100000
set_option maxHeartbeats 4000000
namespace L3
open PySem PySem.Spec PySem.Calls PyProof.Rows
section
open PySem.W
variable {prog : Program} {w : World} {A : Around} {E : Value → Shared → Prop} {s : Shared} {K : Frag} {x D : Addr} {ox : Obj} {od : Option Obj}
theorem findObj_dataA {C : Addr} {name : Str} {a g : Value} (hc : (clsIn K C).isSome = true) (ha : findIn K (.ref C) name = some (some a)) (hg : specialIn K a "__get__" = some (some g)) (ht : takesIn K a = some true) : findObj K C od name = some (.bind g a) := by
  obtain ⟨cd, hc⟩ := Option.isSome_iff_exists.mp hc
  unfold findObj
  rw [hc, Option.bind_some, ha, Option.bind_some]
  simp [hg, ht]
/-- e.__class__, with or without fields of its own -/
theorem kin_classA {Q : Option Value → Shared → Prop} (C : L2.ExcC K D) (X : K.In s.heap) (I : W.InstAt s.heap x ox D od) (h : Q (some (.ref D)) { s with toks := s.toks + 1 }) : wpAny (model prog w) A (getAttr? (.ref x) "__class__") Q E s := by
  have hf : findObj K D od "__class__" = some (.bind (.builtin "getset_descriptor.__get__") (.builtin "object.__class__")) := findObj_dataA (by obtain ⟨cd, hc, _⟩ := any_some C.hd; rw [hc]; rfl) C.ha C.hn C.ht
  obtain ⟨hp, g, d, t, os⟩ := s
  have L0 := I.type (M := model prog w)
  have L1 := looks_findIn (M := model prog w) X C.hg
  have L2 := looks_findIn (M := model prog w) X C.hk
  have L3 := looks_find (M := model prog w) X I hf
  have sub : Looks (model prog w) hp (isInstance (.ref x) (.type "BaseException")) true := L0.andThen (looks_subIn X C.hs)
  have hx0 : (false && onTheHeap (Value.builtin "BaseException.__getattribute__")) = false := rfl
  have hx2 : (Value.builtin "BaseException.__getattribute__" == Value.builtin "object.__getattribute__") = false := by decide +kernel
  have hx1 : (onTheHeap (Value.ref D) && Value.builtin "BaseException.__getattribute__" == Value.builtin "object.__getattribute__") = false := by rw [hx2]; rfl
  unfold getAttr? getAttrBy? getAttrBy
  refine wpAny_bind (wpAny_mkText (wpAny_bind (wpAny_attempt (wpAny_holding (wpAny_bind (L0.at (wpAny_bind (L1.at ?_))))))))
  show wpAny _ _ (if (onTheHeap (Value.ref D) && Value.builtin "BaseException.__getattribute__" == Value.builtin "object.__getattribute__") = true then _ else _) _ _ _
  rw [hx1, if_neg Bool.false_ne_true]
  unfold getAttrByItsOwn hookBefore
  refine wpAny_bind ?_
  rw [if_pos (show onTheHeap (Value.ref D) = true from rfl)]
  refine L2.at ?_
  refine wpAny_bind (wpAny_attempt (wpAny_holding ?_))
  unfold callGetattribute
  rw [hx0, if_neg Bool.false_ne_true]
  unfold boundAndCalled
  rw [PySem.F.excAttr_ValueError.ga.bind (.ref x)]
  refine wpAny_bind (wpAny_pure ?_)
  show wpAny _ _ (call (.builtin "BaseException.__getattribute__") [.ref x, .str "__class__" t]) _ _ _
  refine wpAny_call (codeAny_call_builtin PySem.F.excAttr_ValueError.ga.plain PySem.F.entry_bexc_ga ?_)
  refine @check_slot (model prog w) _ _ ⟨hp, g, d, t + 1, os⟩ "BaseException.__getattribute__" "BaseException" "__getattribute__" (.ref x) [.str "__class__" t] [] _ (by decide +kernel) (by decide +kernel) sub (PySem.F.args_bexc_ga (.ref x) (.str "__class__" t)) ?_
  unfold Builtin.«object.__getattribute__»
  refine wpAny_bind (wpAny_of_eq (a := ((Value.ref x : Value), [Value.str "__class__" t])) (by first | rfl | (simp only [slotArgs]; rfl)) ?_)
  refine wpAny_bind (wpAny_pure (wpAny_bind (L0.at (wpAny_bind (L3.at ?_)))))
  show wpAny _ _ (holding [Value.builtin "object.__class__"] (call (.builtin "getset_descriptor.__get__") [.builtin "object.__class__", .ref x, .ref D]) >>= ret) _ _ _
  refine wpAny_bind (wpAny_holding (wpAny_call (class_get (s := ⟨hp, g, d, t + 1, os⟩) (ox := ox) (od := od) X I C.hm ?_)))
  refine wpAny_pure ?_
  show wpAny _ _ (handedOut (.ref D)) _ _ _
  rw [handedOut_of (v := .ref D) rfl]
  first
    | exact wpAny_pure (wpAny_pure h)
    | exact wpAny_pure h
    | exact wpAny_pure (wpAny_bind (wpAny_pure (wpAny_pure h)))
theorem kitx_excA (C : L2.ExcC K D) : KitX K (.ref x) (.ref D) (fun h => W.InstAt h x ox D od) where
  ty := fun _ _ _ I => I.type
  it := fun _ _ X _ => by
    obtain ⟨cdD, hcD, _⟩ := any_some C.hd
    unfold clsIn at hcD
    split at hcD
    · rename_i c' d' cd' sl' ho
      intro A' Q' E' s' k q
      unfold isType loadHead
      exact wpAny_bind (wpAny_loadPart (k _ _ (X _ _ ho)) (wpAny_pure q))
    · cases hcD
  ne := fun h tp dd its n sl X htp => by
    obtain ⟨cdD, hcD, _⟩ := any_some C.hd
    refine Bool.eq_false_iff.mpr fun q => ?_
    have e : D = tp := Value.ref.inj (beq_iff_eq.mp q)
    subst e
    unfold clsIn at hcD
    split at hcD
    · rename_i c' d' cd' sl' ho
      have z := (X _ _ ho).symm.trans htp
      cases z
    · cases hcD
  ca := fun X I k => kin_classA C X I k
end
open L2
/-- the exception's own fields, if it has any -/
def XdAt (H : Hp) (d : Option Addr) : Prop := d = none ∨ ∃ dd fs, d = some dd ∧ H dd = some (.xd fs)
section
variable {X : Cx} {a D : Addr} {oe : Obj} {cls : Value} {d : Option Addr} {pins : List (Addr × Obj)} {s : Shared} {σ : L2.St} {H : Hp}
theorem pin_inst (I : Inv X pins σ H s) (hp : (a, oe) ∈ X.pn) (hz : Zc (.ref D) d oe) (hf : ∃ vs, oe.data = .fields vs) (hd : XdAt H d) : ∃ od, PySem.W.InstAt s.heap a oe D od := by
  obtain ⟨hget, _⟩ := I.pin (a, oe) (List.mem_append.mpr (.inl hp))
  obtain ⟨vs, hv⟩ := hf
  obtain ⟨oc, odd, oda, osl⟩ := oe
  obtain ⟨h1, h2⟩ := hz
  dsimp only at h1 h2 hv
  subst h1 h2 hv
  rcases hd with rfl | ⟨dd, fs, rfl, hdd⟩
  · exact ⟨none, hget, rfl, rfl, trivial⟩
  · have hx : ObjOk X.prog X.w H s.heap dd (.xd fs) := I.hok dd _ hdd
    obtain ⟨mA, hns, _⟩ := hx
    obtain ⟨od, ho, _⟩ := lookIn_ns hns
    exact ⟨some od, hget, rfl, rfl, ho⟩
/-- isinstance(e, C), isinstance(e, (C, ..)), e the exception -/
def rIsP (K : PySem.W.Frag) (a : Addr) (cls : Value) (d : Option Addr) : List V → Hp → VK → Prop := fun xs H Q => ∃ (D : Addr) (c : V) (cv : Value) (b : Bool), cls = .ref D ∧ ExcC K D ∧ XdAt H d ∧ xs = [.ref a, c] ∧ ClsV c cv ∧ PySem.W.kitOne K (.ref D) cv = some b ∧ Q (.bl b) H
def rIsPT (K : PySem.W.Frag) (a : Addr) (cls : Value) (d : Option Addr) : List V → Hp → VK → Prop := fun xs H Q => ∃ (D tp : Addr) (cs : List V) (us : List Value) (b : Bool), cls = .ref D ∧ ExcC K D ∧ XdAt H d ∧ xs = [.ref a, .ref tp] ∧ H tp = some (.tup cs) ∧ Paired ClsV cs us ∧ PySem.W.kitAny K (.ref D) us = some b ∧ Q (.bl b) H
theorem call_isP (K : PySem.W.Frag) (hp : (a, oe) ∈ X.pn) (hz : Zc cls d oe) (hf : ∃ vs, oe.data = .fields vs) (hK : X.K = K := by rfl) : CallR X (.builtin "isinstance") (rIsP K a cls d) := by
  subst hK
  intro pins s σ H xs us Q I r h
  obtain ⟨D, c, cv, b, rfl, C, hd, rfl, k, e, q⟩ := h
  obtain ⟨u1, u2, rfl, r1, r2⟩ := vals2 r
  have e2 := k.eq r2
  subst e2
  cases (show u1 = Value.ref a from r1)
  obtain ⟨od, J⟩ := pin_inst I hp hz hf hd
  exact PySem.W.kia_one (kitx_excA C) I.kIn J e (fun z => nomatch z) fun tk => ⟨.bl b, H, I.kept (t' := tk) fun _ _ z => z, rfl, q⟩
theorem call_isPT (K : PySem.W.Frag) (hp : (a, oe) ∈ X.pn) (hz : Zc cls d oe) (hf : ∃ vs, oe.data = .fields vs) (hK : X.K = K := by rfl) : CallR X (.builtin "isinstance") (rIsPT K a cls d) := by
  subst hK
  intro pins s σ H xs us Q I r h
  obtain ⟨D, tp, cs, ws, b, rfl, C, hd, rfl, hT, k, e, q⟩ := h
  obtain ⟨u1, u2, rfl, r1, r2⟩ := vals2 r
  cases (show u1 = Value.ref a from r1)
  cases (show u2 = Value.ref tp from r2)
  obtain ⟨_, its, rv, o, h1, h2, n, h3⟩ := (show ObjOk X.prog X.w H s.heap tp (.tup cs) from I.hok tp _ hT)
  have e3 := ClsV.all k rv
  subst e3
  obtain ⟨oc, odd, dt, sl⟩ := o
  simp only at h2 h3
  subst h2 h3
  obtain ⟨od, J⟩ := pin_inst I hp hz hf hd
  exact PySem.W.kia_tup (kitx_excA C) I.kIn J h1 e (fun z => nomatch z) fun tk => ⟨.bl b, H, I.kept (t' := tk) fun _ _ z => z, rfl, q⟩
end
abbrev SpP := Addr × Obj → Sp
structure FbP (P : Program) (w : World) (K : PySem.W.Frag) (mg : Str → Option Value) (base : Heap) (k : Nat) (f : Addr) (fd : FuncData) (ps : List Str) (sp : SpP) : Prop where
  len : ∀ p vs H Q E, sp p vs H Q E → vs.length = ps.length
  run : ∀ (A : Around) (outer : List Env) (s : Shared) (H : Hp) (args : Args) (us : List Value) (vs : List V) (Q : VK) (E : XK) (p : Addr × Obj), L2H.RoomH k A → L2H.PinOk outer H s p → Env0 P w K mg base A outer s H → BindsTo s fd args (ps.zip us) → Vals vs us → sp p vs H Q E →
    codeAny (model P w) A (.call (.ref f) args) (CR (L2.CX P w) outer P w H s Q E) s
section
variable {P : Program} {w : World} {K : PySem.W.Frag} {mg : Str → Option Value} {base : Heap} {x qual : Str} {params : Arguments} {body : List Stmt} {scope : Scope} {dvs : List V} {kws : List (Str × V)} {f : Addr} {fd : FuncData} {k : Nat} {ps N : List Str} {sp : SpP}
theorem fbP_of (F : FunD K x qual params body scope dvs kws f fd) (S : FnScope N ps scope) (len : ∀ p vs H Q E, sp p vs H Q E → vs.length = ps.length)
    (hbody : ∀ (cdv : Value) (A : Around) (outer : List Env) (s : Shared) (H : Hp) (vs : List V) (Q : VK) (E : XK) (p : Addr × Obj), L2H.RoomH k (A.deeper (envOfC qual scope s.heap.objs.size f cdv)) → sp p vs H Q E →
      ∃ t, PSs (L2H.cxH (L2.CX P w) P w K mg base N qual scope f cdv A outer s H E p) body t ∧ t { nx := fun _ H' => Q .non H', rt := Q } (L2.start N vs) H) : FbP P w K mg base (k + 1) f fd ps sp := by
  obtain ⟨oc, od, dV, kV, doc, pm, an, cdv, ct, osl, rfl, lk, hcd, _, _⟩ := F.ex
  refine ⟨len, fun A outer s H args us vs Q E p hr hpin e0 hb r hsp => ?_⟩
  have hl := len _ _ _ _ _ hsp
  have KX : K.In s.heap := e0.mod.kin.keeps fun b o e => (e0.bs b o e).1
  have lim : s.heap.NoLimit := e0.mod.nolimit.keeps fun b o e => (e0.bs b o e).1
  have hkind : ∀ y ∈ ps.zip us, scope.names.lookup y.1 = some .local ∨ (scope.names.lookup y.1 = some .cell ∧ ((cellsFrom (s.heap.objs.size + 1) scope.names []).lookup y.1).isSome = true) := fun ⟨n, v⟩ hy => by
    rcases S.par n (List.of_mem_zip hy).1 with q | q
    · exact .inl q
    · exact .inr ⟨q, PySem.W.cellsFrom_some _ _ _ (.inl q)⟩
  refine codeAny_call_function hr.depth (KX _ _ lk) rfl S.co S.gen rfl (PySem.W.codeRec_of KX hcd) (hb _ _ _ _ ?_)
  refine wpAny_newFunctionEnv_cells S.kind hkind fun env he s1 x => ?_
  subst he
  refine ⟨lim.keeps x.toInCall.keep, codeAny_func ?_⟩
  obtain ⟨t, ht, hq⟩ := hbody cdv A outer s H vs Q E p (hr.deeper _) hsp
  have I : Inv (L2H.cxH (L2.CX P w) P w K mg base N qual scope f cdv A outer s H E p) [] (L2.start N vs) H s1 := L2H.inv_startH S hpin e0 hl r x
  refine wpAny_mono (ht.run [] s1 (L2.start N vs) H _ I hq) (fun fl s' hs => ?_) fun e s' hs => hs
  have fin : ∀ {σ' : L2.St} {H' : Hp} {v : V} {u : Value}, Inv (L2H.cxH (L2.CX P w) P w K mg base N qual scope f cdv A outer s H E p) [] σ' H' s' → RelV v u → Q v H' → CE outer P w H s Q u s' :=
    fun {σ' H' v u} J rv q => ⟨v, H', J.os, J.bare, J.base, J.hok, rv, q⟩
  cases fl with
  | ret u =>
    obtain ⟨v, σ', H', J, rv, q⟩ := hs
    exact fin J rv q
  | next =>
    obtain ⟨σ', H', J, q⟩ := hs
    exact fin (v := V.non) (u := Value.none) J rfl q
  | brk =>
    obtain ⟨_, _, _, q⟩ := hs
    exact False.elim q
  | cont =>
    obtain ⟨_, _, _, q⟩ := hs
    exact False.elim q
/-- such a def called with all parameters by place -/
def FcP (P : Program) (w : World) (K : PySem.W.Frag) (mg : Str → Option Value) (base : Heap) (k : Nat) (f : Addr) (sp : SpP) : Prop :=
  ∀ (A : Around) (outer : List Env) (s : Shared) (H : Hp) (us : List Value) (vs : List V) (Q : VK) (E : XK) (p : Addr × Obj), L2H.RoomH k A → L2H.PinOk outer H s p → Env0 P w K mg base A outer s H → Vals vs us → sp p vs H Q E →
    codeAny (model P w) A (.call (.ref f) ⟨us, []⟩) (CR (L2.CX P w) outer P w H s Q E) s
theorem FcP.mono {j : Nat} (F : FcP P w K mg base j f sp) (h : j ≤ k) : FcP P w K mg base k f sp := fun A outer s H us vs Q E p hr => F A outer s H us vs Q E p (hr.mono h)
theorem FbP.all (F : FbP P w K mg base k f fd ps sp) (hb : Binds K fd ps []) : FcP P w K mg base k f sp := fun A outer s H us vs Q E p hr hp e0 r h => by
  have KX : K.In s.heap := e0.mod.kin.keeps fun b o e => (e0.bs b o e).1
  have l2 : us.length = ps.length := by rw [← r.length]; exact F.len _ _ _ _ _ h
  have b := hb s us KX (by rw [List.append_nil]; exact l2)
  rw [List.append_nil] at b
  exact F.run A outer s H ⟨us, []⟩ us vs Q E p hr hp e0 b r h
end
theorem roomM {k : Nat} {A : Around} {v : Option Value} (r : Rm k A) : L2H.RoomH k (A.mark v) := ⟨r.rm.dp, r.rm.un⟩
/-- the caught exception handed to a def -/
def tFcP (a : Addr) (cls : Value) (d : Option Addr) (sp : SpP) (W : WX) (t : TA) : TE := fun σ H Q => t σ H fun vs H1 => ∀ oe : Obj, Zc cls d oe → (∃ vs, oe.data = .fields vs) → sp (a, oe) vs H1 Q (WE W σ)
section
variable {X : Cx} {k : Nat} {f : Addr} {sp : SpP} {W : WX} {x : Str} {p pos : Pos} {e : Expr} {es : List Expr} {t : TA} {a : Addr} {oe : Obj} {cls : Value} {d : Option Addr}
theorem c_callP (F : FcP X.prog X.w X.K X.mg X.base k f sp) (hr : L2H.RoomH k X.A) (hp : (a, oe) ∈ X.pn) (hz : Zc cls d oe) (hf : ∃ vs, oe.data = .fields vs) (hm : X.mg x = some (.ref f)) (hk : PySem.W.keepIn X.K (.ref f) = true) (hx : Takes X W)
    (ha : PA X (e :: es) t) (hg : Gl X x := by rfl) (hdb : (x == ("__debug__" : Str)) = false := by decide) (he : starEach (e :: es) X.env = (false, eval e X.env) :: starEach es X.env := by rfl) (hpl : (backTo pos (starEach es X.env)).any (·.1) = false := by rfl) :
    PE X (.Call (.Name x p) (e :: es) [] pos) (tFcP a cls d sp W t) := by
  refine ⟨fun pins s σ H Q I h => ?_⟩
  refine wpAny_Call_Name_kw (ld_glob I hg hm ?_ hdb)
  refine PySem.W.callWith_K (h₀ := X.base) I.ok.mod.kin hk (thn (ha.run pos pins s σ H _ I h) fun us s1 ⟨vs, H1, I1, r, q⟩ => ⟨I1.kIn, ?_⟩) he hpl
  have P1 := I1.pin (a, oe) (List.mem_append_left _ hp)
  have hpin : L2H.PinOk X.stack H1 s1 (a, oe) := ⟨P1.1, P1.2.1, fun hm => (List.mem_cons.mp (I1.stkSub a hm)).elim P1.2.2.1 P1.2.2.2.1, P1.2.2.2.2⟩
  refine wpAny_call (codeAny_mono (F X.A X.stack s1 H1 us vs Q (WE W σ) (a, oe) hr hpin I1.env0 r (q oe hz hf)) fun r s' hq => ?_)
  cases r with
  | error e => exact passAt hx σ pins H1 s1 e s' I1 hq
  | ok fl =>
    cases fl with
    | ret u => exact I1.after hq
    | next => exact False.elim hq
    | brk => exact False.elim hq
    | cont => exact False.elim hq
end
end L3
set_option Elab.async false
set_option linter.all false
set_option maxRecDepth 100000
set_option maxHeartbeats 4000000
namespace L3
open PySem PySem.Spec PyProof.Rows L2 PySem.SeqAt PySem.Calls
/-- a class without an == of its own -/
structure NoEq (K : PySem.W.Frag) (C : Addr) : Prop where
  nb : NoBase K C
  eq : PySem.W.findIn K (.ref C) "__eq__" = some (some (.builtin "object.__eq__"))
def noEqF (x : Str) : Fx := fun K => noBaseF x K && He.eqO (PySem.W.findIn K (.ref (He.ga K x)) "__eq__") (some (some (.builtin "object.__eq__")))
theorem noEq_of {x : Str} {K : PySem.W.Frag} (h : noEqF x K = true) : NoEq K (He.ga K x) := let ⟨h1, h2⟩ := He.ba h; ⟨noBase_of h1, He.eqO_ok h2⟩
section
variable {prog : Program} {w : World} {A : Around} {E : Value → Shared → Prop} {s : Shared} {K : PySem.W.Frag} {x C dx : Addr} {ox : Obj} {od : Option Obj} {v : Value}
/-- isSame answers False -/
abbrev NSame (s : Shared) (u v : Value) : Prop := ∀ (M : Model) (A : Around) (E : Value → Shared → Prop) (Q : Bool → Shared → Prop), Q false s → wpAny M A (isSame u v) Q E s
theorem objEq_no {Q : Fin → Shared → Prop} (n : NSame s (.ref x) v) (hq : Q (.done (.ret .notImplemented)) s) : wpAny (model prog w) A (Builtin.«object.__eq__» ⟨[.ref x, v], []⟩) Q E s := by
  unfold Builtin.«object.__eq__»
  repeat (first | with_reducible refine n _ _ _ _ ?_ | wp_step)
  exact hq
theorem call_objEq_no {Q : Value → Shared → Prop} (X : K.In s.heap) (I : PySem.W.InstAt s.heap x ox C od) (nq : NoEq K C) (n : NSame s (.ref x) v) (hq : Q .notImplemented s) : wpAny (model prog w) A (call (.builtin "object.__eq__") [.ref x, v]) Q E s :=
  wpAny_call (codeAny_call_builtin F.cmp_object.eq.plain F.cmpEntry_eq (PySem.W.check_slot F.cmpKind_eq F.cmpSplit_eq (I.type.andThen (PySem.W.looks_mroIn X nq.nb.ob)) (F.cmpArgs_eq _ _) (objEq_no n hq)))
/-- the instance's == declines -/
theorem try_no {Q : Option Value → Shared → Prop} (X : K.In s.heap) (I : PySem.W.InstAt s.heap x ox C od) (nq : NoEq K C) (n : NSame s (.ref x) v) (hq : Q none s) : wpAny (model prog w) A (tryCompare (.ref x) "__eq__" v) Q E s := by
  unfold tryCompare
  exact wpAny_bind (HN.ifBound_objEq X I nq.eq (call_objEq_no X I nq n (wpAny_pure hq)))
theorem sub_base {T : String} (h : ((fastBuiltinMro T).map fun l => l.any fun v => match v with | .ref _ => true | _ => false) = some false) : PySem.W.subIn K (.type T) (.ref C) = some false := by
  show (fastBuiltinMro T).map (·.contains (.ref C)) = some false
  cases e : fastBuiltinMro T with
  | none => rw [e] at h; cases h
  | some l =>
    rw [e] at h
    have h2 : (l.any fun v => match v with | .ref _ => true | _ => false) = false := Option.some.inj h
    show some (l.contains (.ref C)) = some false
    congr 1
    rw [List.contains_eq_any_beq]
    refine Bool.eq_false_iff.mpr fun z => ?_
    obtain ⟨y, hy, e2⟩ := List.any_eq_true.mp z
    have e3 : Value.ref C = y := eq_of_beq e2
    subst e3
    exact absurd (List.any_eq_true.mpr ⟨_, hy, rfl⟩) (by rw [h2]; decide)
theorem nsame_non (s : Shared) (x : Addr) : NSame s (.ref x) .none ∧ NSame s .none (.ref x) := ⟨fun M A E Q h => wpAny_of_eq (rfl : isSame (.ref x) .none = pure false) h, fun M A E Q h => wpAny_of_eq (rfl : isSame .none (.ref x) = pure false) h⟩
theorem nsame_bl (s : Shared) (x : Addr) (b : Bool) : NSame s (.ref x) (.bool b) ∧ NSame s (.bool b) (.ref x) := ⟨fun M A E Q h => wpAny_of_eq (rfl : isSame (.ref x) (.bool b) = pure false) h, fun M A E Q h => wpAny_of_eq (rfl : isSame (.bool b) (.ref x) = pure false) h⟩
theorem nsame_int (s : Shared) (x : Addr) (i : Int) (t : Tok) : NSame s (.ref x) (.int i t) ∧ NSame s (.int i t) (.ref x) := ⟨fun M A E Q h => wpAny_of_eq (rfl : isSame (.ref x) (.int i t) = pure false) h, fun M A E Q h => wpAny_of_eq (rfl : isSame (.int i t) (.ref x) = pure false) h⟩
theorem nsame_str (s : Shared) (x : Addr) (i : Str) (t : Tok) : NSame s (.ref x) (.str i t) ∧ NSame s (.str i t) (.ref x) := ⟨fun M A E Q h => wpAny_of_eq (rfl : isSame (.ref x) (.str i t) = pure false) h, fun M A E Q h => wpAny_of_eq (rfl : isSame (.str i t) (.ref x) = pure false) h⟩
theorem nsame_ref {x y : Addr} {ox oy : Obj} (ne : x ≠ y) (hx : s.heap.get? x = some ox) (hy : s.heap.get? y = some oy) (h : ox.cls ≠ .type "tuple" ∨ oy.cls ≠ .type "tuple") : NSame s (.ref x) (.ref y) := fun M A E Q q => by
  rcases h with h | h
  · exact wpAny_isSame_ref_other ne hx hy h q
  · exact wpAny_isSame_ref_other' ne hx hy h q
end
section
variable {X : Cx} {k : Nat} {f C D : Addr} {sp : Sp} {pins : List (Addr × Obj)} {σ : L2.St} {H : Hp} {s : Shared}
/-- a value that declines, looked at from all sides -/
structure DecAt (K : PySem.W.Frag) (C : Addr) (s : Shared) (x : Addr) (u : Value) (T : String) : Prop where
  ty : s.TypeIs u T
  one : oneThing? .Eq u (.ref x) = none
  mro : PySem.W.mroIn K C (.type T) = some false
  sub : PySem.W.subIn K (.type T) (.ref C) = some false
  nl : NSame s u (.ref x)
  nr : NSame s (.ref x) u
  ne : (u == Value.ref x) = false
  try_ : ∀ (prog : Program) (w : World) (A : Around) (E : Value → Shared → Prop) (Q' : Option Value → Shared → Prop), Q' none s → wpAny (model prog w) A (tryCompare u "__eq__" (.ref x)) Q' E s
theorem dec_at {x dx : Addr} {od : Option Obj} {z : V} {u : Value} (I : Inv X pins σ H s) (r : RelV z u) (d : Dec X.K H z) (J : PySem.W.InstAt s.heap x (PySem.W.instObj C dx) C od) (nb : NoBase X.K C) : ∃ T, DecAt X.K C s x u T := by
  have nt : (PySem.W.instObj C dx).cls ≠ .type "tuple" := fun e => by
    have := J.cls
    rw [e] at this
    cases this
  cases d with
  | non =>
    cases (show u = Value.none from r)
    exact ⟨"NoneType", rfl, rfl, nb.non, sub_base (by decide +kernel), (nsame_non s x).2, (nsame_non s x).1, rfl, fun prog w A E Q' h => wpAny_tryCompare_declines (show s.TypeIs .none "NoneType" from rfl) F.slot_NoneType_eq (call_gives F.slot_NoneType_eq rfl F.entry_NoneType_eq (F.args_NoneType_eq_2 _ _) (NoneType___eq___none_ref_0 x) ⟨rfl, h⟩)⟩
  | bl b =>
    cases (show u = Value.bool b from r)
    exact ⟨"bool", rfl, rfl, nb.bl, sub_base (by decide +kernel), (nsame_bl s x b).2, (nsame_bl s x b).1, rfl, fun prog w A E Q' h => wpAny_tryCompare_declines (show s.TypeIs (.bool b) "bool" from rfl) F.slot_bool_eq (call_meets F.slot_bool_eq rfl F.entry_int_eq (F.args_int_eq_2 _ _) (bool_dec_ins b x C dx) ⟨J.at_, rfl, h⟩)⟩
  | int i =>
    obtain ⟨t, e⟩ := (show ∃ t, u = Value.int i t from r)
    cases e
    exact ⟨"int", typeIs_int s i t, rfl, nb.int, sub_base (by decide +kernel), (nsame_int s x i t).2, (nsame_int s x i t).1, rfl, fun prog w A E Q' h => wpAny_tryCompare_declines (typeIs_int s i t) F.slot_int_eq (call_meets F.slot_int_eq (typeIs_int s i t) F.entry_int_eq (F.args_int_eq_2 _ _) (int_dec_ins i t x C dx) ⟨J.at_, rfl, h⟩)⟩
  | str z =>
    obtain ⟨t, e⟩ := (show ∃ t, u = Value.str z t from r)
    cases e
    exact ⟨"str", typeIs_str s z t, rfl, nb.str, sub_base (by decide +kernel), (nsame_str s x z t).2, (nsame_str s x z t).1, rfl, fun prog w A E Q' h => wpAny_tryCompare_declines (typeIs_str s z t) F.slot_str_eq (call_meets F.slot_str_eq (typeIs_str s z t) F.entry_str_eq (F.args_str_eq_2 _ _) (str_dec_ins z t x C dx) ⟨J.at_, rfl, h⟩)⟩
  | @lst a xs e =>
    cases (show u = Value.ref a from r)
    obtain ⟨its, rl, pl, hz⟩ := I.list e
    obtain ⟨o, n, ho, hc, _⟩ := pl
    have hT : s.TypeIs (.ref a) "list" := ⟨_, ho, hc⟩
    have ne : a ≠ x := fun z => by
      rw [z, J.at_] at ho
      cases ho
      cases J.cls.symm.trans hc
    exact ⟨"list", hT, oneThing_ref _ _ _, nb.lst, sub_base (by decide +kernel), nsame_ref ne ho J.at_ (.inr nt), nsame_ref (Ne.symm ne) J.at_ ho (.inl nt), beq_eq_false_iff_ne.mpr fun z => ne (Value.ref.inj z), fun prog w A E Q' h => wpAny_tryCompare_declines hT F.slot_list_eq (wpAny_call_entry F.slot_list_eq hT F.entry_list_eq (list_dec_ins a I.kIn J nb.lst ⟨_, rfl, rfl, h⟩) (F.args_list_eq_2 _ _))⟩
  | @tup a xs e =>
    cases (show u = Value.ref a from r)
    obtain ⟨its, rl, ⟨o, ho, hc, n, d⟩, hz⟩ := I.tuple e
    have hT : s.TypeIs (.ref a) "tuple" := ⟨_, ho, hc⟩
    have ne : a ≠ x := fun z => by
      rw [z, J.at_] at ho
      cases ho
      cases J.cls.symm.trans hc
    exact ⟨"tuple", hT, oneThing_ref _ _ _, nb.tup, sub_base (by decide +kernel), nsame_ref ne ho J.at_ (.inr nt), nsame_ref (Ne.symm ne) J.at_ ho (.inl nt), beq_eq_false_iff_ne.mpr fun z => ne (Value.ref.inj z), fun prog w A E Q' h => wpAny_tryCompare_declines hT F.slot_tuple_eq (wpAny_call_entry F.slot_tuple_eq hT F.entry_tuple_eq (tuple_dec_ins a I.kIn J nb.tup ⟨_, rfl, rfl, h⟩) (F.args_tuple_eq_2 _ _))⟩
  | @dK a kvs e =>
    cases (show u = Value.ref a from r)
    have hT : s.TypeIs (.ref a) "dict" := by
      obtain ⟨_, _, vs, _, hD⟩ := (show ObjOk _ _ H s.heap a (.dK kvs) from I.hok a _ e)
      exact hD.typeIs
    obtain ⟨o, ho, hc⟩ := id hT
    have ne : a ≠ x := fun z => by
      rw [z, J.at_] at ho
      cases ho
      cases J.cls.symm.trans hc
    exact ⟨"dict", hT, oneThing_ref _ _ _, nb.dct, sub_base (by decide +kernel), nsame_ref ne ho J.at_ (.inr nt), nsame_ref (Ne.symm ne) J.at_ ho (.inl nt), beq_eq_false_iff_ne.mpr fun z => ne (Value.ref.inj z), fun prog w A E Q' h => wpAny_tryCompare_declines hT F.slot_dict_eq (wpAny_call_entry F.slot_dict_eq hT F.entry_dict_eq (dict_dec_ins a hT I.kIn J nb.dct ⟨_, rfl, rfl, h⟩) (F.args_dict_eq_2 _ _))⟩
theorem rc_dL {A : Around} {K : PySem.W.Frag} {x dx : Addr} {od : Option Obj} {u : Value} {T : String} (hu : A.units < cLine) (KX : K.In s.heap) (J : PySem.W.InstAt s.heap x (PySem.W.instObj C dx) C od) (nq : NoEq K C) (d : DecAt K C s x u T) : RcAt A s (.ref x) u false := fun prog w E Q h => by
  simp only [richCompare, cmpInfo_Eq, oneThing_ref]
  refine wpAny_holding (wpAny_bind (wpAny_cRoomFor hu ?_))
  refine wpAny_bind (J.type.here (wpAny_bind (wpAny_typeOf d.ty ?_)))
  split
  · refine wpAny_bind ((PySem.W.looks_subIn KX d.sub).here ?_)
    simp only [Bool.false_eq_true, if_false, Bool.not_false, if_true]
    refine wpAny_bind (m := tryCompare (.ref x) _ u) (try_no KX J nq d.nr ?_)
    refine wpAny_bind (m := tryCompare u _ (.ref x)) (d.try_ _ _ _ _ _ ?_)
    exact wpAny_bind (wpAny_rule (wpAny_bind (d.nr _ _ _ _ (wpAny_pure h))))
  · rename_i q
    exact absurd (by simp) q
theorem rc_dR {A : Around} {K : PySem.W.Frag} {x dx : Addr} {od : Option Obj} {u : Value} {T : String} (hu : A.units < cLine) (KX : K.In s.heap) (J : PySem.W.InstAt s.heap x (PySem.W.instObj C dx) C od) (nq : NoEq K C) (d : DecAt K C s x u T) : RcAt A s u (.ref x) false := fun prog w E Q h => by
  simp only [richCompare, cmpInfo_Eq, d.one]
  refine wpAny_holding (wpAny_bind (wpAny_cRoomFor hu ?_))
  refine wpAny_bind (wpAny_typeOf d.ty (wpAny_bind (J.type.here ?_)))
  split
  · refine wpAny_bind ((PySem.W.looks_mroIn KX d.mro).here ?_)
    simp only [Bool.false_eq_true, if_false, Bool.not_false, if_true]
    refine wpAny_bind (m := tryCompare u _ (.ref x)) (d.try_ _ _ _ _ _ ?_)
    refine wpAny_bind (m := tryCompare (.ref x) _ u) (try_no KX J nq d.nr ?_)
    exact wpAny_bind (wpAny_rule (wpAny_bind (d.nl _ _ _ _ (wpAny_pure h))))
  · rename_i q
    exact absurd (by simp) q
/-- two instances -/
theorem rc_II {A : Around} {K : PySem.W.Frag} {x y dx dy : Addr} {od oe : Option Obj} (hu : A.units < cLine) (KX : K.In s.heap) (J : PySem.W.InstAt s.heap x (PySem.W.instObj C dx) C od) (L : PySem.W.InstAt s.heap y (PySem.W.instObj D dy) D oe) (nq : NoEq K C) (nr : NoEq K D) (ne : x ≠ y) (hn : NoSub K C (.ref D)) : RcAt A s (.ref x) (.ref y) false := fun prog w E Q h => by
  have n1 : NSame s (.ref x) (.ref y) := nsame_ref ne J.at_ L.at_ (.inl fun e => by have := J.cls; rw [e] at this; cases this)
  have n2 : NSame s (.ref y) (.ref x) := nsame_ref (Ne.symm ne) L.at_ J.at_ (.inl fun e => by have := L.cls; rw [e] at this; cases this)
  simp only [richCompare, cmpInfo_Eq, oneThing_ref]
  refine wpAny_holding (wpAny_bind (wpAny_cRoomFor hu ?_))
  refine wpAny_bind (J.type.here (wpAny_bind (L.type.here ?_)))
  split
  · rename_i q
    refine wpAny_bind ((noSub_look hn KX q).here ?_)
    simp only [Bool.false_eq_true, if_false, Bool.not_false, if_true]
    refine wpAny_bind (m := tryCompare (.ref x) _ (.ref y)) (try_no KX J nq n1 ?_)
    refine wpAny_bind (m := tryCompare (.ref y) _ (.ref x)) (try_no KX L nr n2 ?_)
    exact wpAny_bind (wpAny_rule (wpAny_bind (n1 _ _ _ _ (wpAny_pure h))))
  · refine wpAny_bind (wpAny_pure ?_)
    simp only [Bool.false_eq_true, if_false, Bool.not_false, if_true]
    refine wpAny_bind (m := tryCompare (.ref x) _ (.ref y)) (try_no KX J nq n1 ?_)
    refine wpAny_bind (m := tryCompare (.ref y) _ (.ref x)) (try_no KX L nr n2 ?_)
    exact wpAny_bind (wpAny_rule (wpAny_bind (n1 _ _ _ _ (wpAny_pure h))))
theorem eqAt_rc {A : Around} {u v : Value} (ne : (u == v) = false) (h : RcAt A s u v false) (hr : (∃ a, v = .ref a) ∨ ∃ a, u = .ref a) : EqAt A s u v false := fun prog w E Q q => by
  unfold eqBool
  refine wpAny_holding ?_
  refine wpAny_ite_split (fun hab => absurd hab (by rw [ne]; decide)) (fun _ => ?_)
  have fin : wpAny (model prog w) A (richCompare .Eq u v >>= fun v => truthOfDropped v) Q E s := wpAny_bind (h prog w E _ (wpAny_truthy_bool q))
  rcases hr with ⟨a, rfl⟩ | ⟨a, rfl⟩
  · cases u <;> exact fin
  · cases v <;> exact fin
end
end L3
set_option Elab.async false
set_option linter.all false
set_option maxRecDepth 100000
set_option maxHeartbeats 4000000
namespace L3
open PySem PySem.Spec PyProof.Rows L2 PySem.SeqAt PySem.Calls
/-- two values whose == answers False and runs no code of ours -/
inductive PureNe (K : PySem.W.Frag) (H : Hp) : V → V → Prop where
  | L {a C dx : Addr} {fs : List (Str × V)} {y : V} (ha : H a = some (.ins C dx fs)) (nq : NoEq K C) (d : Dec K H y) : PureNe K H (.ref a) y
  | R {a C dx : Addr} {fs : List (Str × V)} {y : V} (ha : H a = some (.ins C dx fs)) (nq : NoEq K C) (d : Dec K H y) : PureNe K H y (.ref a)
  | I {a b C D dx dy : Addr} {fs gs : List (Str × V)} (ha : H a = some (.ins C dx fs)) (hb : H b = some (.ins D dy gs)) (nq : NoEq K C) (nr : NoEq K D) (ne : a ≠ b) (hn : NoSub K C (.ref D)) : PureNe K H (.ref a) (.ref b)
  | LF {a : Addr} {xs : List V} {y : V} (ha : SqL K H a xs) (f : flatV y = true) : PureNe K H (.ref a) y
  | FL {a : Addr} {xs : List V} {y : V} (ha : SqL K H a xs) (f : flatV y = true) : PureNe K H y (.ref a)
  | TF {a : Addr} {xs : List V} {y : V} (ha : SqT K H a xs) (f : flatV y = true) : PureNe K H (.ref a) y
  | FT {a : Addr} {xs : List V} {y : V} (ha : SqT K H a xs) (f : flatV y = true) : PureNe K H y (.ref a)
  | DF {a : Addr} {kvs : List (Key × V)} {y : V} (ha : H a = some (.dK kvs)) (f : flatV y = true) : PureNe K H (.ref a) y
  | FD {a : Addr} {kvs : List (Key × V)} {y : V} (ha : H a = some (.dK kvs)) (f : flatV y = true) : PureNe K H y (.ref a)
section
variable {prog : Program} {w : World} {A : Around} {E : Value → Shared → Prop} {s : Shared} {d : Addr}
theorem dict_eq_no {v : Value} {T : String} (hT : s.TypeIs (.ref d) "dict") (hv : s.TypeIs v T) (hs : isSubtype (.type T) (.type "dict") = pure false) {Q : Value → Shared → Prop} (h : Q .notImplemented s) : wpAny (model prog w) A (call (.builtin "dict.__eq__") [.ref d, v]) Q E s := by
  refine wpAny_call_entry F.slot_dict_eq hT F.entry_dict_eq ?_ (F.args_dict_eq_2 _ _)
  show wpAny _ _ (Builtin.Dict.dictSlotArgs "__eq__" ⟨[.ref d, v], []⟩ >>= _) _ _ s
  refine wpAny_bind ?_
  unfold Builtin.Dict.dictSlotArgs
  refine wpAny_bind (wpAny_notOrdered_dict hT ?_)
  show wpAny _ _ (pure (Value.ref d, v)) _ _ s
  refine wpAny_pure ?_
  have ni : ∀ {M : Model} {A : Around} {E : Value → Shared → Prop} {Q : Bool → Shared → Prop}, Q false s → wpAny M A (isInstance v (.type "dict")) Q E s := fun {M A E Q} q => by
    unfold isInstance
    exact wpAny_bind (wpAny_typeOf hv (wpAny_of_eq hs q))
  refine wpAny_bind (ni ?_)
  simp only [Bool.not_false, if_true]
  refine wpAny_bind (wpAny_rule ?_)
  exact wpAny_pure ⟨_, rfl, h⟩
theorem int_dict_no (b : Int) (u : Tok) (l : Addr) : Meets (Builtin.«int.__eq__» ⟨[.int b u, .ref l], []⟩) (fun _ R s => (∃ o es ep, s.heap.get? l = some o ∧ o.cls = .type "dict" ∧ o.data = .dict es ep) ∧ R (.ok (.ret .notImplemented)) s) :=
  .of_wp fun prog w A R s h => by
    obtain ⟨hp, g, d, tk, os⟩ := s
    obtain ⟨⟨⟨oc, od, oda, osl⟩, es, ep, hl, hc, hd⟩, h⟩ := h
    simp only at hc hd
    subst hc hd
    wp_walk using wpAny_loadPart' hl, wpAny_load hl
    exact ⟨_, rfl, h⟩
theorem bool_dict_no (b : Bool) (l : Addr) : Meets (Builtin.«int.__eq__» ⟨[.bool b, .ref l], []⟩) (fun _ R s => (∃ o es ep, s.heap.get? l = some o ∧ o.cls = .type "dict" ∧ o.data = .dict es ep) ∧ R (.ok (.ret .notImplemented)) s) :=
  .of_wp fun prog w A R s h => by
    obtain ⟨hp, g, d, tk, os⟩ := s
    obtain ⟨⟨⟨oc, od, oda, osl⟩, es, ep, hl, hc, hd⟩, h⟩ := h
    simp only at hc hd
    subst hc hd
    wp_walk using wpAny_loadPart' hl, wpAny_load hl
    exact ⟨_, rfl, h⟩
theorem str_dict_no (b : Str) (u : Tok) (l : Addr) : Meets (Builtin.«str.__eq__» ⟨[.str b u, .ref l], []⟩) (fun _ R s => (∃ o es ep, s.heap.get? l = some o ∧ o.cls = .type "dict" ∧ o.data = .dict es ep) ∧ R (.ok (.ret .notImplemented)) s) :=
  .of_wp fun prog w A R s h => by
    obtain ⟨hp, g, d, tk, os⟩ := s
    obtain ⟨⟨⟨oc, od, oda, osl⟩, es, ep, hl, hc, hd⟩, h⟩ := h
    simp only at hc hd
    subst hc hd
    wp_walk using wpAny_loadPart' hl, wpAny_load hl
    exact ⟨_, rfl, h⟩
end
section
variable {X : Cx} {k : Nat} {f C D : Addr} {sp : Sp} {pins : List (Addr × Obj)} {σ : L2.St} {H : Hp} {s : Shared}
theorem flat_ne {y : V} {u : Value} {a : Addr} (r : RelV y u) (h : flatV y = true) : (u == Value.ref a) = false ∧ (Value.ref a == u) = false := by
  cases y with
  | non => cases (show u = Value.none from r); exact ⟨rfl, rfl⟩
  | bl b => cases (show u = Value.bool b from r); exact ⟨rfl, rfl⟩
  | int i => obtain ⟨t, rfl⟩ := (show ∃ t, u = Value.int i t from r); exact ⟨rfl, rfl⟩
  | str z => obtain ⟨t, rfl⟩ := (show ∃ t, u = Value.str z t from r); exact ⟨rfl, rfl⟩
  | _ => cases h
theorem rc_seqF {A : Around} {y : V} {u : Value} {a : Addr} {its : Array Value} (hu : A.units < cLine) (r : RelV y u) (h : flatV y = true) (hl : s.heap.IsList a its) : RcAt A s (.ref a) u false ∧ RcAt A s u (.ref a) false := by
  cases y with
  | non => cases (show u = Value.none from r); exact ⟨.list_none hl hu, .none_list hl hu⟩
  | bl b => cases (show u = Value.bool b from r); exact ⟨.list_bool b hl hu, .bool_list b hl hu⟩
  | int i => obtain ⟨t, rfl⟩ := (show ∃ t, u = Value.int i t from r); exact ⟨.list_int i t hl hu, .int_list i t hl hu⟩
  | str z => obtain ⟨t, rfl⟩ := (show ∃ t, u = Value.str z t from r); exact ⟨.list_str z t hl hu, .str_list z t hl hu⟩
  | _ => cases h
theorem rc_tupF {A : Around} {y : V} {u : Value} {a : Addr} {its : Array Value} (hu : A.units < cLine) (r : RelV y u) (h : flatV y = true) (hl : s.heap.IsTuple a its) : RcAt A s (.ref a) u false ∧ RcAt A s u (.ref a) false := by
  cases y with
  | non => cases (show u = Value.none from r); exact ⟨.tuple_none hl hu, .none_tuple hl hu⟩
  | bl b => cases (show u = Value.bool b from r); exact ⟨.tuple_bool b hl hu, .bool_tuple b hl hu⟩
  | int i => obtain ⟨t, rfl⟩ := (show ∃ t, u = Value.int i t from r); exact ⟨.tuple_int i t hl hu, .int_tuple i t hl hu⟩
  | str z => obtain ⟨t, rfl⟩ := (show ∃ t, u = Value.str z t from r); exact ⟨.tuple_str z t hl hu, .str_tuple z t hl hu⟩
  | _ => cases h
theorem rc_dctF {A : Around} {y : V} {u : Value} {a : Addr} (hu : A.units < cLine) (r : RelV y u) (h : flatV y = true) (ho : ∃ o es ep, s.heap.get? a = some o ∧ o.cls = .type "dict" ∧ o.data = .dict es ep) : RcAt A s (.ref a) u false ∧ RcAt A s u (.ref a) false := by
  have hT : s.TypeIs (.ref a) "dict" := let ⟨o, _, _, h1, h2, _⟩ := ho; ⟨o, h1, h2⟩
  cases y with
  | non =>
    cases (show u = Value.none from r)
    have hN : s.TypeIs .none "NoneType" := rfl
    have c1 : ∀ {prog : Program} {w : World} {E : Value → Shared → Prop} (Q' : Value → Shared → Prop), Q' .notImplemented s → wpAny (model prog w) A (call (.builtin "NoneType.__eq__") [.none, .ref a]) Q' E s := fun {prog w E} Q' q => call_gives F.slot_NoneType_eq rfl F.entry_NoneType_eq (F.args_NoneType_eq_2 _ _) (NoneType___eq___none_ref_0 a) q
    exact ⟨fun prog w E Q q => rc_eq_decline_or (k := false) hT hN (by decide) F.sub_NoneType_dict F.slot_dict_eq F.slot_NoneType_eq_refl (fun _ hq => dict_eq_no hT hN F.sub_NoneType_dict hq) (fun _ hq => c1 _ hq) (fun _ hq => wpAny_of_eq (rfl : isSame (.ref a) .none = pure false) hq) (.inr hu) q,
      fun prog w E Q q => rc_eq_decline_or (k := false) hN hT (by decide) F.sub_dict_NoneType F.slot_NoneType_eq F.slot_dict_eq_refl (fun _ hq => c1 _ hq) (fun _ hq => dict_eq_no hT hN F.sub_NoneType_dict hq) (fun _ hq => wpAny_of_eq (rfl : isSame .none (.ref a) = pure false) hq) (.inr hu) q⟩
  | bl b =>
    cases (show u = Value.bool b from r)
    have hN : s.TypeIs (.bool b) "bool" := rfl
    have c1 : ∀ {prog : Program} {w : World} {E : Value → Shared → Prop} (Q' : Value → Shared → Prop), Q' .notImplemented s → wpAny (model prog w) A (call (.builtin "int.__eq__") [.bool b, .ref a]) Q' E s := fun {prog w E} Q' q => call_meets F.slot_bool_eq hN F.entry_int_eq (F.args_int_eq_2 _ _) (bool_dict_no b a) ⟨ho, q⟩
    exact ⟨fun prog w E Q q => rc_eq_decline_or (k := false) hT hN (by decide) F.sub_bool_dict F.slot_dict_eq F.slot_bool_eq_refl (fun _ hq => dict_eq_no hT hN F.sub_bool_dict hq) (fun _ hq => c1 _ hq) (fun _ hq => wpAny_of_eq (rfl : isSame (.ref a) (.bool b) = pure false) hq) (.inr hu) q,
      fun prog w E Q q => rc_eq_decline_or (k := false) hN hT (by decide) F.sub_dict_bool F.slot_bool_eq F.slot_dict_eq_refl (fun _ hq => c1 _ hq) (fun _ hq => dict_eq_no hT hN F.sub_bool_dict hq) (fun _ hq => wpAny_of_eq (rfl : isSame (.bool b) (.ref a) = pure false) hq) (.inr hu) q⟩
  | int i =>
    obtain ⟨t, rfl⟩ := (show ∃ t, u = Value.int i t from r)
    have hN := typeIs_int s i t
    have c1 : ∀ {prog : Program} {w : World} {E : Value → Shared → Prop} (Q' : Value → Shared → Prop), Q' .notImplemented s → wpAny (model prog w) A (call (.builtin "int.__eq__") [.int i t, .ref a]) Q' E s := fun {prog w E} Q' q => call_meets F.slot_int_eq hN F.entry_int_eq (F.args_int_eq_2 _ _) (int_dict_no i t a) ⟨ho, q⟩
    exact ⟨fun prog w E Q q => rc_eq_decline_or (k := false) hT hN (by decide) F.sub_int_dict F.slot_dict_eq F.slot_int_eq_refl (fun _ hq => dict_eq_no hT hN F.sub_int_dict hq) (fun _ hq => c1 _ hq) (fun _ hq => wpAny_of_eq (rfl : isSame (.ref a) (.int i t) = pure false) hq) (.inr hu) q,
      fun prog w E Q q => rc_eq_decline_or (k := false) hN hT (by decide) F.sub_dict_int F.slot_int_eq F.slot_dict_eq_refl (fun _ hq => c1 _ hq) (fun _ hq => dict_eq_no hT hN F.sub_int_dict hq) (fun _ hq => wpAny_of_eq (rfl : isSame (.int i t) (.ref a) = pure false) hq) (.inr hu) q⟩
  | str z =>
    obtain ⟨t, rfl⟩ := (show ∃ t, u = Value.str z t from r)
    have hN := typeIs_str s z t
    have c1 : ∀ {prog : Program} {w : World} {E : Value → Shared → Prop} (Q' : Value → Shared → Prop), Q' .notImplemented s → wpAny (model prog w) A (call (.builtin "str.__eq__") [.str z t, .ref a]) Q' E s := fun {prog w E} Q' q => call_meets F.slot_str_eq hN F.entry_str_eq (F.args_str_eq_2 _ _) (str_dict_no z t a) ⟨ho, q⟩
    exact ⟨fun prog w E Q q => rc_eq_decline_or (k := false) hT hN (by decide) F.sub_str_dict F.slot_dict_eq F.slot_str_eq_refl (fun _ hq => dict_eq_no hT hN F.sub_str_dict hq) (fun _ hq => c1 _ hq) (fun _ hq => wpAny_of_eq (rfl : isSame (.ref a) (.str z t) = pure false) hq) (.inr hu) q,
      fun prog w E Q q => rc_eq_decline_or (k := false) hN hT (by decide) F.sub_dict_str F.slot_str_eq F.slot_dict_eq_refl (fun _ hq => c1 _ hq) (fun _ hq => dict_eq_no hT hN F.sub_str_dict hq) (fun _ hq => wpAny_of_eq (rfl : isSame (.str z t) (.ref a) = pure false) hq) (.inr hu) q⟩
  | _ => cases h
theorem pure_rc {A : Around} {x y : V} {u v : Value} (I : Inv X pins σ H s) (r1 : RelV x u) (r2 : RelV y v) (p : PureNe X.K H x y) (hu : A.units < cLine) : RcAt A s u v false ∧ (u == v) = false ∧ ((∃ a, v = .ref a) ∨ ∃ a, u = .ref a) := by
  cases p with
  | @L a C dx fs _ ha nq d =>
    cases (show u = Value.ref a from r1)
    obtain ⟨mA, J, _⟩ := ins_get I.hok ha
    obtain ⟨od, J, _⟩ := J.look
    obtain ⟨T, d⟩ := dec_at I r2 d J nq.nb
    refine ⟨rc_dL hu I.kIn J nq d, ?_, .inr ⟨_, rfl⟩⟩
    rw [beq_eq_false_iff_ne]
    exact fun z => absurd d.ne (by rw [← z]; simp)
  | @R a C dx fs _ ha nq d =>
    cases (show v = Value.ref a from r2)
    obtain ⟨mA, J, _⟩ := ins_get I.hok ha
    obtain ⟨od, J, _⟩ := J.look
    obtain ⟨T, d⟩ := dec_at I r1 d J nq.nb
    exact ⟨rc_dR hu I.kIn J nq d, d.ne, .inl ⟨_, rfl⟩⟩
  | @I a b C D dx dy fs gs ha hb nq nr ne hn =>
    cases (show u = Value.ref a from r1)
    cases (show v = Value.ref b from r2)
    obtain ⟨mA, J, _⟩ := ins_get I.hok ha
    obtain ⟨od, J, _⟩ := J.look
    obtain ⟨mB, L, _⟩ := ins_get I.hok hb
    obtain ⟨oe, L, _⟩ := L.look
    exact ⟨rc_II hu I.kIn J L nq nr ne hn, beq_eq_false_iff_ne.mpr fun z => ne (Value.ref.inj z), .inl ⟨_, rfl⟩⟩
  | @LF a xs _ ha f =>
    cases (show u = Value.ref a from r1)
    obtain ⟨its, rl, pl, hz⟩ := I.list ha
    exact ⟨(rc_seqF hu r2 f pl.isList).1, (flat_ne r2 f).2, .inr ⟨_, rfl⟩⟩
  | @FL a xs _ ha f =>
    cases (show v = Value.ref a from r2)
    obtain ⟨its, rl, pl, hz⟩ := I.list ha
    exact ⟨(rc_seqF hu r1 f pl.isList).2, (flat_ne r1 f).1, .inl ⟨_, rfl⟩⟩
  | @TF a xs _ ha f =>
    cases (show u = Value.ref a from r1)
    obtain ⟨its, rl, pl, hz⟩ := I.tuple ha
    exact ⟨(rc_tupF hu r2 f pl).1, (flat_ne r2 f).2, .inr ⟨_, rfl⟩⟩
  | @FT a xs _ ha f =>
    cases (show v = Value.ref a from r2)
    obtain ⟨its, rl, pl, hz⟩ := I.tuple ha
    exact ⟨(rc_tupF hu r1 f pl).2, (flat_ne r1 f).1, .inl ⟨_, rfl⟩⟩
  | @DF a kvs _ ha f =>
    cases (show u = Value.ref a from r1)
    obtain ⟨_, _, vs, _, o, es, ep, h1, h2, h3, _⟩ := (show ObjOk _ _ H s.heap a (.dK kvs) from I.hok a _ ha)
    exact ⟨(rc_dctF hu r2 f ⟨o, es, ep, h1, h2.1, h3⟩).1, (flat_ne r2 f).2, .inr ⟨_, rfl⟩⟩
  | @FD a kvs _ ha f =>
    cases (show v = Value.ref a from r2)
    obtain ⟨_, _, vs, _, o, es, ep, h1, h2, h3, _⟩ := (show ObjOk _ _ H s.heap a (.dK kvs) from I.hok a _ ha)
    exact ⟨(rc_dctF hu r1 f ⟨o, es, ep, h1, h2.1, h3⟩).2, (flat_ne r1 f).1, .inl ⟨_, rfl⟩⟩
/-- == of two values, pure -/
def EqP (K : PySem.W.Frag) (H : Hp) (x y : V) (b : Bool) : Prop := (flatV x = true ∧ flatV y = true ∧ b = eqV x y) ∨ (PureNe K H x y ∧ b = false) ∨ (∃ a, x = .ref a ∧ y = .ref a ∧ b = true)
theorem eqp_at {A : Around} {x y : V} {u v : Value} {b : Bool} (I : Inv X pins σ H s) (r1 : RelV x u) (r2 : RelV y v) (p : EqP X.K H x y b) (hu : A.units < cLine) : EqAt A s u v b := by
  rcases p with ⟨f1, f2, rfl⟩ | ⟨p, rfl⟩ | ⟨a, rfl, rfl, rfl⟩
  · exact eqAt_V r1 r2 f1 f2
  · obtain ⟨h1, h2, h3⟩ := pure_rc (A := A) I r1 r2 p hu
    exact eqAt_rc h2 h1 h3
  · cases (show u = Value.ref a from r1)
    cases (show v = Value.ref a from r2)
    exact EqAt.same _
/-- a value of ours back from the machine's -/
def vOf : Value → V
  | .none => .non
  | .bool b => .bl b
  | .int i _ => .int i
  | .str z _ => .str z
  | .bytes b _ => .byt b
  | .float f _ => .flt f
  | .ref a => .ref a
  | .type n => .ty n
  | _ => .non
theorem vOf_rel {z : V} {u : Value} (r : RelV z u) : vOf u = z := by
  cases z with
  | non => cases (show u = Value.none from r); rfl
  | bl b => cases (show u = Value.bool b from r); rfl
  | int i => obtain ⟨t, rfl⟩ := (show ∃ t, u = Value.int i t from r); rfl
  | str i => obtain ⟨t, rfl⟩ := (show ∃ t, u = Value.str i t from r); rfl
  | byt i => obtain ⟨t, rfl⟩ := (show ∃ t, u = Value.bytes i t from r); rfl
  | flt i => obtain ⟨t, rfl⟩ := (show ∃ t, u = Value.float i t from r); rfl
  | ref a => cases (show u = Value.ref a from r); rfl
  | ty n => cases (show u = Value.type n from r); rfl
theorem vals_of : ∀ {ys : List V} {us : List Value}, Vals ys us → us.map vOf = ys
  | _, _, .nil => rfl
  | _, _, .cons r t => by rw [List.map_cons, vOf_rel r, vals_of t]
theorem eqps_at {A : Around} {x : V} {v : Value} {e : V → Bool} (I : Inv X pins σ H s) (r2 : RelV x v) (hu : A.units < cLine) : ∀ {ys : List V} {us : List Value}, Vals ys us → (∀ z ∈ ys, EqP X.K H z x (e z)) → ∀ u ∈ us, EqAt A s u v (e (vOf u))
  | _, _, .nil, _ => fun u hu' => by cases hu'
  | y :: ys, u :: us, .cons r t, f => fun u' hu' => by
    rcases List.mem_cons.mp hu' with e' | hu'
    · subst e'
      rw [vOf_rel r]
      exact eqp_at I r r2 (f y List.mem_cons_self) hu
    · exact eqps_at I r2 hu t (fun z hz => f z (List.mem_cons_of_mem _ hz)) u' hu'
/-- x in ys, x not in ys -/
def rInP (K : PySem.W.Frag) (neg : Bool) : R2 := fun x y H Q => ∃ (a : Addr) (ys : List V) (e : V → Bool), y = .ref a ∧ (SqL K H a ys ∨ SqT K H a ys) ∧ (∀ z ∈ ys, EqP K H z x (e z)) ∧ Q (.bl (if neg then !ys.any e else ys.any e)) H
theorem op_notInP (K : PySem.W.Frag) (hu : X.A.units + 64 < cLine) (hK : X.K = K := by rfl) : OpR X (compareOp .NotIn) (rInP K true) := by
  subst hK
  intro pins s σ H x y v u Q I rx ry h
  obtain ⟨a, ys, e, rfl, hs, f, q⟩ := h
  cases ry
  have hu1 : X.A.in1.units < cLine := by show X.A.units + 1 < cLine; omega
  rcases hs with hs | hs
  · obtain ⟨its, rv, hl, _⟩ := I.list hs
    refine SeqAt.notIn_listAt (fun u => e (vOf u)) hl.isList (fun z hz => eqps_at I rx hu1 rv f z (by simpa using hz)) ⟨.bl _, H, I, rfl, ?_⟩
    have e1 : its.toArray.any (fun u => e (vOf u)) = ys.any e := by rw [← vals_of rv, List.any_map]; simp [Function.comp_def]
    rw [e1]
    exact q
  · obtain ⟨its, rv, hl, _⟩ := I.tuple hs
    refine SeqAt.notIn_tupleAt (fun u => e (vOf u)) hl (fun z hz => eqps_at I rx hu1 rv f z (by simpa using hz)) ⟨.bl _, H, I, rfl, ?_⟩
    have e1 : its.toArray.any (fun u => e (vOf u)) = ys.any e := by rw [← vals_of rv, List.any_map]; simp [Function.comp_def]
    rw [e1]
    exact q
end
end L3
set_option Elab.async false
set_option linter.all false
set_option maxRecDepth 100000
set_option maxHeartbeats 4000000
namespace L3
open PySem PySem.Spec PyProof.Rows L2 PySem.SeqAt PySem.Calls
section
variable {X : Cx} {k : Nat} {f C : Addr} {sp : Sp} {pins : List (Addr × Obj)} {σ : L2.St} {H : Hp} {s : Shared}
theorem op_or {op : Value → Value → Sem Value} {r1 r2 : R2} (h1 : OpR X op r1) (h2 : OpR X op r2) : OpR X op (rOr r1 r2) := fun pins s σ H x y u v Q I rx ry h => by
  rcases h with h | h
  · exact h1 pins s σ H x y u v Q I rx ry h
  · exact h2 pins s σ H x y u v Q I rx ry h
def rNotInO (r : R2) (K : PySem.W.Frag) : R2 := fun x y H Q => ∃ b a ys, x = .ref b ∧ y = .ref a ∧ inW r K a ys b ys H fun b H' => Q (.bl (!b)) H'
theorem op_notInO {r : R2} (K : PySem.W.Frag) (h : RcO X k r) (hr : Rm (k + 1) X.A) (e : X.K = K := by rfl) : OpR X (compareOp .NotIn) (rNotInO r K) := by
  subst e
  intro pins s σ H x y u v Q I rx ry hq
  obtain ⟨b, a, ys, rfl, rfl, hq⟩ := hq
  cases (show u = Value.ref b from rx)
  cases (show v = Value.ref a from ry)
  have hS : SqL X.K H a ys := by cases ys with | nil => exact hq.1 | cons _ _ => exact hq.1
  obtain ⟨its, rl, pl, hz⟩ := I.list hS
  obtain ⟨o, n, ho, hc, _⟩ := pl
  have hT : s.TypeIs (.ref a) "list" := ⟨_, ho, hc⟩
  show wpAny _ X.A (contains (.ref a) (.ref b) >>= fun z => pure (Value.bool (!z))) _ _ s
  refine wpAny_bind (wpAny_contains_slot hT PySem.F.slot_list_contains (wpAny_mono (Q := fun (v : Value) s' => ∃ z, v = Value.bool z ∧ EP X pins σ Q (Value.bool (!z)) s') (GQ.call_here PySem.F.slot_list_contains hT PySem.F.entry_list_contains (PySem.F.args_list_contains_2 _ _) ?_) (fun v s' hv => ?_) fun _ _ e => e))
  · have hrec := in_loop h (R := wants (fun v s' => ∃ z, v = .bool z ∧ EP X pins σ Q (.bool (!z)) s') X.xe) (fun e s' x => x) hr (fun b H' => Q (.bl (!b)) H') (fun z H' s' I' q => ⟨z, rfl, .bl (!z), H', I', rfl, q⟩) ys 0 H s rfl I hq
    obtain ⟨hp, g, d, tk, os⟩ := s
    wp_walk
    exact ⟨plainId_quiet MeetsSeq.plain_contains_loop _, codeAny_builtin MeetsSeq.entry_contains_loop (by
      rw [Around.under_plainId MeetsSeq.plain_contains_loop _]
      exact hrec)⟩
  · obtain ⟨z, rfl, hq⟩ := hv
    exact wpAny_truthy_bool (wpAny_pure hq)
end
end L3
set_option Elab.async false
set_option linter.all false
set_option maxRecDepth 100000
set_option maxHeartbeats 4000000
namespace Toy
open PySem PySem.Spec PyProof.Rows L2 L3
def top (i : Nat) : Stmt := PySem.Challenge.pw_shortgoings_k37_what_is_no_list.main.body.getD i (.Pass ⟨0, 0, 0, 0⟩)
abbrev s_NoText_init : Stmt := inClass (top 10) 0
abbrev s_NoLine_init : Stmt := inClass (top 11) 0
abbrev s_NoGoing_init : Stmt := inClass (top 12) 0
abbrev s_Needed_init : Stmt := inClass (top 13) 0
abbrev s_Taken_init : Stmt := inClass (top 14) 0
abbrev s_Round_init : Stmt := inClass (top 15) 0
abbrev s_is_minute : Stmt := top 18
abbrev s_in_rising_order : Stmt := top 19
abbrev s_is_over : Stmt := top 20
abbrev s_first_parts : Stmt := top 21
abbrev s_most_number : Stmt := top 22
abbrev s_numbers_of : Stmt := top 23
abbrev s_paper_of : Stmt := top 24
abbrev s_has_shape : Stmt := top 25
abbrev s_is_paper : Stmt := top 26
abbrev s_is_whole : Stmt := top 32
abbrev s_is_moment : Stmt := top 33
abbrev s_want_moment : Stmt := top 34
abbrev s_clock_of : Stmt := top 35
abbrev s_show_moment : Stmt := top 36
abbrev s_is_number : Stmt := top 41
abbrev s_Short_moments : Stmt := inClass (top 42) 0
abbrev s_Short_pieces : Stmt := inClass (top 42) 1
abbrev s_Short_begins : Stmt := inClass (top 42) 2
abbrev s_Short_ends : Stmt := inClass (top 42) 3
abbrev s_Short_means_many : Stmt := inClass (top 42) 4
abbrev s_Short_nested : Stmt := inClass (top 42) 5
abbrev s_all_rising : Stmt := top 43
abbrev s_shorts_in : Stmt := top 44
abbrev s_row_moments : Stmt := top 45
abbrev s_row_many : Stmt := top 46
abbrev s_row_pieces : Stmt := top 47
abbrev s_row_text : Stmt := top 48
abbrev s_At_init : Stmt := inClass (top 49) 0
abbrev s_At_moments : Stmt := inClass (top 49) 1
abbrev s_At_pieces : Stmt := inClass (top 49) 2
abbrev s_At_begins : Stmt := inClass (top 49) 3
abbrev s_At_ends : Stmt := inClass (top 49) 4
abbrev s_At_means_many : Stmt := inClass (top 49) 5
abbrev s_At_nested : Stmt := inClass (top 49) 6
abbrev s_At_str : Stmt := inClass (top 49) 7
abbrev s_Over_init : Stmt := inClass (top 50) 0
abbrev s_Over_parts : Stmt := inClass (top 50) 1
abbrev s_Over_moments : Stmt := inClass (top 50) 2
abbrev s_Over_pieces : Stmt := inClass (top 50) 3
abbrev s_Over_begins : Stmt := inClass (top 50) 4
abbrev s_Over_ends : Stmt := inClass (top 50) 5
abbrev s_Over_means_many : Stmt := inClass (top 50) 6
abbrev s_Over_nested : Stmt := inClass (top 50) 7
abbrev s_Over_str : Stmt := inClass (top 50) 8
abbrev s_Spread_init : Stmt := inClass (top 52) 0
abbrev s_Spread_parts : Stmt := inClass (top 52) 1
abbrev s_Spread_moments : Stmt := inClass (top 52) 2
abbrev s_Spread_pieces : Stmt := inClass (top 52) 3
abbrev s_Spread_eq : Stmt := inClass (top 52) 4
abbrev s_Spread_len : Stmt := inClass (top 52) 5
abbrev s_Spread_str : Stmt := inClass (top 52) 6
abbrev s_Spread_repr : Stmt := inClass (top 52) 7
abbrev s_first_size : Stmt := top 54
abbrev s_over_part : Stmt := top 55
abbrev s_short_of : Stmt := top 56
abbrev s_shorts_of : Stmt := top 57
abbrev s_shortest : Stmt := top 58
abbrev s__law_pot : Stmt := top 60
abbrev s__law_draw : Stmt := top 61
abbrev s__law_good : Stmt := top 62
abbrev s__law_odd : Stmt := top 63
abbrev s__law_bad : Stmt := top 64
abbrev s__law_kinds : Stmt := top 65
abbrev s__law_asked : Stmt := top 66
abbrev s_law : Stmt := top 67
theorem sc_is_minute : FnScope ["thing"] ["thing"] (defScope s_is_minute) := ⟨rfl, rfl, rfl, by decide +kernel, rfl, by decide +kernel, by decide +kernel⟩
theorem sc_in_rising_order : FnScope ["moments", "row", "one", "other"] ["moments"] (defScope s_in_rising_order) := ⟨rfl, rfl, rfl, by decide +kernel, rfl, by decide +kernel, by decide +kernel⟩
theorem sc_is_over : FnScope ["row", "begin", "part", "size", "step", "at"] ["row", "begin", "part", "size"] (defScope s_is_over) := ⟨rfl, rfl, rfl, by decide +kernel, rfl, by decide +kernel, by decide +kernel⟩
theorem sc_first_parts : FnScope ["row", "begin", "size", "part"] ["row", "begin", "size"] (defScope s_first_parts) := ⟨rfl, rfl, rfl, by decide +kernel, rfl, by decide +kernel, by decide +kernel⟩
theorem sc_most_number : FnScope ["row", "paper", "begin", "size", "cuts", "overs", "cut", "part"] ["row", "paper", "begin", "size"] (defScope s_most_number) := ⟨rfl, rfl, rfl, by decide +kernel, rfl, by decide +kernel, by decide +kernel⟩
theorem sc_numbers_of : FnScope ["row", "paper", "size", "begin", "one"] ["row"] (defScope s_numbers_of) := ⟨rfl, rfl, rfl, by decide +kernel, rfl, by decide +kernel, by decide +kernel⟩
theorem sc_paper_of : FnScope ["moments"] ["moments"] (defScope s_paper_of) := ⟨rfl, rfl, rfl, by decide +kernel, rfl, by decide +kernel, by decide +kernel⟩
theorem sc_has_shape : FnScope ["paper", "many", "place", "numbers"] ["paper", "many"] (defScope s_has_shape) := ⟨rfl, rfl, rfl, by decide +kernel, rfl, by decide +kernel, by decide +kernel⟩
theorem sc_is_paper : FnScope ["moments", "paper", "row", "begin", "numbers", "place", "number"] ["moments", "paper"] (defScope s_is_paper) := ⟨rfl, rfl, rfl, by decide +kernel, rfl, by decide +kernel, by decide +kernel⟩
theorem sc_is_number : FnScope ["thing", "least"] ["thing", "least"] (defScope s_is_number) := ⟨rfl, rfl, rfl, by decide +kernel, rfl, by decide +kernel, by decide +kernel⟩
theorem sc_all_rising : FnScope ["parts", "one", "other"] ["parts"] (defScope s_all_rising) := ⟨rfl, rfl, rfl, by decide +kernel, rfl, by decide +kernel, by decide +kernel⟩
theorem sc_shorts_in : FnScope ["parts", "found", "one"] ["parts"] (defScope s_shorts_in) := ⟨rfl, rfl, rfl, by decide +kernel, rfl, by decide +kernel, by decide +kernel⟩
theorem sc_row_moments : FnScope ["parts", "found", "one"] ["parts"] (defScope s_row_moments) := ⟨rfl, rfl, rfl, by decide +kernel, rfl, by decide +kernel, by decide +kernel⟩
theorem sc_row_many : FnScope ["parts", "one"] ["parts"] (defScope s_row_many) := ⟨rfl, rfl, rfl, by decide +kernel, rfl, by decide +kernel, by decide +kernel⟩
theorem sc_At_init : FnScope ["self", "moment"] ["self", "moment"] (defScope s_At_init) := ⟨rfl, rfl, rfl, by decide +kernel, rfl, by decide +kernel, by decide +kernel⟩
theorem sc_At_moments : FnScope ["self"] ["self"] (defScope s_At_moments) := ⟨rfl, rfl, rfl, by decide +kernel, rfl, by decide +kernel, by decide +kernel⟩
theorem sc_At_begins : FnScope ["self"] ["self"] (defScope s_At_begins) := ⟨rfl, rfl, rfl, by decide +kernel, rfl, by decide +kernel, by decide +kernel⟩
theorem sc_At_ends : FnScope ["self"] ["self"] (defScope s_At_ends) := ⟨rfl, rfl, rfl, by decide +kernel, rfl, by decide +kernel, by decide +kernel⟩
theorem sc_At_means_many : FnScope ["self"] ["self"] (defScope s_At_means_many) := ⟨rfl, rfl, rfl, by decide +kernel, rfl, by decide +kernel, by decide +kernel⟩
theorem sc_At_nested : FnScope ["self"] ["self"] (defScope s_At_nested) := ⟨rfl, rfl, rfl, by decide +kernel, rfl, by decide +kernel, by decide +kernel⟩
theorem sc_Over_init : FnScope ["self", "parts", "many", "step"] ["self", "parts", "many", "step"] (defScope s_Over_init) := ⟨rfl, rfl, rfl, by decide +kernel, rfl, by decide +kernel, by decide +kernel⟩
theorem sc_Over_moments : FnScope ["self", "own", "found", "time", "moment"] ["self"] (defScope s_Over_moments) := ⟨rfl, rfl, rfl, by decide +kernel, rfl, by decide +kernel, by decide +kernel⟩
theorem sc_Over_begins : FnScope ["self"] ["self"] (defScope s_Over_begins) := ⟨rfl, rfl, rfl, by decide +kernel, rfl, by decide +kernel, by decide +kernel⟩
theorem sc_Over_ends : FnScope ["self"] ["self"] (defScope s_Over_ends) := ⟨rfl, rfl, rfl, by decide +kernel, rfl, by decide +kernel, by decide +kernel⟩
theorem sc_Over_means_many : FnScope ["self"] ["self"] (defScope s_Over_means_many) := ⟨rfl, rfl, rfl, by decide +kernel, rfl, by decide +kernel, by decide +kernel⟩
theorem sc_Over_nested : FnScope ["self", "one"] ["self"] (defScope s_Over_nested) := ⟨rfl, rfl, rfl, by decide +kernel, rfl, by decide +kernel, by decide +kernel⟩
theorem sc_Spread_init : FnScope ["self", "parts"] ["self", "parts"] (defScope s_Spread_init) := ⟨rfl, rfl, rfl, by decide +kernel, rfl, by decide +kernel, by decide +kernel⟩
theorem sc_Spread_moments : FnScope ["self"] ["self"] (defScope s_Spread_moments) := ⟨rfl, rfl, rfl, by decide +kernel, rfl, by decide +kernel, by decide +kernel⟩
theorem sc_Spread_eq : FnScope ["self", "other"] ["self", "other"] (defScope s_Spread_eq) := ⟨rfl, rfl, rfl, by decide +kernel, rfl, by decide +kernel, by decide +kernel⟩
theorem sc_first_size : FnScope ["paper", "begin", "size", "cut"] ["paper", "begin", "size"] (defScope s_first_size) := ⟨rfl, rfl, rfl, by decide +kernel, rfl, by decide +kernel, by decide +kernel⟩
theorem sc_over_part : FnScope ["row", "paper", "begin", "size", "wanted", "part"] ["row", "paper", "begin", "size"] (defScope s_over_part) := ⟨rfl, rfl, rfl, by decide +kernel, rfl, by decide +kernel, by decide +kernel⟩
theorem sc_short_of : FnScope ["row", "paper", "begin", "size", "part"] ["row", "paper", "begin", "size"] (defScope s_short_of) := ⟨rfl, rfl, rfl, by decide +kernel, rfl, by decide +kernel, by decide +kernel⟩
theorem sc_shorts_of : FnScope ["row", "paper", "begin", "size", "found", "first"] ["row", "paper", "begin", "size"] (defScope s_shorts_of) := ⟨rfl, rfl, rfl, by decide +kernel, rfl, by decide +kernel, by decide +kernel⟩
theorem sc_shortest : FnScope ["moments", "row"] ["moments"] (defScope s_shortest) := ⟨rfl, rfl, rfl, by decide +kernel, rfl, by decide +kernel, by decide +kernel⟩
theorem sc__law_pot : FnScope ["_law_script", "_law_k", "_law_cell"] ["_law_script", "_law_k"] (defScope s__law_pot) := ⟨rfl, rfl, rfl, by decide +kernel, rfl, by decide +kernel, by decide +kernel⟩
theorem sc__law_draw : FnScope ["_law_pot_here", "_law_size", "_law_digit"] ["_law_pot_here", "_law_size"] (defScope s__law_draw) := ⟨rfl, rfl, rfl, by decide +kernel, rfl, by decide +kernel, by decide +kernel⟩
theorem sc__law_good : FnScope ["_law_pot_here", "_law_far", "_law_found", "_law_k", "_law_moment"] ["_law_pot_here"] (defScope s__law_good) := ⟨rfl, rfl, rfl, by decide +kernel, rfl, by decide +kernel, by decide +kernel⟩
theorem sc__law_odd : FnScope ["_law_pot_here", "_law_good_here", "_law_way"] ["_law_pot_here", "_law_good_here"] (defScope s__law_odd) := ⟨rfl, rfl, rfl, by decide +kernel, rfl, by decide +kernel, by decide +kernel⟩
theorem sc__law_bad : FnScope ["_law_pot_here", "_law_good_here", "_law_way", "_law_odd_here", "_law_found", "_law_at"] ["_law_pot_here", "_law_good_here"] (defScope s__law_bad) := ⟨rfl, rfl, rfl, by decide +kernel, rfl, by decide +kernel, by decide +kernel⟩
theorem sc__law_kinds : FnScope ["_law_e", "_law_some"] ["_law_e"] (defScope s__law_kinds) := ⟨rfl, rfl, rfl, by decide +kernel, rfl, by decide +kernel, by decide +kernel⟩
theorem sc__law_asked : FnScope ["_law_way", "_law_thing", "_law_told", "_law_e"] ["_law_way", "_law_thing"] (defScope s__law_asked) := ⟨rfl, rfl, rfl, by decide +kernel, rfl, by decide +kernel, by decide +kernel⟩
theorem sc_law : FnScope ["_law_script", "_law_k", "_law_pot_here", "_law_good_here", "_law_bad_here", "_law_paper", "_law_kept", "_law_way", "_law_told"] ["_law_script"] (defScope s_law) := ⟨rfl, rfl, rfl, by decide +kernel, rfl, by decide +kernel, by decide +kernel⟩
structure Env (K : PySem.W.Frag) (mg : Str → Option Value) : Prop where
  g_is_minute : mg "is_minute" = some (.ref (He.ga K "is_minute"))
  g_in_rising_order : mg "in_rising_order" = some (.ref (He.ga K "in_rising_order"))
  g_is_over : mg "is_over" = some (.ref (He.ga K "is_over"))
  g_first_parts : mg "first_parts" = some (.ref (He.ga K "first_parts"))
  g_most_number : mg "most_number" = some (.ref (He.ga K "most_number"))
  g_numbers_of : mg "numbers_of" = some (.ref (He.ga K "numbers_of"))
  g_paper_of : mg "paper_of" = some (.ref (He.ga K "paper_of"))
  g_has_shape : mg "has_shape" = some (.ref (He.ga K "has_shape"))
  g_is_paper : mg "is_paper" = some (.ref (He.ga K "is_paper"))
  g_is_whole : mg "is_whole" = some (.ref (He.ga K "is_whole"))
  g_is_moment : mg "is_moment" = some (.ref (He.ga K "is_moment"))
  g_want_moment : mg "want_moment" = some (.ref (He.ga K "want_moment"))
  g_clock_of : mg "clock_of" = some (.ref (He.ga K "clock_of"))
  g_show_moment : mg "show_moment" = some (.ref (He.ga K "show_moment"))
  g_is_number : mg "is_number" = some (.ref (He.ga K "is_number"))
  g_all_rising : mg "all_rising" = some (.ref (He.ga K "all_rising"))
  g_shorts_in : mg "shorts_in" = some (.ref (He.ga K "shorts_in"))
  g_row_moments : mg "row_moments" = some (.ref (He.ga K "row_moments"))
  g_row_many : mg "row_many" = some (.ref (He.ga K "row_many"))
  g_row_pieces : mg "row_pieces" = some (.ref (He.ga K "row_pieces"))
  g_row_text : mg "row_text" = some (.ref (He.ga K "row_text"))
  g_first_size : mg "first_size" = some (.ref (He.ga K "first_size"))
  g_over_part : mg "over_part" = some (.ref (He.ga K "over_part"))
  g_short_of : mg "short_of" = some (.ref (He.ga K "short_of"))
  g_shorts_of : mg "shorts_of" = some (.ref (He.ga K "shorts_of"))
  g_shortest : mg "shortest" = some (.ref (He.ga K "shortest"))
  g__law_pot : mg "_law_pot" = some (.ref (He.ga K "_law_pot"))
  g__law_draw : mg "_law_draw" = some (.ref (He.ga K "_law_draw"))
  g__law_good : mg "_law_good" = some (.ref (He.ga K "_law_good"))
  g__law_odd : mg "_law_odd" = some (.ref (He.ga K "_law_odd"))
  g__law_bad : mg "_law_bad" = some (.ref (He.ga K "_law_bad"))
  g__law_kinds : mg "_law_kinds" = some (.ref (He.ga K "_law_kinds"))
  g__law_asked : mg "_law_asked" = some (.ref (He.ga K "_law_asked"))
  g_law : mg "law" = some (.ref (He.ga K "law"))
  v_HOUR : ∃ u, mg "HOUR" = some u ∧ RelV (.int (60)) u
  v_DAY : ∃ u, mg "DAY" = some u ∧ RelV (.int (1440)) u
  v_COLON : ∃ u, mg "COLON" = some u ∧ RelV (.str ":") u
  v_BLANK : ∃ u, mg "BLANK" = some u ∧ RelV (.str " ") u
  v_MOST_MOMENTS : ∃ u, mg "MOST_MOMENTS" = some u ∧ RelV (.int (1440)) u
  v_MOST_NESTED : ∃ u, mg "MOST_NESTED" = some u ∧ RelV (.int (8)) u
  v_NO_PARTS : ∃ u, mg "NO_PARTS" = some u ∧ RelV (.str "-") u
  n_LookupError : mg "LookupError" = none
  n_RuntimeError : mg "RuntimeError" = none
  n_ValueError : mg "ValueError" = none
  n_all : mg "all" = none
  n_any : mg "any" = none
  n_bool : mg "bool" = none
  n_divmod : mg "divmod" = none
  n_enumerate : mg "enumerate" = none
  n_int : mg "int" = none
  n_isinstance : mg "isinstance" = none
  n_len : mg "len" = none
  n_list : mg "list" = none
  n_max : mg "max" = none
  n_min : mg "min" = none
  n_range : mg "range" = none
  n_repr : mg "repr" = none
  n_sorted : mg "sorted" = none
  n_str : mg "str" = none
  n_sum : mg "sum" = none
  n_tuple : mg "tuple" = none
  n_zip : mg "zip" = none
  g_GoingError : mg "GoingError" = some (.ref (He.ga K "GoingError"))
  x_GoingError : Exo K (He.ga K "GoingError") bmV "ValueError.__new__"
  g_LackError : mg "LackError" = some (.ref (He.ga K "LackError"))
  x_LackError : Exo K (He.ga K "LackError") bmL "LookupError.__new__"
  g_BookError : mg "BookError" = some (.ref (He.ga K "BookError"))
  x_BookError : Exo K (He.ga K "BookError") bmR "RuntimeError.__new__"
  g_NoTime : mg "NoTime" = some (.ref (He.ga K "NoTime"))
  x_NoTime : Exo K (He.ga K "NoTime") bmV "ValueError.__new__"
  g_NoPiece : mg "NoPiece" = some (.ref (He.ga K "NoPiece"))
  x_NoPiece : Exo K (He.ga K "NoPiece") bmV "ValueError.__new__"
  g_NoDays : mg "NoDays" = some (.ref (He.ga K "NoDays"))
  x_NoDays : Exo K (He.ga K "NoDays") bmV "ValueError.__new__"
  g_NoCard : mg "NoCard" = some (.ref (He.ga K "NoCard"))
  x_NoCard : Exo K (He.ga K "NoCard") bmV "ValueError.__new__"
  g_NoName : mg "NoName" = some (.ref (He.ga K "NoName"))
  x_NoName : Exo K (He.ga K "NoName") bmV "ValueError.__new__"
  g_NoRow : mg "NoRow" = some (.ref (He.ga K "NoRow"))
  x_NoRow : Exo K (He.ga K "NoRow") bmV "ValueError.__new__"
  g_NoText : mg "NoText" = some (.ref (He.ga K "NoText"))
  g_NoLine : mg "NoLine" = some (.ref (He.ga K "NoLine"))
  g_NoGoing : mg "NoGoing" = some (.ref (He.ga K "NoGoing"))
  g_Needed : mg "Needed" = some (.ref (He.ga K "Needed"))
  g_Taken : mg "Taken" = some (.ref (He.ga K "Taken"))
  g_Round : mg "Round" = some (.ref (He.ga K "Round"))
  g_TooMuch : mg "TooMuch" = some (.ref (He.ga K "TooMuch"))
  x_TooMuch : Exo K (He.ga K "TooMuch") bmR "RuntimeError.__new__"
  g_Short : mg "Short" = some (.ref (He.ga K "Short"))
  g_At : mg "At" = some (.ref (He.ga K "At"))
  g_Over : mg "Over" = some (.ref (He.ga K "Over"))
  g_Spread : mg "Spread" = some (.ref (He.ga K "Spread"))
  sys : SysK K
  c_Short : Cls K (He.ga K "Short")
  i_Short : InsC K (He.ga K "Short")
  m_Short_moments : Meth K (He.ga K "Short") "moments" (He.ma K (He.ga K "Short") "moments")
  m_Short_pieces : Meth K (He.ga K "Short") "pieces" (He.ma K (He.ga K "Short") "pieces")
  m_Short_begins : Meth K (He.ga K "Short") "begins" (He.ma K (He.ga K "Short") "begins")
  m_Short_ends : Meth K (He.ga K "Short") "ends" (He.ma K (He.ga K "Short") "ends")
  m_Short_means_many : Meth K (He.ga K "Short") "means_many" (He.ma K (He.ga K "Short") "means_many")
  m_Short_nested : Meth K (He.ga K "Short") "nested" (He.ma K (He.ga K "Short") "nested")
  kit_Short_Short : PySem.W.kitOne K (.ref (He.ga K "Short")) (.ref (He.ga K "Short")) = some true
  kit_Short_Spread : PySem.W.kitOne K (.ref (He.ga K "Short")) (.ref (He.ga K "Spread")) = some false
  kit_Short_int : PySem.W.kitOne K (.ref (He.ga K "Short")) (.type "int") = some false
  kit_Short_bool : PySem.W.kitOne K (.ref (He.ga K "Short")) (.type "bool") = some false
  kit_Short_list : PySem.W.kitOne K (.ref (He.ga K "Short")) (.type "list") = some false
  kit_Short_tuple : PySem.W.kitOne K (.ref (He.ga K "Short")) (.type "tuple") = some false
  kit_Short_ValueError : PySem.W.kitOne K (.ref (He.ga K "Short")) (.type "ValueError") = some false
  kit_Short_LookupError : PySem.W.kitOne K (.ref (He.ga K "Short")) (.type "LookupError") = some false
  kit_Short_RuntimeError : PySem.W.kitOne K (.ref (He.ga K "Short")) (.type "RuntimeError") = some false
  c_At : Cls K (He.ga K "At")
  i_At : InsC K (He.ga K "At")
  a_At_moment : NoAttr K (He.ga K "At") "moment"
  m_At_init : Meth K (He.ga K "At") "__init__" (He.ma K (He.ga K "At") "__init__")
  m_At_moments : Meth K (He.ga K "At") "moments" (He.ma K (He.ga K "At") "moments")
  m_At_pieces : Meth K (He.ga K "At") "pieces" (He.ma K (He.ga K "At") "pieces")
  m_At_begins : Meth K (He.ga K "At") "begins" (He.ma K (He.ga K "At") "begins")
  m_At_ends : Meth K (He.ga K "At") "ends" (He.ma K (He.ga K "At") "ends")
  m_At_means_many : Meth K (He.ga K "At") "means_many" (He.ma K (He.ga K "At") "means_many")
  m_At_nested : Meth K (He.ga K "At") "nested" (He.ma K (He.ga K "At") "nested")
  m_At_str : Meth K (He.ga K "At") "__str__" (He.ma K (He.ga K "At") "__str__")
  mk_At : Mk K (He.ga K "At") (He.ma K (He.ga K "At") "__init__")
  kit_At_Short : PySem.W.kitOne K (.ref (He.ga K "At")) (.ref (He.ga K "Short")) = some true
  kit_At_Spread : PySem.W.kitOne K (.ref (He.ga K "At")) (.ref (He.ga K "Spread")) = some false
  kit_At_int : PySem.W.kitOne K (.ref (He.ga K "At")) (.type "int") = some false
  kit_At_bool : PySem.W.kitOne K (.ref (He.ga K "At")) (.type "bool") = some false
  kit_At_list : PySem.W.kitOne K (.ref (He.ga K "At")) (.type "list") = some false
  kit_At_tuple : PySem.W.kitOne K (.ref (He.ga K "At")) (.type "tuple") = some false
  kit_At_ValueError : PySem.W.kitOne K (.ref (He.ga K "At")) (.type "ValueError") = some false
  kit_At_LookupError : PySem.W.kitOne K (.ref (He.ga K "At")) (.type "LookupError") = some false
  kit_At_RuntimeError : PySem.W.kitOne K (.ref (He.ga K "At")) (.type "RuntimeError") = some false
  c_Over : Cls K (He.ga K "Over")
  i_Over : InsC K (He.ga K "Over")
  a_Over_kept : NoAttr K (He.ga K "Over") "kept"
  a_Over_many : NoAttr K (He.ga K "Over") "many"
  a_Over_step : NoAttr K (He.ga K "Over") "step"
  m_Over_init : Meth K (He.ga K "Over") "__init__" (He.ma K (He.ga K "Over") "__init__")
  m_Over_parts : Meth K (He.ga K "Over") "parts" (He.ma K (He.ga K "Over") "parts")
  m_Over_moments : Meth K (He.ga K "Over") "moments" (He.ma K (He.ga K "Over") "moments")
  m_Over_pieces : Meth K (He.ga K "Over") "pieces" (He.ma K (He.ga K "Over") "pieces")
  m_Over_begins : Meth K (He.ga K "Over") "begins" (He.ma K (He.ga K "Over") "begins")
  m_Over_ends : Meth K (He.ga K "Over") "ends" (He.ma K (He.ga K "Over") "ends")
  m_Over_means_many : Meth K (He.ga K "Over") "means_many" (He.ma K (He.ga K "Over") "means_many")
  m_Over_nested : Meth K (He.ga K "Over") "nested" (He.ma K (He.ga K "Over") "nested")
  m_Over_str : Meth K (He.ga K "Over") "__str__" (He.ma K (He.ga K "Over") "__str__")
  mk_Over : Mk K (He.ga K "Over") (He.ma K (He.ga K "Over") "__init__")
  kit_Over_Short : PySem.W.kitOne K (.ref (He.ga K "Over")) (.ref (He.ga K "Short")) = some true
  kit_Over_Spread : PySem.W.kitOne K (.ref (He.ga K "Over")) (.ref (He.ga K "Spread")) = some false
  kit_Over_int : PySem.W.kitOne K (.ref (He.ga K "Over")) (.type "int") = some false
  kit_Over_bool : PySem.W.kitOne K (.ref (He.ga K "Over")) (.type "bool") = some false
  kit_Over_list : PySem.W.kitOne K (.ref (He.ga K "Over")) (.type "list") = some false
  kit_Over_tuple : PySem.W.kitOne K (.ref (He.ga K "Over")) (.type "tuple") = some false
  kit_Over_ValueError : PySem.W.kitOne K (.ref (He.ga K "Over")) (.type "ValueError") = some false
  kit_Over_LookupError : PySem.W.kitOne K (.ref (He.ga K "Over")) (.type "LookupError") = some false
  kit_Over_RuntimeError : PySem.W.kitOne K (.ref (He.ga K "Over")) (.type "RuntimeError") = some false
  c_Spread : Cls K (He.ga K "Spread")
  i_Spread : InsC K (He.ga K "Spread")
  a_Spread_kept : NoAttr K (He.ga K "Spread") "kept"
  a_Spread_held : NoAttr K (He.ga K "Spread") "held"
  m_Spread_init : Meth K (He.ga K "Spread") "__init__" (He.ma K (He.ga K "Spread") "__init__")
  m_Spread_parts : Meth K (He.ga K "Spread") "parts" (He.ma K (He.ga K "Spread") "parts")
  m_Spread_moments : Meth K (He.ga K "Spread") "moments" (He.ma K (He.ga K "Spread") "moments")
  m_Spread_pieces : Meth K (He.ga K "Spread") "pieces" (He.ma K (He.ga K "Spread") "pieces")
  m_Spread_eq : Meth K (He.ga K "Spread") "__eq__" (He.ma K (He.ga K "Spread") "__eq__")
  m_Spread_len : Meth K (He.ga K "Spread") "__len__" (He.ma K (He.ga K "Spread") "__len__")
  m_Spread_str : Meth K (He.ga K "Spread") "__str__" (He.ma K (He.ga K "Spread") "__str__")
  m_Spread_repr : Meth K (He.ga K "Spread") "__repr__" (He.ma K (He.ga K "Spread") "__repr__")
  mk_Spread : Mk K (He.ga K "Spread") (He.ma K (He.ga K "Spread") "__init__")
  nb_Spread : NoBase K (He.ga K "Spread")
  kit_Spread_Short : PySem.W.kitOne K (.ref (He.ga K "Spread")) (.ref (He.ga K "Short")) = some false
  kit_Spread_Spread : PySem.W.kitOne K (.ref (He.ga K "Spread")) (.ref (He.ga K "Spread")) = some true
  kit_Spread_int : PySem.W.kitOne K (.ref (He.ga K "Spread")) (.type "int") = some false
  kit_Spread_bool : PySem.W.kitOne K (.ref (He.ga K "Spread")) (.type "bool") = some false
  kit_Spread_list : PySem.W.kitOne K (.ref (He.ga K "Spread")) (.type "list") = some false
  kit_Spread_tuple : PySem.W.kitOne K (.ref (He.ga K "Spread")) (.type "tuple") = some false
  kit_Spread_ValueError : PySem.W.kitOne K (.ref (He.ga K "Spread")) (.type "ValueError") = some false
  kit_Spread_LookupError : PySem.W.kitOne K (.ref (He.ga K "Spread")) (.type "LookupError") = some false
  kit_Spread_RuntimeError : PySem.W.kitOne K (.ref (He.ga K "Spread")) (.type "RuntimeError") = some false
  kit_int_Short : PySem.W.kitOne K (.type "int") (.ref (He.ga K "Short")) = some false
  kit_bool_Short : PySem.W.kitOne K (.type "bool") (.ref (He.ga K "Short")) = some false
  kit_str_Short : PySem.W.kitOne K (.type "str") (.ref (He.ga K "Short")) = some false
  kit_NoneType_Short : PySem.W.kitOne K (.type "NoneType") (.ref (He.ga K "Short")) = some false
  kit_list_Short : PySem.W.kitOne K (.type "list") (.ref (He.ga K "Short")) = some false
  kit_tuple_Short : PySem.W.kitOne K (.type "tuple") (.ref (He.ga K "Short")) = some false
  kit_dict_Short : PySem.W.kitOne K (.type "dict") (.ref (He.ga K "Short")) = some false
  kit_int_Spread : PySem.W.kitOne K (.type "int") (.ref (He.ga K "Spread")) = some false
  kit_bool_Spread : PySem.W.kitOne K (.type "bool") (.ref (He.ga K "Spread")) = some false
  kit_str_Spread : PySem.W.kitOne K (.type "str") (.ref (He.ga K "Spread")) = some false
  kit_NoneType_Spread : PySem.W.kitOne K (.type "NoneType") (.ref (He.ga K "Spread")) = some false
  kit_list_Spread : PySem.W.kitOne K (.type "list") (.ref (He.ga K "Spread")) = some false
  kit_tuple_Spread : PySem.W.kitOne K (.type "tuple") (.ref (He.ga K "Spread")) = some false
  kit_dict_Spread : PySem.W.kitOne K (.type "dict") (.ref (He.ga K "Spread")) = some false
  nq_At : NoEq K (He.ga K "At")
  exm_NoPiece_GoingError : PySem.W.exmOne K (.ref (He.ga K "NoPiece")) (.ref (He.ga K "GoingError")) = some true
  xc_NoPiece : ExcC K (He.ga K "NoPiece")
  kit_NoPiece_GoingError : PySem.W.kitOne K (.ref (He.ga K "NoPiece")) (.ref (He.ga K "GoingError")) = some true
  kit_NoPiece_LackError : PySem.W.kitOne K (.ref (He.ga K "NoPiece")) (.ref (He.ga K "LackError")) = some false
  kit_NoPiece_BookError : PySem.W.kitOne K (.ref (He.ga K "NoPiece")) (.ref (He.ga K "BookError")) = some false
  kit_NoPiece_NoTime : PySem.W.kitOne K (.ref (He.ga K "NoPiece")) (.ref (He.ga K "NoTime")) = some false
  kit_NoPiece_NoPiece : PySem.W.kitOne K (.ref (He.ga K "NoPiece")) (.ref (He.ga K "NoPiece")) = some true
  kit_NoPiece_NoDays : PySem.W.kitOne K (.ref (He.ga K "NoPiece")) (.ref (He.ga K "NoDays")) = some false
  kit_NoPiece_NoCard : PySem.W.kitOne K (.ref (He.ga K "NoPiece")) (.ref (He.ga K "NoCard")) = some false
  kit_NoPiece_NoName : PySem.W.kitOne K (.ref (He.ga K "NoPiece")) (.ref (He.ga K "NoName")) = some false
  kit_NoPiece_NoRow : PySem.W.kitOne K (.ref (He.ga K "NoPiece")) (.ref (He.ga K "NoRow")) = some false
  kit_NoPiece_NoText : PySem.W.kitOne K (.ref (He.ga K "NoPiece")) (.ref (He.ga K "NoText")) = some false
  kit_NoPiece_NoLine : PySem.W.kitOne K (.ref (He.ga K "NoPiece")) (.ref (He.ga K "NoLine")) = some false
  kit_NoPiece_NoGoing : PySem.W.kitOne K (.ref (He.ga K "NoPiece")) (.ref (He.ga K "NoGoing")) = some false
  kit_NoPiece_Needed : PySem.W.kitOne K (.ref (He.ga K "NoPiece")) (.ref (He.ga K "Needed")) = some false
  kit_NoPiece_Taken : PySem.W.kitOne K (.ref (He.ga K "NoPiece")) (.ref (He.ga K "Taken")) = some false
  kit_NoPiece_Round : PySem.W.kitOne K (.ref (He.ga K "NoPiece")) (.ref (He.ga K "Round")) = some false
  kit_NoPiece_TooMuch : PySem.W.kitOne K (.ref (He.ga K "NoPiece")) (.ref (He.ga K "TooMuch")) = some false
  kit_NoPiece_ValueError : PySem.W.kitOne K (.ref (He.ga K "NoPiece")) (.type "ValueError") = some true
  kit_NoPiece_LookupError : PySem.W.kitOne K (.ref (He.ga K "NoPiece")) (.type "LookupError") = some false
  kit_NoPiece_RuntimeError : PySem.W.kitOne K (.ref (He.ga K "NoPiece")) (.type "RuntimeError") = some false
  exm_NoPiece : PySem.W.exmAny K (.ref (He.ga K "NoPiece")) [.ref (He.ga K "GoingError"), .ref (He.ga K "LackError"), .ref (He.ga K "BookError")] = some true
  f_NoText_init : ∃ fd, FunD K "__init__" "NoText.__init__" (defArgs s_NoText_init) (defBody s_NoText_init) (defScope s_NoText_init) [] [] (He.ma K (He.ga K "NoText") "__init__") fd
  f_NoLine_init : ∃ fd, FunD K "__init__" "NoLine.__init__" (defArgs s_NoLine_init) (defBody s_NoLine_init) (defScope s_NoLine_init) [] [] (He.ma K (He.ga K "NoLine") "__init__") fd
  f_NoGoing_init : ∃ fd, FunD K "__init__" "NoGoing.__init__" (defArgs s_NoGoing_init) (defBody s_NoGoing_init) (defScope s_NoGoing_init) [] [] (He.ma K (He.ga K "NoGoing") "__init__") fd
  f_Needed_init : ∃ fd, FunD K "__init__" "Needed.__init__" (defArgs s_Needed_init) (defBody s_Needed_init) (defScope s_Needed_init) [] [] (He.ma K (He.ga K "Needed") "__init__") fd
  f_Taken_init : ∃ fd, FunD K "__init__" "Taken.__init__" (defArgs s_Taken_init) (defBody s_Taken_init) (defScope s_Taken_init) [] [] (He.ma K (He.ga K "Taken") "__init__") fd
  f_Round_init : ∃ fd, FunD K "__init__" "Round.__init__" (defArgs s_Round_init) (defBody s_Round_init) (defScope s_Round_init) [] [] (He.ma K (He.ga K "Round") "__init__") fd
  f_is_minute : ∃ fd, FunD K "is_minute" "is_minute" (defArgs s_is_minute) (defBody s_is_minute) (defScope s_is_minute) [] [] (He.ga K "is_minute") fd
  f_in_rising_order : ∃ fd, FunD K "in_rising_order" "in_rising_order" (defArgs s_in_rising_order) (defBody s_in_rising_order) (defScope s_in_rising_order) [] [] (He.ga K "in_rising_order") fd
  f_is_over : ∃ fd, FunD K "is_over" "is_over" (defArgs s_is_over) (defBody s_is_over) (defScope s_is_over) [] [] (He.ga K "is_over") fd
  f_first_parts : ∃ fd, FunD K "first_parts" "first_parts" (defArgs s_first_parts) (defBody s_first_parts) (defScope s_first_parts) [] [] (He.ga K "first_parts") fd
  f_most_number : ∃ fd, FunD K "most_number" "most_number" (defArgs s_most_number) (defBody s_most_number) (defScope s_most_number) [] [] (He.ga K "most_number") fd
  f_numbers_of : ∃ fd, FunD K "numbers_of" "numbers_of" (defArgs s_numbers_of) (defBody s_numbers_of) (defScope s_numbers_of) [] [] (He.ga K "numbers_of") fd
  f_paper_of : ∃ fd, FunD K "paper_of" "paper_of" (defArgs s_paper_of) (defBody s_paper_of) (defScope s_paper_of) [] [] (He.ga K "paper_of") fd
  f_has_shape : ∃ fd, FunD K "has_shape" "has_shape" (defArgs s_has_shape) (defBody s_has_shape) (defScope s_has_shape) [] [] (He.ga K "has_shape") fd
  f_is_paper : ∃ fd, FunD K "is_paper" "is_paper" (defArgs s_is_paper) (defBody s_is_paper) (defScope s_is_paper) [] [] (He.ga K "is_paper") fd
  f_is_whole : ∃ fd, FunD K "is_whole" "is_whole" (defArgs s_is_whole) (defBody s_is_whole) (defScope s_is_whole) [] [] (He.ga K "is_whole") fd
  f_is_moment : ∃ fd, FunD K "is_moment" "is_moment" (defArgs s_is_moment) (defBody s_is_moment) (defScope s_is_moment) [] [] (He.ga K "is_moment") fd
  f_want_moment : ∃ fd, FunD K "want_moment" "want_moment" (defArgs s_want_moment) (defBody s_want_moment) (defScope s_want_moment) [] [] (He.ga K "want_moment") fd
  f_clock_of : ∃ fd, FunD K "clock_of" "clock_of" (defArgs s_clock_of) (defBody s_clock_of) (defScope s_clock_of) [] [] (He.ga K "clock_of") fd
  f_show_moment : ∃ fd, FunD K "show_moment" "show_moment" (defArgs s_show_moment) (defBody s_show_moment) (defScope s_show_moment) [] [] (He.ga K "show_moment") fd
  f_is_number : ∃ fd, FunD K "is_number" "is_number" (defArgs s_is_number) (defBody s_is_number) (defScope s_is_number) [] [] (He.ga K "is_number") fd
  f_Short_moments : ∃ fd, FunD K "moments" "Short.moments" (defArgs s_Short_moments) (defBody s_Short_moments) (defScope s_Short_moments) [] [] (He.ma K (He.ga K "Short") "moments") fd
  f_Short_pieces : ∃ fd, FunD K "pieces" "Short.pieces" (defArgs s_Short_pieces) (defBody s_Short_pieces) (defScope s_Short_pieces) [] [] (He.ma K (He.ga K "Short") "pieces") fd
  f_Short_begins : ∃ fd, FunD K "begins" "Short.begins" (defArgs s_Short_begins) (defBody s_Short_begins) (defScope s_Short_begins) [] [] (He.ma K (He.ga K "Short") "begins") fd
  f_Short_ends : ∃ fd, FunD K "ends" "Short.ends" (defArgs s_Short_ends) (defBody s_Short_ends) (defScope s_Short_ends) [] [] (He.ma K (He.ga K "Short") "ends") fd
  f_Short_means_many : ∃ fd, FunD K "means_many" "Short.means_many" (defArgs s_Short_means_many) (defBody s_Short_means_many) (defScope s_Short_means_many) [] [] (He.ma K (He.ga K "Short") "means_many") fd
  f_Short_nested : ∃ fd, FunD K "nested" "Short.nested" (defArgs s_Short_nested) (defBody s_Short_nested) (defScope s_Short_nested) [] [] (He.ma K (He.ga K "Short") "nested") fd
  f_all_rising : ∃ fd, FunD K "all_rising" "all_rising" (defArgs s_all_rising) (defBody s_all_rising) (defScope s_all_rising) [] [] (He.ga K "all_rising") fd
  f_shorts_in : ∃ fd, FunD K "shorts_in" "shorts_in" (defArgs s_shorts_in) (defBody s_shorts_in) (defScope s_shorts_in) [] [] (He.ga K "shorts_in") fd
  f_row_moments : ∃ fd, FunD K "row_moments" "row_moments" (defArgs s_row_moments) (defBody s_row_moments) (defScope s_row_moments) [] [] (He.ga K "row_moments") fd
  f_row_many : ∃ fd, FunD K "row_many" "row_many" (defArgs s_row_many) (defBody s_row_many) (defScope s_row_many) [] [] (He.ga K "row_many") fd
  f_row_pieces : ∃ fd, FunD K "row_pieces" "row_pieces" (defArgs s_row_pieces) (defBody s_row_pieces) (defScope s_row_pieces) [] [] (He.ga K "row_pieces") fd
  f_row_text : ∃ fd, FunD K "row_text" "row_text" (defArgs s_row_text) (defBody s_row_text) (defScope s_row_text) [] [] (He.ga K "row_text") fd
  f_At_init : ∃ fd, FunD K "__init__" "At.__init__" (defArgs s_At_init) (defBody s_At_init) (defScope s_At_init) [] [] (He.ma K (He.ga K "At") "__init__") fd
  f_At_moments : ∃ fd, FunD K "moments" "At.moments" (defArgs s_At_moments) (defBody s_At_moments) (defScope s_At_moments) [] [] (He.ma K (He.ga K "At") "moments") fd
  f_At_pieces : ∃ fd, FunD K "pieces" "At.pieces" (defArgs s_At_pieces) (defBody s_At_pieces) (defScope s_At_pieces) [] [] (He.ma K (He.ga K "At") "pieces") fd
  f_At_begins : ∃ fd, FunD K "begins" "At.begins" (defArgs s_At_begins) (defBody s_At_begins) (defScope s_At_begins) [] [] (He.ma K (He.ga K "At") "begins") fd
  f_At_ends : ∃ fd, FunD K "ends" "At.ends" (defArgs s_At_ends) (defBody s_At_ends) (defScope s_At_ends) [] [] (He.ma K (He.ga K "At") "ends") fd
  f_At_means_many : ∃ fd, FunD K "means_many" "At.means_many" (defArgs s_At_means_many) (defBody s_At_means_many) (defScope s_At_means_many) [] [] (He.ma K (He.ga K "At") "means_many") fd
  f_At_nested : ∃ fd, FunD K "nested" "At.nested" (defArgs s_At_nested) (defBody s_At_nested) (defScope s_At_nested) [] [] (He.ma K (He.ga K "At") "nested") fd
  f_At_str : ∃ fd, FunD K "__str__" "At.__str__" (defArgs s_At_str) (defBody s_At_str) (defScope s_At_str) [] [] (He.ma K (He.ga K "At") "__str__") fd
  f_Over_init : ∃ fd, FunD K "__init__" "Over.__init__" (defArgs s_Over_init) (defBody s_Over_init) (defScope s_Over_init) [.int (2), .int (60)] [] (He.ma K (He.ga K "Over") "__init__") fd
  f_Over_parts : ∃ fd, FunD K "parts" "Over.parts" (defArgs s_Over_parts) (defBody s_Over_parts) (defScope s_Over_parts) [] [] (He.ma K (He.ga K "Over") "parts") fd
  f_Over_moments : ∃ fd, FunD K "moments" "Over.moments" (defArgs s_Over_moments) (defBody s_Over_moments) (defScope s_Over_moments) [] [] (He.ma K (He.ga K "Over") "moments") fd
  f_Over_pieces : ∃ fd, FunD K "pieces" "Over.pieces" (defArgs s_Over_pieces) (defBody s_Over_pieces) (defScope s_Over_pieces) [] [] (He.ma K (He.ga K "Over") "pieces") fd
  f_Over_begins : ∃ fd, FunD K "begins" "Over.begins" (defArgs s_Over_begins) (defBody s_Over_begins) (defScope s_Over_begins) [] [] (He.ma K (He.ga K "Over") "begins") fd
  f_Over_ends : ∃ fd, FunD K "ends" "Over.ends" (defArgs s_Over_ends) (defBody s_Over_ends) (defScope s_Over_ends) [] [] (He.ma K (He.ga K "Over") "ends") fd
  f_Over_means_many : ∃ fd, FunD K "means_many" "Over.means_many" (defArgs s_Over_means_many) (defBody s_Over_means_many) (defScope s_Over_means_many) [] [] (He.ma K (He.ga K "Over") "means_many") fd
  f_Over_nested : ∃ fd, FunD K "nested" "Over.nested" (defArgs s_Over_nested) (defBody s_Over_nested) (defScope s_Over_nested) [] [] (He.ma K (He.ga K "Over") "nested") fd
  f_Over_str : ∃ fd, FunD K "__str__" "Over.__str__" (defArgs s_Over_str) (defBody s_Over_str) (defScope s_Over_str) [] [] (He.ma K (He.ga K "Over") "__str__") fd
  f_Spread_init : ∃ fd, FunD K "__init__" "Spread.__init__" (defArgs s_Spread_init) (defBody s_Spread_init) (defScope s_Spread_init) [] [] (He.ma K (He.ga K "Spread") "__init__") fd
  f_Spread_parts : ∃ fd, FunD K "parts" "Spread.parts" (defArgs s_Spread_parts) (defBody s_Spread_parts) (defScope s_Spread_parts) [] [] (He.ma K (He.ga K "Spread") "parts") fd
  f_Spread_moments : ∃ fd, FunD K "moments" "Spread.moments" (defArgs s_Spread_moments) (defBody s_Spread_moments) (defScope s_Spread_moments) [] [] (He.ma K (He.ga K "Spread") "moments") fd
  f_Spread_pieces : ∃ fd, FunD K "pieces" "Spread.pieces" (defArgs s_Spread_pieces) (defBody s_Spread_pieces) (defScope s_Spread_pieces) [] [] (He.ma K (He.ga K "Spread") "pieces") fd
  f_Spread_eq : ∃ fd, FunD K "__eq__" "Spread.__eq__" (defArgs s_Spread_eq) (defBody s_Spread_eq) (defScope s_Spread_eq) [] [] (He.ma K (He.ga K "Spread") "__eq__") fd
  f_Spread_len : ∃ fd, FunD K "__len__" "Spread.__len__" (defArgs s_Spread_len) (defBody s_Spread_len) (defScope s_Spread_len) [] [] (He.ma K (He.ga K "Spread") "__len__") fd
  f_Spread_str : ∃ fd, FunD K "__str__" "Spread.__str__" (defArgs s_Spread_str) (defBody s_Spread_str) (defScope s_Spread_str) [] [] (He.ma K (He.ga K "Spread") "__str__") fd
  f_Spread_repr : ∃ fd, FunD K "__repr__" "Spread.__repr__" (defArgs s_Spread_repr) (defBody s_Spread_repr) (defScope s_Spread_repr) [] [] (He.ma K (He.ga K "Spread") "__repr__") fd
  f_first_size : ∃ fd, FunD K "first_size" "first_size" (defArgs s_first_size) (defBody s_first_size) (defScope s_first_size) [] [] (He.ga K "first_size") fd
  f_over_part : ∃ fd, FunD K "over_part" "over_part" (defArgs s_over_part) (defBody s_over_part) (defScope s_over_part) [] [] (He.ga K "over_part") fd
  f_short_of : ∃ fd, FunD K "short_of" "short_of" (defArgs s_short_of) (defBody s_short_of) (defScope s_short_of) [] [] (He.ga K "short_of") fd
  f_shorts_of : ∃ fd, FunD K "shorts_of" "shorts_of" (defArgs s_shorts_of) (defBody s_shorts_of) (defScope s_shorts_of) [] [] (He.ga K "shorts_of") fd
  f_shortest : ∃ fd, FunD K "shortest" "shortest" (defArgs s_shortest) (defBody s_shortest) (defScope s_shortest) [] [] (He.ga K "shortest") fd
  f__law_pot : ∃ fd, FunD K "_law_pot" "_law_pot" (defArgs s__law_pot) (defBody s__law_pot) (defScope s__law_pot) [] [] (He.ga K "_law_pot") fd
  f__law_draw : ∃ fd, FunD K "_law_draw" "_law_draw" (defArgs s__law_draw) (defBody s__law_draw) (defScope s__law_draw) [] [] (He.ga K "_law_draw") fd
  f__law_good : ∃ fd, FunD K "_law_good" "_law_good" (defArgs s__law_good) (defBody s__law_good) (defScope s__law_good) [] [] (He.ga K "_law_good") fd
  f__law_odd : ∃ fd, FunD K "_law_odd" "_law_odd" (defArgs s__law_odd) (defBody s__law_odd) (defScope s__law_odd) [] [] (He.ga K "_law_odd") fd
  f__law_bad : ∃ fd, FunD K "_law_bad" "_law_bad" (defArgs s__law_bad) (defBody s__law_bad) (defScope s__law_bad) [] [] (He.ga K "_law_bad") fd
  f__law_kinds : ∃ fd, FunD K "_law_kinds" "_law_kinds" (defArgs s__law_kinds) (defBody s__law_kinds) (defScope s__law_kinds) [] [] (He.ga K "_law_kinds") fd
  f__law_asked : ∃ fd, FunD K "_law_asked" "_law_asked" (defArgs s__law_asked) (defBody s__law_asked) (defScope s__law_asked) [] [] (He.ga K "_law_asked") fd
  f_law : ∃ fd, FunD K "law" "law" (defArgs s_law) (defBody s_law) (defScope s_law) [] [] (He.ga K "law") fd
end Toy
namespace Toy
open PySem PySem.Spec PyProof.Rows L2 L3
theorem Env.k_is_minute {K : PySem.W.Frag} {mg : Str → Option Value} (T : Env K mg) : PySem.W.keepIn K (.ref (He.ga K "is_minute")) = true := let ⟨_, F⟩ := T.f_is_minute; F.kp
theorem Env.k_in_rising_order {K : PySem.W.Frag} {mg : Str → Option Value} (T : Env K mg) : PySem.W.keepIn K (.ref (He.ga K "in_rising_order")) = true := let ⟨_, F⟩ := T.f_in_rising_order; F.kp
theorem Env.k_is_over {K : PySem.W.Frag} {mg : Str → Option Value} (T : Env K mg) : PySem.W.keepIn K (.ref (He.ga K "is_over")) = true := let ⟨_, F⟩ := T.f_is_over; F.kp
theorem Env.k_first_parts {K : PySem.W.Frag} {mg : Str → Option Value} (T : Env K mg) : PySem.W.keepIn K (.ref (He.ga K "first_parts")) = true := let ⟨_, F⟩ := T.f_first_parts; F.kp
theorem Env.k_most_number {K : PySem.W.Frag} {mg : Str → Option Value} (T : Env K mg) : PySem.W.keepIn K (.ref (He.ga K "most_number")) = true := let ⟨_, F⟩ := T.f_most_number; F.kp
theorem Env.k_numbers_of {K : PySem.W.Frag} {mg : Str → Option Value} (T : Env K mg) : PySem.W.keepIn K (.ref (He.ga K "numbers_of")) = true := let ⟨_, F⟩ := T.f_numbers_of; F.kp
theorem Env.k_paper_of {K : PySem.W.Frag} {mg : Str → Option Value} (T : Env K mg) : PySem.W.keepIn K (.ref (He.ga K "paper_of")) = true := let ⟨_, F⟩ := T.f_paper_of; F.kp
theorem Env.k_has_shape {K : PySem.W.Frag} {mg : Str → Option Value} (T : Env K mg) : PySem.W.keepIn K (.ref (He.ga K "has_shape")) = true := let ⟨_, F⟩ := T.f_has_shape; F.kp
theorem Env.k_is_paper {K : PySem.W.Frag} {mg : Str → Option Value} (T : Env K mg) : PySem.W.keepIn K (.ref (He.ga K "is_paper")) = true := let ⟨_, F⟩ := T.f_is_paper; F.kp
theorem Env.k_is_number {K : PySem.W.Frag} {mg : Str → Option Value} (T : Env K mg) : PySem.W.keepIn K (.ref (He.ga K "is_number")) = true := let ⟨_, F⟩ := T.f_is_number; F.kp
theorem Env.k_all_rising {K : PySem.W.Frag} {mg : Str → Option Value} (T : Env K mg) : PySem.W.keepIn K (.ref (He.ga K "all_rising")) = true := let ⟨_, F⟩ := T.f_all_rising; F.kp
theorem Env.k_shorts_in {K : PySem.W.Frag} {mg : Str → Option Value} (T : Env K mg) : PySem.W.keepIn K (.ref (He.ga K "shorts_in")) = true := let ⟨_, F⟩ := T.f_shorts_in; F.kp
theorem Env.k_row_moments {K : PySem.W.Frag} {mg : Str → Option Value} (T : Env K mg) : PySem.W.keepIn K (.ref (He.ga K "row_moments")) = true := let ⟨_, F⟩ := T.f_row_moments; F.kp
theorem Env.k_row_many {K : PySem.W.Frag} {mg : Str → Option Value} (T : Env K mg) : PySem.W.keepIn K (.ref (He.ga K "row_many")) = true := let ⟨_, F⟩ := T.f_row_many; F.kp
theorem Env.k_first_size {K : PySem.W.Frag} {mg : Str → Option Value} (T : Env K mg) : PySem.W.keepIn K (.ref (He.ga K "first_size")) = true := let ⟨_, F⟩ := T.f_first_size; F.kp
theorem Env.k_over_part {K : PySem.W.Frag} {mg : Str → Option Value} (T : Env K mg) : PySem.W.keepIn K (.ref (He.ga K "over_part")) = true := let ⟨_, F⟩ := T.f_over_part; F.kp
theorem Env.k_short_of {K : PySem.W.Frag} {mg : Str → Option Value} (T : Env K mg) : PySem.W.keepIn K (.ref (He.ga K "short_of")) = true := let ⟨_, F⟩ := T.f_short_of; F.kp
theorem Env.k_shorts_of {K : PySem.W.Frag} {mg : Str → Option Value} (T : Env K mg) : PySem.W.keepIn K (.ref (He.ga K "shorts_of")) = true := let ⟨_, F⟩ := T.f_shorts_of; F.kp
theorem Env.k_shortest {K : PySem.W.Frag} {mg : Str → Option Value} (T : Env K mg) : PySem.W.keepIn K (.ref (He.ga K "shortest")) = true := let ⟨_, F⟩ := T.f_shortest; F.kp
theorem Env.k__law_pot {K : PySem.W.Frag} {mg : Str → Option Value} (T : Env K mg) : PySem.W.keepIn K (.ref (He.ga K "_law_pot")) = true := let ⟨_, F⟩ := T.f__law_pot; F.kp
theorem Env.k__law_draw {K : PySem.W.Frag} {mg : Str → Option Value} (T : Env K mg) : PySem.W.keepIn K (.ref (He.ga K "_law_draw")) = true := let ⟨_, F⟩ := T.f__law_draw; F.kp
theorem Env.k__law_good {K : PySem.W.Frag} {mg : Str → Option Value} (T : Env K mg) : PySem.W.keepIn K (.ref (He.ga K "_law_good")) = true := let ⟨_, F⟩ := T.f__law_good; F.kp
theorem Env.k__law_odd {K : PySem.W.Frag} {mg : Str → Option Value} (T : Env K mg) : PySem.W.keepIn K (.ref (He.ga K "_law_odd")) = true := let ⟨_, F⟩ := T.f__law_odd; F.kp
theorem Env.k__law_bad {K : PySem.W.Frag} {mg : Str → Option Value} (T : Env K mg) : PySem.W.keepIn K (.ref (He.ga K "_law_bad")) = true := let ⟨_, F⟩ := T.f__law_bad; F.kp
theorem Env.k__law_kinds {K : PySem.W.Frag} {mg : Str → Option Value} (T : Env K mg) : PySem.W.keepIn K (.ref (He.ga K "_law_kinds")) = true := let ⟨_, F⟩ := T.f__law_kinds; F.kp
theorem Env.k__law_asked {K : PySem.W.Frag} {mg : Str → Option Value} (T : Env K mg) : PySem.W.keepIn K (.ref (He.ga K "_law_asked")) = true := let ⟨_, F⟩ := T.f__law_asked; F.kp
section
def sp_is_minute (K : PySem.W.Frag) : Sp := fun vs H Q _ => ∃ x, vs = [x] ∧ Cl K H x ∧ Q (.bl (isM x)) H
theorem fb_is_minute {P : Program} {w : World} {K : PySem.W.Frag} {mg : Str → Option Value} {base : Heap} (T : Env K mg) : ∃ fd, FunD K "is_minute" "is_minute" (defArgs s_is_minute) (defBody s_is_minute) (defScope s_is_minute) [] [] (He.ga K "is_minute") fd ∧ Fb P w K mg base 1 (He.ga K "is_minute") fd ["thing"] (sp_is_minute K) := by
  obtain ⟨fd, F⟩ := T.f_is_minute
  refine ⟨fd, F, fb_of F sc_is_minute (fun vs H Q E h => ?_) (fun cdv A outer s H vs Q E hr h => ?_)⟩
  · obtain ⟨x, rfl, _⟩ := h
    rfl
  · obtain ⟨x, rfl, ⟨t, b, c, ty, h1, h2, e⟩, q⟩ := h
    refine ⟨_, (pss_one (ps_ret (pe_and (pe_callB call_isi (by rfl) T.n_isinstance (by decide +kernel) (pa_cons (pv 0) (pa_cons (pe_bltn (v := .ty "int") (by rfl) T.n_int (by decide +kernel) rfl) pa_nil))) (pe_and (pe_not (pe_callB call_isi (by rfl) T.n_isinstance (by decide +kernel) (pa_cons (pv 0) (pa_cons (pe_bltn (v := .ty "bool") (by rfl) T.n_bool (by decide +kernel) rfl) pa_nil)))) (pe_one (pe_cmpR op_ge (pv 0) pe_int (nomark _))))))), ?_⟩
    refine ⟨x, rfl, x, .ty "int", t, _, b, rfl, .ty "int", ty, h1, b, rfl, ?_⟩
    cases b with
    | false => 
      rw [isM_f e] at q
      exact q
    | true =>
      refine ⟨x, rfl, x, .ty "bool", t, _, c, rfl, .ty "bool", ty, h2, c, rfl, ?_⟩
      cases c with
      | true =>
        rw [isM_f e] at q
        exact ⟨false, rfl, q⟩
      | false =>
        refine ⟨true, rfl, iteT ?_⟩
        cases x with
        | int i => exact ⟨_, rfl, i, 0, rfl, rfl, q⟩
        | _ => cases e
theorem ok_is_minute {P : Program} {w : World} {K : PySem.W.Frag} {mg : Str → Option Value} {base : Heap} (T : Env K mg) : Fc P w K mg base 1 (He.ga K "is_minute") [] (sp_is_minute K ) := by
  obtain ⟨fd, D, F⟩ := fb_is_minute T
  exact F.all (D.bindsN fun _ _ _ _ _ _ us hl => match us, hl with | [_], _ => rfl)
end
section
/-- whole numbers as values -/
def natV (ns : List Nat) : List V := ns.map fun n : Nat => V.int (n : Int)
/-- in order -/
def srtN (ns : List Nat) : List Nat := (srt (ns.map fun n : Nat => (n : Int))).map Int.toNat
theorem nat_int (ns : List Nat) : natV ns = (ns.map fun n : Nat => (n : Int)).map V.int := by
  unfold natV
  rw [List.map_map]
  rfl
theorem inV_nat (d : Nat) (ns : List Nat) : inV (.int (d : Int)) (natV ns) = decide (d ∈ ns) := by
  rw [nat_int, inV_int]
  apply decide_eq_decide.mpr
  constructor
  · intro h
    obtain ⟨n, hn, e⟩ := List.mem_map.mp h
    have : n = d := by omega
    exact this ▸ hn
  · intro h
    exact List.mem_map.mpr ⟨d, h, rfl⟩
theorem flat_nat (ns : List Nat) : (natV ns).all flatV = true := by
  rw [nat_int]
  exact flat_ints _
theorem natV_len (ns : List Nat) : (natV ns).length = ns.length := by
  unfold natV
  rw [List.length_map]
theorem srtN_len (ns : List Nat) : (srtN ns).length = ns.length := by
  unfold srtN
  rw [List.length_map, (srt_perm _).length_eq, List.length_map]
theorem natV_srt (ns : List Nat) : (srt (ns.map fun n : Nat => (n : Int))).map V.int = natV (srtN ns) := by
  unfold natV srtN
  rw [List.map_map]
  apply List.map_congr_left
  intro i hi
  obtain ⟨n, _, e⟩ := List.mem_map.mp ((srt_perm _).subset hi)
  show V.int i = V.int ((i.toNat : Nat) : Int)
  rw [Int.toNat_of_nonneg (by omega)]
theorem srtN_lt {ns : List Nat} (h : ns.Nodup) : (srtN ns).Pairwise (· < ·) := by
  have h1 : (srt (ns.map fun n : Nat => (n : Int))).Pairwise (· ≤ ·) := srt_sorted _
  have h2 : (srt (ns.map fun n : Nat => (n : Int))).Nodup := (srt_perm _).nodup_iff.mpr (List.Pairwise.map _ (fun a b (hab : a ≠ b) (z : (a : Int) = b) => hab (by omega)) h)
  unfold srtN
  refine List.pairwise_map.mpr ?_
  have h0 : ∀ i ∈ srt (ns.map fun n : Nat => (n : Int)), 0 ≤ i := fun i hi => by
    obtain ⟨n, _, e⟩ := List.mem_map.mp ((srt_perm _).subset hi)
    omega
  refine (List.Pairwise.and h1 h2).imp_of_mem fun {a b} ha hb z => ?_
  have := h0 a ha
  have := h0 b hb
  have := z.1
  have : a ≠ b := z.2
  omega
theorem cut1 (xs : List V) : cutV xs (some 1) none = xs.drop 1 := by
  unfold cutV
  rw [HT.sIx_none, show (some (1 : Int)) = some ((1 : Nat) : Int) from rfl, HT.sIx_nat]
  cases xs with
  | nil => rfl
  | cons x r =>
    rw [show min 1 (x :: r).length = 1 by simp]
    exact List.take_of_length_le (by simp)
theorem natV_snoc (ns : List Nat) (n : Nat) : natV ns ++ [.int (n : Int)] = natV (ns ++ [n]) := by
  unfold natV
  rw [List.map_append]
  rfl
theorem natV_get {ns : List Nat} {k n : Nat} (h : ns[k]? = some n) : (natV ns)[k]? = some (.int (n : Int)) := by
  unfold natV
  rw [List.getElem?_map, h]
  rfl
/-- a comprehension's truths -/
theorem fm_bl (n : Nat) (f : Nat → Bool) : (List.range n).filterMap (fun i => some (V.bl (f i))) = ((List.range n).map f).map V.bl := by
  rw [List.filterMap_eq_map', List.map_map]
  rfl
theorem all_id (n : Nat) (f : Nat → Bool) : ((List.range n).map f).all id = (List.range n).all f := by
  rw [List.all_map]
  rfl
theorem vint_dec (a b : Int) : decide (V.int a = V.int b) = decide (a = b) := decide_eq_decide.mpr ⟨fun h => by injection h, fun h => by rw [h]⟩
end
section
/-- the days of a list that is handed in, none where they are none -/
def dayNum : V → Nat
  | .int i => i.toNat
  | _ => 0
theorem natV_isM (ns : List Nat) : (natV ns).all isM = true := by
  rw [List.all_eq_true]
  intro x hx
  obtain ⟨n, _, rfl⟩ := List.mem_map.mp hx
  exact isM_nat n
theorem natV_num (ns : List Nat) : (natV ns).map dayNum = ns := by
  unfold natV
  rw [List.map_map]
  have : (dayNum ∘ fun n : Nat => V.int (n : Int)) = id := funext fun n => by simp [dayNum]
  rw [this, List.map_id]
theorem isM_natV : ∀ {xs : List V}, xs.all isM = true → xs = natV (xs.map dayNum)
  | [], _ => rfl
  | x :: xs, h => by
    obtain ⟨h1, h2⟩ := Bool.and_eq_true_iff.mp (show (isM x && xs.all isM) = true from h)
    obtain ⟨i, rfl, i0⟩ := isM_w h1
    obtain ⟨n, rfl⟩ := Int.eq_ofNat_of_zero_le i0
    have ih := isM_natV h2
    show V.int (n : Nat) :: xs = V.int (((Int.ofNat n).toNat : Nat) : Int) :: natV (xs.map dayNum)
    rw [← ih]
    rfl
/-- neighbours that are alike -/
def alikeN (l : List Nat) : List Bool := (l.zip (l.drop 1)).map fun p => decide (p.1 = p.2)
theorem alike_any {l : List Nat} (h : l.Pairwise (· ≤ ·)) : (alikeN l).any id = !decide l.Nodup := by
  induction l with
  | nil => rfl
  | cons a l ih =>
    obtain ⟨h1, h2⟩ := List.pairwise_cons.mp h
    have ih := ih h2
    cases l with
    | nil => rfl
    | cons b r =>
      have e : alikeN (a :: b :: r) = decide (a = b) :: alikeN (b :: r) := rfl
      rw [e, List.any_cons, ih]
      by_cases c : a = b
      · have nn : ¬ (a :: b :: r).Nodup := fun z => (List.pairwise_cons.mp z).1 b List.mem_cons_self c
        rw [decide_eq_false nn, decide_eq_true c]
        rfl
      · have iff : (a :: b :: r).Nodup ↔ (b :: r).Nodup := by
          refine ⟨fun z => (List.pairwise_cons.mp z).2, fun z => List.pairwise_cons.mpr ⟨fun x hx ex => ?_, z⟩⟩
          subst ex
          have hb := h1 b List.mem_cons_self
          rcases List.mem_cons.mp hx with hx | hx
          · exact c hx
          · have := (List.pairwise_cons.mp h2).1 a hx
            omega
        rw [decide_eq_false c, show decide (a :: b :: r).Nodup = decide (b :: r).Nodup from decide_eq_decide.mpr iff]
        rfl
theorem srtN_le (ns : List Nat) : (srtN ns).Pairwise (· ≤ ·) := by
  unfold srtN
  refine List.pairwise_map.mpr ((srt_sorted _).imp fun {a b} h => ?_)
  omega
theorem srtN_nodup (ns : List Nat) : decide (srtN ns).Nodup = decide ns.Nodup := by
  apply decide_eq_decide.mpr
  have p : (srtN ns).Perm ns := by
    unfold srtN
    have := (srt_perm (ns.map fun n : Nat => (n : Int))).map Int.toNat
    rw [List.map_map] at this
    have e : (Int.toNat ∘ fun n : Nat => (n : Int)) = id := funext fun n => by simp
    rw [e, List.map_id] at this
    exact this
  exact p.nodup_iff
end
section
def gN (ns : List Nat) (i : Nat) : Nat := ns.getD i 0
theorem natV_at {ns : List Nat} {i : Int} {k : Nat} (e : i = (k : Int)) (h : k < ns.length) : atI (natV ns) i = some (.int ((gN ns k : Nat) : Int)) := by
  subst e
  refine atI_nat (natV_get ?_)
  unfold gN
  rw [List.getD_eq_getElem?_getD, List.getElem?_eq_getElem h]
  rfl
/-- a stretch is its first part over and over -/
def isOv (ns : List Nat) (b p s : Nat) : Bool := (List.range (s - p)).all fun i => decide ((gN ns (b + i + p) : Int) - gN ns (b + i) = (gN ns (b + p) : Int) - gN ns b)
def firstB (ns : List Nat) (b s i : Nat) : Bool := decide (s % (i + 1) = 0) && isOv ns b (i + 1) s
def firstP (ns : List Nat) (b s : Nat) : List Nat := (List.range (s - 1)).filterMap fun i => if firstB ns b s i = true then some (i + 1) else none
def pg (pap : List (List Int)) (i j : Nat) : Int := (pap.getD i []).getD j 0
def cutsP (pap : List (List Int)) (b s : Nat) : List Int := (List.range (s - 1)).map fun i => pg pap b i + pg pap (b + i + 1) (s - i - 2)
def oversP (ns : List Nat) (pap : List (List Int)) (b s : Nat) : List Int := (firstP ns b s).map fun p => pg pap b (p - 1) + 1
def minI : List Int → Int
  | [] => 0
  | x :: r => if r = [] then x else min x (minI r)
theorem minI_mem : ∀ {l : List Int}, l ≠ [] → minI l ∈ l ∧ ∀ y ∈ l, minI l ≤ y
  | [], h => absurd rfl h
  | x :: r, _ => by
    unfold minI
    by_cases c : r = []
    · rw [if_pos c, c]
      exact ⟨List.mem_cons_self, fun y hy => by rw [List.mem_singleton.mp hy]; exact Int.le_refl _⟩
    · rw [if_neg c]
      obtain ⟨h1, h2⟩ := minI_mem c
      constructor
      · by_cases z : x ≤ minI r
        · rw [Int.min_eq_left z]
          exact List.mem_cons_self
        · rw [Int.min_eq_right (by omega)]
          exact List.mem_cons_of_mem _ h1
      · intro y hy
        rcases List.mem_cons.mp hy with rfl | hy
        · exact Int.min_le_left _ _
        · exact Int.le_trans (Int.min_le_right _ _) (h2 y hy)
theorem minI_eq {l : List Int} {m : Int} (h : m ∈ l) (h2 : ∀ y ∈ l, m ≤ y) : m = minI l := by
  have h0 : l ≠ [] := fun z => by rw [z] at h; cases h
  obtain ⟨g1, g2⟩ := minI_mem h0
  exact Int.le_antisymm (h2 _ g1) (g2 _ h)
def mostP (ns : List Nat) (pap : List (List Int)) (b s : Nat) : Int := if s = 1 then 1 else minI (cutsP pap b s ++ oversP ns pap b s)
/-- what the greatest number of a stretch is found by is there -/
def Fits (pap : List (List Int)) (b s : Nat) : Prop := ∀ i j, i + j < s → (i = 0 → j + 1 < s) → b + i < pap.length ∧ j < (pap.getD (b + i) []).length
/-- at a a paper -/
def PapAt (K : PySem.W.Frag) (H : Hp) (a : Addr) (pap : List (List Int)) : Prop := ∃ as : List Addr, SqS K H a (as.map V.ref) ∧ as.length = pap.length ∧ ∀ (i : Nat) (b : Addr) (r : List Int), as[i]? = some b → pap[i]? = some r → SqS K H b (r.map V.int)
theorem PapAt.mono {K : PySem.W.Frag} {H H' : Hp} {a : Addr} {pap : List (List Int)} (h : PapAt K H a pap) (e : Ex H H') : PapAt K H' a pap := by
  obtain ⟨as, h1, h2, h3⟩ := h
  exact ⟨as, h1.mono e, h2, fun i b r hi hr => (h3 i b r hi hr).mono e⟩
theorem PapAt.get {K : PySem.W.Frag} {H : Hp} {a : Addr} {pap : List (List Int)} (h : PapAt K H a pap) {x : Int} {i : Nat} (e : x = (i : Int)) (hi : i < pap.length) : ∃ (b : Addr) (xs : List V), SqS K H a xs ∧ atI xs x = some (.ref b) ∧ SqS K H b ((pap.getD i []).map V.int) := by
  obtain ⟨as, h1, h2, h3⟩ := h
  have ha : i < as.length := by omega
  have e1 := List.getElem?_eq_getElem ha
  have e2 := List.getElem?_eq_getElem hi
  refine ⟨as[i], _, h1, ?_, ?_⟩
  · rw [e]
    exact atI_nat (by rw [List.getElem?_map, e1]; rfl)
  · have e3 : pap.getD i [] = pap[i] := by rw [List.getD_eq_getElem?_getD, e2]; rfl
    rw [e3]
    exact h3 i _ _ e1 e2
theorem ints_at {r : List Int} {x : Int} {j : Nat} (e : x = (j : Int)) (h : j < r.length) : atI (r.map V.int) x = some (.int (r.getD j 0)) := by
  rw [e]
  refine atI_nat ?_
  rw [List.getElem?_map, List.getElem?_eq_getElem h, List.getD_eq_getElem?_getD, List.getElem?_eq_getElem h]
  rfl
/-- pap[i][j] -/
theorem pap_ix {K : PySem.W.Frag} {H : Hp} {a : Addr} {pap : List (List Int)} (h : PapAt K H a pap) {x : Int} {i : Nat} (e : x = (i : Int)) (hi : i < pap.length) {Q : VK} (q : ∀ b, SqS K H b ((pap.getD i []).map V.int) → Q (.ref b) H) : rIxA K (.ref a) (.int x) H Q := by
  obtain ⟨b, xs, h1, h2, h3⟩ := h.get e hi
  exact ⟨a, xs, x, _, rfl, rfl, h1, h2, q b h3⟩
theorem row_ix {K : PySem.W.Frag} {H : Hp} {b : Addr} {r : List Int} (h : SqS K H b (r.map V.int)) {x : Int} {j : Nat} (e : x = (j : Int)) (hj : j < r.length) {Q : VK} (q : Q (.int (r.getD j 0)) H) : rIxA K (.ref b) (.int x) H Q := ⟨b, _, x, _, rfl, rfl, h, ints_at e hj, q⟩
def shapeB (pap : List (List Int)) (n : Nat) : Bool := decide (pap.length = n) && (List.range pap.length).all fun i => decide (((pap.getD i []).length : Int) = (n : Int) - (i : Int))
theorem shape_fits {pap : List (List Int)} {n b s : Nat} (h : shapeB pap n = true) (hb : b + s ≤ n) : Fits pap b s := by
  unfold shapeB at h
  obtain ⟨h1, h2⟩ := Bool.and_eq_true_iff.mp h
  have l := of_decide_eq_true h1
  intro i j hij hi
  have hl : b + i < pap.length := by omega
  have z := of_decide_eq_true (List.all_eq_true.mp h2 (b + i) (List.mem_range.mpr hl))
  exact ⟨hl, by omega⟩
def rowB (ns : List Nat) (pap : List (List Int)) (b : Nat) : Bool := (List.range (ns.length - b)).all fun j => decide (pg pap b j ≤ mostP ns pap b (j + 1))
def paperB (ns : List Nat) (pap : List (List Int)) : Bool := shapeB pap ns.length && (List.range ns.length).all fun b => rowB ns pap b
end
section
/-- the moments of a list that is handed in, none where it is none -/
def momList (xs : List V) : Option (List Nat) := if (xs.all isM && decide (xs.map dayNum).Nodup) = true then some (xs.map dayNum) else none
/-- what is handed in for a list of moments, and what it tells -/
def MomG (K : PySem.W.Frag) (H : Hp) (x : V) (r : Option (List Nat)) : Prop := (∃ a xs, x = .ref a ∧ (H a = some (.lst xs) ∨ H a = some (.tup xs)) ∧ xs.length ≤ 10000 ∧ (∀ y ∈ xs, Cl K H y) ∧ r = momList xs) ∨ ((∃ t, TyX K H x t ∧ PySem.W.kitAny K t [.type "list", .type "tuple"] = some false) ∧ r = none)
theorem MomG.mono {K : PySem.W.Frag} {H H' : Hp} {x : V} {r : Option (List Nat)} (h : MomG K H x r) (e : Ex H H') : MomG K H' x r := by
  rcases h with ⟨a, xs, h1, h2, h3, h4, h5⟩ | ⟨⟨t, h2, h3⟩, h4⟩
  · exact .inl ⟨a, xs, h1, h2.imp (e _ _) (e _ _), h3, fun y hy => (h4 y hy).mono e, h5⟩
  · exact .inr ⟨⟨t, tyX_mono e h2, h3⟩, h4⟩
theorem momList_nat (ns : List Nat) : momList (natV ns) = if ns.Nodup then some ns else none := by
  unfold momList
  rw [natV_isM, natV_num, Bool.true_and]
  by_cases c : ns.Nodup
  · rw [if_pos (decide_eq_true c), if_pos c]
  · rw [if_neg (fun z => c (of_decide_eq_true z)), if_neg c]
theorem momG_nat {K : PySem.W.Frag} {H : Hp} {a : Addr} {ns : List Nat} (h : H a = some (.lst (natV ns)) ∨ H a = some (.tup (natV ns))) (hl : ns.length ≤ 10000) (hn : ns.Nodup) : MomG K H (.ref a) (some ns) := by
  refine .inl ⟨a, natV ns, rfl, h, by rw [natV_len]; exact hl, fun y hy => ?_, ?_⟩
  · obtain ⟨n, _, rfl⟩ := List.mem_map.mp hy
    exact cl_int _
  · rw [momList_nat, if_pos hn]
def sp_in_rising_order (K : PySem.W.Frag) : Sp := fun vs H Q E => ∃ x r, vs = [x] ∧ MomG K H x r ∧ (∀ ns, r = some ns → ∀ p H', Ex H H' → H p = none → H' p = some (.lst (natV (srtN ns))) → Q (.ref p) H') ∧ (r = none → ∀ H', Ex H H' → E (.ref (He.ga K "NoPiece")) none H')
theorem fb_in_rising_order {P : Program} {w : World} {K : PySem.W.Frag} {mg : Str → Option Value} {base : Heap} (T : Env K mg) : ∃ fd, FunD K "in_rising_order" "in_rising_order" (defArgs s_in_rising_order) (defBody s_in_rising_order) (defScope s_in_rising_order) [] [] (He.ga K "in_rising_order") fd ∧ Fb P w K mg base 2 (He.ga K "in_rising_order") fd ["moments"] (sp_in_rising_order K) := by
  obtain ⟨fd, F⟩ := T.f_in_rising_order
  refine ⟨fd, F, fb_of F sc_in_rising_order (fun vs H Q E h => ?_) (fun cdv A outer s H vs Q E hr h => ?_)⟩
  · obtain ⟨x, ns, rfl, _⟩ := h
    rfl
  · obtain ⟨x, r, rfl, hx, q, qe⟩ := h
    refine ⟨_, (pss_cons (ps_if (PW.pt (pw_or (pt_not (pt_val (pe_callB call_isiT (by rfl) T.n_isinstance (by decide +kernel) (pa_cons (pv 0) (pa_cons (pe_tup (pa_cons (pe_bltn (v := .ty "list") (by rfl) T.n_list (by decide +kernel) rfl) (pa_cons (pe_bltn (v := .ty "tuple") (by rfl) T.n_tuple (by decide +kernel) rfl) pa_nil))) pa_nil))))) (pw_or1 (pt_not (pt_val (pe_callB (cr_all rfl) (by rfl) T.n_all (by decide +kernel) (pa_cons (pe_lc (own := [("one", 2)]) (by rfl) sc_in_rising_order.nd (pi_seqB (pv 0) K) (blkOk_by (own := [("one", 2)]) (N := ["moments", "row", "one", "other"]) (sc := defScope s_in_rising_order) (by decide +kernel)) (fun _ _ _ _ _ => (pg_name (i := 2) sc_in_rising_order.nd rfl (Or.inl rfl))) (fun _ _ _ _ _ => pts_nil) (fun _ _ _ _ _ => (c_call (ok_is_minute T) (hr.mono (by decide)) T.g_is_minute T.k_is_minute takes0 (pa_cons (pv 2) pa_nil)))) pa_nil)))))))
      (pss_one (ps_raise rfl (takes_of rfl rfl rfl rfl) (pmk_own PySem.F.excBase_ValueError T.x_NoPiece.x T.g_NoPiece T.x_NoPiece.kp (raises_own T.x_NoPiece.sub T.x_NoPiece.ty) rfl)))
      pss_nil)
      (pss_cons (ps_set (i := 1) sc_in_rising_order.nd rfl (Or.inl rfl) (pe_callB (cr_sortedA K) (by rfl) T.n_sorted (by decide +kernel) (pa_cons (pv 0) pa_nil)))
      (pss_cons (ps_if (pt_val (pe_callB (cr_any rfl) (by rfl) T.n_any (by decide +kernel) (pa_cons (pe_lc (own := [("one", 2), ("other", 3)]) (by rfl) sc_in_rising_order.nd (RZ.pi_zipA (by rfl) T.n_zip (pa_cons (pv 1) (pa_cons (pe_slice sl_list (pv 1) (po_some pe_int) po_none) pa_nil))) (blkOk_by (own := [("one", 2), ("other", 3)]) (N := ["moments", "row", "one", "other"]) (sc := defScope s_in_rising_order) (by decide +kernel)) (fun _ _ _ _ _ => (pg_tupK K (n := 2) rfl (pgs_cons (pg_name (i := 2) sc_in_rising_order.nd rfl (Or.inl rfl)) (pgs_cons (pg_name (i := 3) sc_in_rising_order.nd rfl (Or.inl rfl)) pgs_nil)))) (fun _ _ _ _ _ => pts_nil) (fun _ _ _ _ _ => (pe_cmpR op_eq (pv 2) (pv 3) (nomark _)))) pa_nil)))
      (pss_one (ps_raise rfl (takes_of rfl rfl rfl rfl) (pmk_own PySem.F.excBase_ValueError T.x_NoPiece.x T.g_NoPiece T.x_NoPiece.kp (raises_own T.x_NoPiece.sub T.x_NoPiece.ty) rfl)))
      pss_nil)
      (pss_one (ps_ret (pv 1)))))), ?_⟩
    rcases hx with ⟨a, xs, rfl, hl, lx, hc, er⟩ | ⟨⟨t, ty, kt⟩, rfl⟩
    · refine ⟨_, rfl, (by decide), ?_⟩
      intro a1 na1
      have Xa1 := ex_new (o := HO.tup [V.ty "list", V.ty "tuple"]) na1
      have ha1 : upd H a1 (HO.tup [V.ty "list", V.ty "tuple"]) a1 = some (HO.tup [V.ty "list", V.ty "tuple"]) := upd_same
      generalize upd H a1 (HO.tup [V.ty "list", V.ty "tuple"]) = Ga1 at Xa1 ha1 ⊢
      have ty : ∃ t, TyX K Ga1 (.ref a) t ∧ PySem.W.kitAny K t [.type "list", .type "tuple"] = some true := by
        rcases hl with h | h
        · exact ⟨_, .base (.lst (Xa1 _ _ h)), kitAny_cons (b := true) (kit_ty (by decide +kernel)) (fun z => nomatch z) (fun _ => rfl)⟩
        · exact ⟨_, .base (.tup (Xa1 _ _ h)), kitAny_cons (b := false) (kit_ty (by decide +kernel)) (fun _ => kitAny_cons (b := true) (kit_ty (by decide +kernel)) (fun z => nomatch z) (fun _ => rfl)) (by decide)⟩
      obtain ⟨t, ty, kt⟩ := ty
      have sq : ∀ {H' : Hp}, Ex H H' → SqS K H' a xs := fun {H'} e => by
        rcases hl with h | h
        · exact .inl (sq_lst (e _ _ h))
        · exact .inr (sq_tup (e _ _ h))
      refine ⟨.ref a, a1, _, t, _, true, rfl, ha1, .cons (.ty "list") (.cons (.ty "tuple") .nil), ty, kt, true, rfl, iteF ?_⟩
      refine ⟨_, rfl, a, xs, rfl, sq Xa1, fun J G wk hG A nA => lc_fm wk (fun i => (xs[i]?).map fun x => V.bl (isM x)) (fun H' => Ex Ga1 H') (fun H' l e => ex_mut e nA) (.refl _) (by omega) (fun H' e => hG H' (stays_ex e)) (fun i x H1 H2 acc N hi e hD la y k => ?_) (fun H1 e hD => ?_)⟩
      · obtain ⟨rfl, y⟩ := y
        have cl := (hc x (List.mem_of_getElem? y)).mono (Xa1.trans e)
        have z := k _ e hD
        rw [y] at z
        exact ⟨rfl, _, rfl, x, rfl, cl, acc, hD, la, z⟩
      · have eD : (List.range xs.length).filterMap (fun i => (xs[i]?).map fun x => V.bl (isM x)) = (xs.map isM).map V.bl := by
          have := range_fm (fun x => some (V.bl (isM x))) xs
          simp only [Option.map_eq_bind]
          rw [List.map_map, ← List.filterMap_eq_map']
          exact this
        rw [eD] at hD
        have X1 := Xa1.trans e
        refine ⟨A, _, rfl, sq_lst hD, ?_⟩
        rw [show (xs.map isM).all id = xs.all isM by rw [List.all_map]; rfl]
        cases hm : xs.all isM with
        | false =>
          refine ⟨false, rfl, iteT (qe ?_ H1 X1)⟩
          rw [er]
          unfold momList
          rw [hm]
          rfl
        | true =>
          refine ⟨true, rfl, iteF ?_⟩
          have exs := isM_natV hm
          obtain ⟨ns, hns⟩ : ∃ ns, ns = xs.map dayNum := ⟨_, rfl⟩
          rw [← hns] at exs
          have er2 : r = if ns.Nodup then some ns else none := by rw [er, exs, momList_nat]
          have hl2 : ns.length ≤ 10000 := by rw [hns, List.length_map]; exact lx
          have sq1 := sq X1
          rw [exs, nat_int] at sq1
          refine ⟨_, rfl, a, _, rfl, sq1, fun p np => ?_⟩
          rw [natV_srt]
          have X2 := X1.trans (ex_new (o := .lst (natV (srtN ns))) np)
          have hp : upd H1 p (.lst (natV (srtN ns))) p = some (.lst (natV (srtN ns))) := upd_same
          generalize upd H1 p (.lst (natV (srtN ns))) = H2 at X2 hp ⊢
          have ls := srtN_len ns
          refine ⟨_, rfl, _, rfl, _, rfl, p, _, rfl, sq_lst hp, fun u nu => ?_⟩
          rw [cut1]
          have X3 := X2.trans (ex_new (o := .lst ((natV (srtN ns)).drop 1)) nu)
          have hu : upd H2 u (.lst ((natV (srtN ns)).drop 1)) u = some (.lst ((natV (srtN ns)).drop 1)) := upd_same
          have hp3 := ex_new (o := .lst ((natV (srtN ns)).drop 1)) nu _ _ hp
          generalize upd H2 u (.lst ((natV (srtN ns)).drop 1)) = H3 at X3 hu hp3 ⊢
          have ed : (natV (srtN ns)).drop 1 = natV ((srtN ns).drop 1) := by
            unfold natV
            rw [List.map_drop]
          rw [ed] at hu
          refine ⟨p, u, _, _, rfl, .inl ⟨sq_lst hp3, sq_lst hu, fun B nB => lc_zip (srtN ns) ((srtN ns).drop 1) (fun n : Nat => V.int n) (fun n : Nat => V.int n) (L2.walk_zip rfl) (by rw [List.length_map, List.length_map]) (fun a b => some (.bl (decide (a = b)))) (fun H' => Ex H3 H') (fun H' l e => ex_mut e nB) (.refl _) (by rw [ls]; omega) (fun H' e => ⟨sq_lst (e _ _ hp3), sq_lst (e _ _ hu)⟩) (fun i c d v H4 acc N hc2 hd2 X4 nv hD2 la2 k2 => ?_) (fun H4 X4 hD2 => ?_)⟩⟩
          · have X5 := X4.trans (ex_new (o := .tup [.int (c : Nat), .int (d : Nat)]) nv)
            have hv : upd H4 v (.tup [.int (c : Nat), .int (d : Nat)]) v = some (.tup [.int (c : Nat), .int (d : Nat)]) := upd_same
            have hB5 := ex_new (o := .tup [.int (c : Nat), .int (d : Nat)]) nv _ _ hD2
            have z := k2 _ X5 hB5
            refine ⟨v, _, rfl, sq_tup hv, rfl, _, _, rfl, _, _, rfl, rfl, rfl, _, rfl, _, rfl, rfl, acc, hB5, la2, ?_⟩
            rw [vint_dec]
            rw [show decide ((c : Int) = (d : Int)) = decide (c = d) from decide_eq_decide.mpr (by omega)]
            exact z
          · have eB : ((srtN ns).zip ((srtN ns).drop 1)).filterMap (fun p => some (V.bl (decide (p.1 = p.2)))) = (alikeN (srtN ns)).map V.bl := by
              unfold alikeN
              rw [List.filterMap_eq_map', List.map_map]
              rfl
            rw [eB] at hD2
            have X6 := X3.trans X4
            refine ⟨B, _, rfl, sq_lst hD2, ?_⟩
            rw [alike_any (srtN_le ns), srtN_nodup]
            by_cases nd : ns.Nodup
            · rw [decide_eq_true nd]
              rw [if_pos nd] at er2
              exact ⟨false, rfl, iteF ⟨_, rfl, q ns er2 p H4 X6 (ex_fresh X1 np) (X4 _ _ hp3)⟩⟩
            · rw [decide_eq_false nd]
              rw [if_neg nd] at er2
              exact ⟨true, rfl, iteT (qe er2 H4 X6)⟩
    · refine ⟨_, rfl, (by decide), ?_⟩
      intro a1 na1
      have Xa1 := ex_new (o := HO.tup [V.ty "list", V.ty "tuple"]) na1
      have ha1 : upd H a1 (HO.tup [V.ty "list", V.ty "tuple"]) a1 = some (HO.tup [V.ty "list", V.ty "tuple"]) := upd_same
      generalize upd H a1 (HO.tup [V.ty "list", V.ty "tuple"]) = Ga1 at Xa1 ha1 ⊢
      exact ⟨x, a1, _, t, _, false, rfl, ha1, .cons (.ty "list") (.cons (.ty "tuple") .nil), tyX_mono Xa1 ty, kt, false, rfl, iteT (iteT (qe rfl _ Xa1))⟩
theorem ok_in_rising_order {P : Program} {w : World} {K : PySem.W.Frag} {mg : Str → Option Value} {base : Heap} (T : Env K mg) : Fc P w K mg base 2 (He.ga K "in_rising_order") [] (sp_in_rising_order K ) := by
  obtain ⟨fd, D, F⟩ := fb_in_rising_order T
  exact F.all (D.bindsN fun _ _ _ _ _ _ us hl => match us, hl with | [_], _ => rfl)
end
section
def sp_is_over (K : PySem.W.Frag) : Sp := fun vs H Q _ => ∃ (r : Addr) (ns : List Nat) (b p s : Nat), vs = [.ref r, .int (b : Nat), .int (p : Nat), .int (s : Nat)] ∧ SqL K H r (natV ns) ∧ b + s ≤ ns.length ∧ 1 ≤ p ∧ p < s ∧ ns.length ≤ 1000 ∧ ∀ H', Ex H H' → Q (.bl (isOv ns b p s)) H'
theorem fb_is_over {P : Program} {w : World} {K : PySem.W.Frag} {mg : Str → Option Value} {base : Heap} (T : Env K mg) : ∃ fd, FunD K "is_over" "is_over" (defArgs s_is_over) (defBody s_is_over) (defScope s_is_over) [] [] (He.ga K "is_over") fd ∧ Fb P w K mg base 1 (He.ga K "is_over") fd ["row", "begin", "part", "size"] (sp_is_over K) := by
  obtain ⟨fd, F⟩ := T.f_is_over
  refine ⟨fd, F, fb_of F sc_is_over (fun vs H Q E h => ?_) (fun cdv A outer s H vs Q E hr h => ?_)⟩
  · obtain ⟨r, ns, b, p, s, rfl, _⟩ := h
    rfl
  · obtain ⟨r, ns, b, p, s_, rfl, hw, hbs, p1, ps, hl, q⟩ := h
    refine ⟨_, (pss_cons (ps_set (i := 4) sc_is_over.nd rfl (Or.inr rfl) (pe_op op_sub (pe_ix ix_list (pv 0) (pe_op op_add (pv 1) (pv 2)) (fun _ _ => rfl)) (pe_ix ix_list (pv 0) (pv 1) (fun _ _ => rfl))))
      (pss_one (ps_ret (pe_callB (cr_all rfl) (by rfl) T.n_all (by decide +kernel) (pa_cons (pe_lc (own := [("at", 5)]) (by rfl) sc_is_over.nd (pi_range2 (by rfl) T.n_range (pa_cons (pv 1) (pa_cons (pe_op op_sub (pe_op op_add (pv 1) (pv 3)) (pv 2)) pa_nil))) (blkOk_by (own := [("at", 5)]) (N := ["row", "begin", "part", "size", "step", "at"]) (sc := defScope s_is_over) (by decide +kernel)) (fun _ _ _ _ _ => (pg_name (i := 5) sc_is_over.nd rfl (Or.inl rfl))) (fun _ _ _ _ _ => pts_nil) (fun _ _ _ _ _ => (pe_cmpR op_eq (pe_op op_sub (pe_ix (ix_listK K) (pv 0) (pe_op op_add (pv 5) (pv 2)) (fun _ _ => rfl)) (pe_ix (ix_listK K) (pv 0) (pv 5) (fun _ _ => rfl))) (pv 4) (nomark _)))) pa_nil))))), ?_⟩
    have i1 := natV_at (ns := ns) (i := (b : Int) + (p : Int)) (k := b + p) (by omega) (by omega)
    have i2 := natV_at (ns := ns) (i := (b : Int)) (k := b) rfl (by omega)
    refine ⟨_, rfl, _, rfl, _, rfl, _, _, rfl, rfl, _, _, _, _, rfl, rfl, hw, i1, _, rfl, _, rfl, _, _, _, _, rfl, rfl, hw, i2, _, _, rfl, rfl, _, rfl, _, rfl, _, rfl, _, _, rfl, rfl, _, rfl, _, _, rfl, rfl, _, _, rfl, ⟨(by omega), ⟨(by omega), ⟨(by omega), (by omega)⟩⟩⟩, ?_⟩
    have en : ((b : Int) + (s_ : Int) - (p : Int) - (b : Int)).toNat = s_ - p := by omega
    rw [en]
    intro A nA
    refine lc_rg (fun i => some (.bl (decide ((gN ns (b + i + p) : Int) - gN ns (b + i) = (gN ns (b + p) : Int) - gN ns b)))) (fun H' => Ex H H') (fun H' l e => ex_mut e nA) (.refl _) (by omega) (fun i H' acc N hi e hD la k => ?_) (fun H' e hD => ?_)
    · have i3 := natV_at (ns := ns) (i := (b : Int) + (i : Int) + (p : Int)) (k := b + i + p) (by omega) (by omega)
      have i4 := natV_at (ns := ns) (i := (b : Int) + (i : Int)) (k := b + i) (by omega) (by omega)
      have hw' := ex_sql e hw
      refine ⟨rfl, ?_⟩
      refine ⟨_, rfl, _, rfl, _, rfl, _, _, rfl, rfl, _, _, _, _, rfl, rfl, hw', i3, _, rfl, _, rfl, _, _, _, _, rfl, rfl, hw', i4, _, _, rfl, rfl, _, rfl, rfl, _, hD, la, ?_⟩
      try dsimp only [tNil]
      rw [vint_dec]
      exact k H' e hD
    · rw [fm_bl] at hD
      refine ⟨A, _, rfl, sq_lst hD, ?_⟩
      rw [all_id]
      exact q H' e
theorem ok_is_over {P : Program} {w : World} {K : PySem.W.Frag} {mg : Str → Option Value} {base : Heap} (T : Env K mg) : Fc P w K mg base 1 (He.ga K "is_over") [] (sp_is_over K ) := by
  obtain ⟨fd, D, F⟩ := fb_is_over T
  exact F.all (D.bindsN fun _ _ _ _ _ _ us hl => match us, hl with | [_, _, _, _], _ => rfl)
end
section
def sp_first_parts (K : PySem.W.Frag) : Sp := fun vs H Q _ => ∃ (r : Addr) (ns : List Nat) (b s : Nat), vs = [.ref r, .int (b : Nat), .int (s : Nat)] ∧ SqL K H r (natV ns) ∧ b + s ≤ ns.length ∧ ns.length ≤ 1000 ∧ ∀ a H', Ex H H' → H a = none → H' a = some (.lst (natV (firstP ns b s))) → Q (.ref a) H'
theorem fb_first_parts {P : Program} {w : World} {K : PySem.W.Frag} {mg : Str → Option Value} {base : Heap} (T : Env K mg) : ∃ fd, FunD K "first_parts" "first_parts" (defArgs s_first_parts) (defBody s_first_parts) (defScope s_first_parts) [] [] (He.ga K "first_parts") fd ∧ Fb P w K mg base 2 (He.ga K "first_parts") fd ["row", "begin", "size"] (sp_first_parts K) := by
  obtain ⟨fd, F⟩ := T.f_first_parts
  refine ⟨fd, F, fb_of F sc_first_parts (fun vs H Q E h => ?_) (fun cdv A outer s H vs Q E hr h => ?_)⟩
  · obtain ⟨r, ns, b, s, rfl, _⟩ := h
    rfl
  · obtain ⟨r, ns, b, s_, rfl, hw, hbs, hl, q⟩ := h
    refine ⟨_, (pss_one (ps_ret (pe_lc (own := [("part", 3)]) (by rfl) sc_first_parts.nd (pi_range2 (by rfl) T.n_range (pa_cons pe_int (pa_cons (pv 2) pa_nil))) (blkOk_by (own := [("part", 3)]) (N := ["row", "begin", "size", "part"]) (sc := defScope s_first_parts) (by decide +kernel)) (fun _ _ _ _ _ => (pg_name (i := 3) sc_first_parts.nd rfl (Or.inl rfl))) (fun _ _ _ _ _ => (pts_one (PW.pt (pw_and (pt_cmpR op_eq (pe_op op_mod (pv 2) (pv 3)) pe_int (nomark _)) (pw_and1 (pt_val (c_call (ok_is_over T) (hr.mono (by decide)) T.g_is_over T.k_is_over takes0 (pa_cons (pv 0) (pa_cons (pv 1) (pa_cons (pv 3) (pa_cons (pv 2) pa_nil))))))))))) (fun _ _ _ _ _ => (pv 3))))), ?_⟩
    refine ⟨_, rfl, _, _, rfl, ⟨(by decide), ⟨(by decide), ⟨(by omega), (by omega)⟩⟩⟩, ?_⟩
    intro A nA
    have en : ((s_ : Int) - 1).toNat = s_ - 1 := by omega
    rw [en]
    refine lc_rg (fun i => if firstB ns b s_ i = true then some (.int ((i + 1 : Nat) : Int)) else none) (fun H' => Ex H H') (fun H' l e => ex_mut e nA) (.refl _) (by omega) (fun i H' acc N hi e hD la k => ?_) (fun H' e hD => ?_)
    · have hw' := ex_sql e hw
      have hp1 : 1 ≤ i + 1 := by omega
      have hp2 : i + 1 < s_ := by omega
      have ei : (1 : Int) + (i : Int) = ((i + 1 : Nat) : Int) := by omega
      rw [ei]
      have hz : (0 : Int) < ((i + 1 : Nat) : Int) := by omega
      refine ⟨rfl, ?_⟩
      refine ⟨_, rfl, _, rfl, _, _, rfl, rfl, hz, rfl, _, rfl, ?_⟩
      try dsimp only [tNil]
      have em : ((s_ : Nat) : Int) % ((i + 1 : Nat) : Int) = ((s_ % (i + 1) : Nat) : Int) := (Int.natCast_emod s_ (i + 1)).symm
      rw [vint_dec, em]
      refine ite2 (fun c => ?_) (fun c => ?_)
      · have c2 : s_ % (i + 1) = 0 := by
          have := of_decide_eq_true c
          omega
        have fb : firstB ns b s_ i = isOv ns b (i + 1) s_ := by
          unfold firstB
          rw [decide_eq_true c2, Bool.true_and]
        rw [fb] at k
        refine ⟨_, rfl, _, rfl, _, rfl, _, rfl, _, _, _, _, _, rfl, hw', hbs, hp1, hp2, hl, ?_⟩
        intro H4 X4
        have z := k H4 (e.trans X4) (X4 _ _ hD)
        cases hv : isOv ns b (i + 1) s_ with
        | true =>
          rw [hv, if_pos rfl] at z
          exact ⟨true, rfl, iteT ⟨_, rfl, acc, X4 _ _ hD, la, z⟩⟩
        | false =>
          rw [hv, if_neg (by simp)] at z
          exact ⟨false, rfl, iteF z⟩
      · have fb : firstB ns b s_ i = false := by
          unfold firstB
          rw [decide_eq_false (fun z => c (decide_eq_true (by omega))), Bool.false_and]
        have z := k H' e hD
        rw [fb, if_neg (by simp)] at z
        exact iteF z
    · refine q A H' e nA ?_
      rw [hD]
      unfold firstP natV
      rw [List.map_filterMap]
      congr 3
      funext i
      by_cases c : firstB ns b s_ i = true
      · rw [if_pos c, if_pos c]
        rfl
      · rw [if_neg c, if_neg c]
        rfl
theorem ok_first_parts {P : Program} {w : World} {K : PySem.W.Frag} {mg : Str → Option Value} {base : Heap} (T : Env K mg) : Fc P w K mg base 2 (He.ga K "first_parts") [] (sp_first_parts K ) := by
  obtain ⟨fd, D, F⟩ := fb_first_parts T
  exact F.all (D.bindsN fun _ _ _ _ _ _ us hl => match us, hl with | [_, _, _], _ => rfl)
end
section
def sp_most_number (K : PySem.W.Frag) : Sp := fun vs H Q _ => ∃ (r p : Addr) (ns : List Nat) (pap : List (List Int)) (b s : Nat), vs = [.ref r, .ref p, .int (b : Nat), .int (s : Nat)] ∧ SqL K H r (natV ns) ∧ PapAt K H p pap ∧ Fits pap b s ∧ 1 ≤ s ∧ b + s ≤ ns.length ∧ ns.length ≤ 1000 ∧ ∀ H', Ex H H' → Q (.int (mostP ns pap b s)) H'
theorem first_mem {ns : List Nat} {b s p : Nat} (h : p ∈ firstP ns b s) : 1 ≤ p ∧ p < s := by
  unfold firstP at h
  obtain ⟨i, hi, e⟩ := List.mem_filterMap.mp h
  have := List.mem_range.mp hi
  split at e
  · injection e with e
    omega
  · cases e
theorem fb_most_number {P : Program} {w : World} {K : PySem.W.Frag} {mg : Str → Option Value} {base : Heap} (T : Env K mg) : ∃ fd, FunD K "most_number" "most_number" (defArgs s_most_number) (defBody s_most_number) (defScope s_most_number) [] [] (He.ga K "most_number") fd ∧ Fb P w K mg base 3 (He.ga K "most_number") fd ["row", "paper", "begin", "size"] (sp_most_number K) := by
  obtain ⟨fd, F⟩ := T.f_most_number
  refine ⟨fd, F, fb_of F sc_most_number (fun vs H Q E h => ?_) (fun cdv A outer s H vs Q E hr h => ?_)⟩
  · obtain ⟨r, p, ns, pap, b, s, rfl, _⟩ := h
    rfl
  · obtain ⟨r, p, ns, pap, b, s_, rfl, hw, hP, hF, s1, hbs, hl, q⟩ := h
    refine ⟨_, (pss_cons (ps_if (pt_cmpR op_eq (pv 3) pe_int (nomark _))
      (pss_one (ps_ret pe_int))
      pss_nil)
      (pss_cons (ps_setLc (i := 4) (own := [("cut", 6)]) (by rfl) sc_most_number.nd rfl rfl (sw_true rfl rfl rfl (by decide +kernel)) (pi_range2 (by rfl) T.n_range (pa_cons pe_int (pa_cons (pv 3) pa_nil))) (blkOk_by (own := [("cut", 6)]) (N := ["row", "paper", "begin", "size", "cuts", "overs", "cut", "part"]) (sc := defScope s_most_number) (by decide +kernel)) (fun _ _ _ _ _ => (pg_name (i := 6) sc_most_number.nd rfl (Or.inl rfl))) (fun _ _ _ _ _ => pts_nil) (fun _ _ _ _ _ => (pe_op op_add (pe_ix (ix_seqA K) (pe_ix (ix_seqA K) (pv 1) (pv 2) (fun _ _ => rfl)) (pe_op op_sub (pv 6) pe_int) (fun _ _ => rfl)) (pe_ix (ix_seqA K) (pe_ix (ix_seqA K) (pv 1) (pe_op op_add (pv 2) (pv 6)) (fun _ _ => rfl)) (pe_op op_sub (pe_op op_sub (pv 3) (pv 6)) pe_int) (fun _ _ => rfl)))))
      (pss_cons (ps_setLc (i := 5) (own := [("part", 7)]) (by rfl) sc_most_number.nd rfl rfl (sw_true rfl rfl rfl (by decide +kernel)) (pi_list (c_call (ok_first_parts T) (hr.mono (by decide)) T.g_first_parts T.k_first_parts takes0 (pa_cons (pv 0) (pa_cons (pv 2) (pa_cons (pv 3) pa_nil))))) (blkOk_by (own := [("part", 7)]) (N := ["row", "paper", "begin", "size", "cuts", "overs", "cut", "part"]) (sc := defScope s_most_number) (by decide +kernel)) (fun _ _ _ _ _ => (pg_name (i := 7) sc_most_number.nd rfl (Or.inl rfl))) (fun _ _ _ _ _ => pts_nil) (fun _ _ _ _ _ => (pe_op op_add (pe_ix (ix_seqA K) (pe_ix (ix_seqA K) (pv 1) (pv 2) (fun _ _ => rfl)) (pe_op op_sub (pv 7) pe_int) (fun _ _ => rfl)) pe_int)))
      (pss_one (ps_ret (pe_callB (cr_min rfl) (by rfl) T.n_min (by decide +kernel) (pa_cons (pe_op op_cat (pv 4) (pv 5)) pa_nil))))))), ?_⟩
    refine ⟨_, rfl, rfl, _, rfl, ?_⟩
    try dsimp only [tNil]
    rw [vint_dec]
    refine ite2 (fun c => ?_) (fun c => ?_)
    · have c1 : s_ = 1 := by
        have := of_decide_eq_true c
        omega
      have z := q H (.refl _)
      unfold mostP at z
      rw [if_pos c1] at z
      exact z
    · have c1 : s_ ≠ 1 := fun z => c (decide_eq_true (by omega))
      refine ⟨_, rfl, _, _, rfl, ⟨(by decide), ⟨(by decide), ⟨(by omega), (by omega)⟩⟩⟩, ?_⟩
      intro A nA
      have en : ((s_ : Int) - 1).toNat = s_ - 1 := by omega
      rw [en]
      refine lc_rg (fun i => some (.int (pg pap b i + pg pap (b + i + 1) (s_ - i - 2)))) (fun H' => Ex H H') (fun H' l e => ex_mut e nA) (.refl _) (by omega) (fun i H' acc N hi e hD la k => ?_) (fun H1 X1 hD1 => ?_)
      · have hP' := hP.mono e
        obtain ⟨f1, f2⟩ := hF 0 i (by omega) (by omega)
        obtain ⟨g1, g2⟩ := hF (i + 1) (s_ - i - 2) (by omega) (by omega)
        refine ⟨rfl, _, rfl, _, rfl, pap_ix hP' rfl (by simpa using f1) fun b1 h1 => ⟨_, rfl, _, _, rfl, rfl, row_ix h1 (j := i) (by omega) (by simpa using f2) ⟨_, rfl, _, rfl, _, rfl, _, _, rfl, rfl, pap_ix hP' (i := b + i + 1) (by omega) (by omega) fun b2 h2 => ?_⟩⟩⟩
        refine ⟨_, rfl, _, rfl, _, _, rfl, rfl, _, _, rfl, rfl, row_ix h2 (j := s_ - i - 2) (by omega) (by omega) ⟨_, _, rfl, rfl, acc, hD, la, ?_⟩⟩
        exact k H' e hD
      have hw1 := ex_sql X1 hw
      have eC : (List.range (s_ - 1)).filterMap (fun i => some (V.int (pg pap b i + pg pap (b + i + 1) (s_ - i - 2)))) = (cutsP pap b s_).map V.int := by
        unfold cutsP
        rw [List.filterMap_eq_map', List.map_map]
        rfl
      rw [eC] at hD1
      refine ⟨_, rfl, _, rfl, _, rfl, _, _, _, _, rfl, hw1, hbs, hl, ?_⟩
      intro f H2 X2 nf hf
      have l1 : (firstP ns b s_).length ≤ 1000 := by
        unfold firstP
        have := List.length_filterMap_le (fun i => if firstB ns b s_ i = true then some (i + 1) else none) (List.range (s_ - 1))
        rw [List.length_range] at this
        omega
      refine ⟨_, rfl, ⟨_, (sq_lst hf)⟩, ?_⟩
      intro B nB
      refine lc_on (firstP ns b s_) (fun n : Nat => V.int n) L2.walk_list (fun n => some (.int (pg pap b (n - 1) + 1))) (fun H' => Ex H2 H') (fun H' l e => ex_mut e nB) (.refl _) (by omega) (fun H' e => sq_lst (e _ _ hf)) (fun i n H' acc N hn e hD la k => ?_) (fun H3 X3 hD3 => ?_)
      · have hP' := hP.mono ((X1.trans X2).trans e)
        obtain ⟨m1, m2⟩ := first_mem (List.mem_of_getElem? hn)
        obtain ⟨f1, f2⟩ := hF 0 (n - 1) (by omega) (by omega)
        refine ⟨rfl, _, rfl, _, rfl, pap_ix hP' rfl (by simpa using f1) fun b1 h1 => ⟨_, rfl, _, _, rfl, rfl, row_ix h1 (j := n - 1) (by omega) (by simpa using f2) ⟨_, _, rfl, rfl, acc, hD, la, ?_⟩⟩⟩
        exact k H' e hD
      · have eO : (firstP ns b s_).filterMap (fun n => some (V.int (pg pap b (n - 1) + 1))) = (oversP ns pap b s_).map V.int := by
          unfold oversP
          rw [List.filterMap_eq_map', List.map_map]
          rfl
        rw [eO] at hD3
        have hA3 := X3 _ _ (X2 _ _ hD1)
        have l2 : (cutsP pap b s_).length ≤ 1000 := by
          unfold cutsP
          rw [List.length_map, List.length_range]
          omega
        have l3 : (oversP ns pap b s_).length ≤ 1000 := by
          unfold oversP
          rw [List.length_map]
          exact l1
        have lz : ((cutsP pap b s_).map V.int).length + ((oversP ns pap b s_).map V.int).length ≤ sizeLine := sz_big (by rw [List.length_map, List.length_map]; omega)
        refine ⟨_, rfl, _, rfl, A, B, _, _, rfl, rfl, hA3, hD3, lz, fun C nC => ?_⟩
        refine ⟨C, cutsP pap b s_ ++ oversP ns pap b s_, rfl, by rw [List.map_append]; exact sq_lst upd_same, ?_, fun m hm hle => ?_⟩
        · have : (cutsP pap b s_).length = s_ - 1 := by
            unfold cutsP
            rw [List.length_map, List.length_range]
          rw [List.length_append]
          omega
        · have z := q _ (((X1.trans X2).trans X3).trans (ex_new (o := .lst ((cutsP pap b s_).map V.int ++ (oversP ns pap b s_).map V.int)) nC))
          unfold mostP at z
          rw [if_neg c1, ← minI_eq hm hle] at z
          exact z
theorem ok_most_number {P : Program} {w : World} {K : PySem.W.Frag} {mg : Str → Option Value} {base : Heap} (T : Env K mg) : Fc P w K mg base 3 (He.ga K "most_number") [] (sp_most_number K ) := by
  obtain ⟨fd, D, F⟩ := fb_most_number T
  exact F.all (D.bindsN fun _ _ _ _ _ _ us hl => match us, hl with | [_, _, _, _], _ => rfl)
end
section
/-- rows of a paper in lists of their own, which stand at places that N tells -/
def PapL (N : Addr → Prop) (H : Hp) (a : Addr) (pap : List (List Int)) (as : List Addr) : Prop := H a = some (.lst (as.map V.ref)) ∧ as.length = pap.length ∧ as.Nodup ∧ ∀ (i : Nat) (b : Addr), as[i]? = some b → N b ∧ b ≠ a ∧ H b = some (.lst ((pap.getD i []).map V.int))
theorem PapL.at {K : PySem.W.Frag} {N : Addr → Prop} {H : Hp} {a : Addr} {pap : List (List Int)} {as : List Addr} (h : PapL N H a pap as) : PapAt K H a pap := by
  obtain ⟨h1, h2, _, h3⟩ := h
  refine ⟨as, .inl (sq_lst h1), h2, fun i b r hi hr => .inl ?_⟩
  have := (h3 i b hi).2.2
  rw [List.getD_eq_getElem?_getD, hr] at this
  exact sq_lst this
theorem PapL.mono {N : Addr → Prop} {H H' : Hp} {a : Addr} {pap : List (List Int)} {as : List Addr} (h : PapL N H a pap as) (e : Ex H H') : PapL N H' a pap as := ⟨e _ _ h.1, h.2.1, h.2.2.1, fun i b hi => let ⟨h1, h2, h3⟩ := h.2.2.2 i b hi; ⟨h1, h2, e _ _ h3⟩⟩
theorem PapL.put {N : Addr → Prop} {H : Hp} {a : Addr} {pap : List (List Int)} {as : List Addr} (h : PapL N H a pap as) {i : Nat} {b : Addr} (hi : as[i]? = some b) (r : List Int) : PapL N (upd H b (.lst (r.map V.int))) a (pap.set i r) as := by
  obtain ⟨h1, h2, h3, h4⟩ := h
  have ba := (h4 i b hi).2.1
  obtain ⟨il, _⟩ := List.getElem?_eq_some_iff.mp hi
  refine ⟨by rw [upd_ne (Ne.symm ba)]; exact h1, by rw [List.length_set]; exact h2, h3, fun j c hj => ?_⟩
  obtain ⟨g1, g2, g3⟩ := h4 j c hj
  refine ⟨g1, g2, ?_⟩
  by_cases e : j = i
  · subst e
    rw [hi] at hj
    cases hj
    rw [upd_same, List.getD_eq_getElem?_getD, List.getElem?_set_self (by omega)]
    rfl
  · have bc : c ≠ b := fun z => e (by
      obtain ⟨jl, e1⟩ := List.getElem?_eq_some_iff.mp hj
      obtain ⟨il, e2⟩ := List.getElem?_eq_some_iff.mp hi
      exact (List.getElem_inj h3).mp (by rw [e1, e2, z]))
    rw [upd_ne bc, g3, List.getD_eq_getElem?_getD, List.getD_eq_getElem?_getD, List.getElem?_set_ne (Ne.symm e)]
/-- all entries are of a size -/
def smallP (m : Nat) (pap : List (List Int)) : Prop := ∀ r ∈ pap, ∀ x ∈ r, x.natAbs ≤ m
theorem smallP_le {m k : Nat} {pap : List (List Int)} (h : smallP m pap) (e : m ≤ k) : smallP k pap := fun r hr x hx => Nat.le_trans (h r hr x hx) e
end
section
def Shp (n i j : Nat) (pap : List (List Int)) : Prop := pap.length = n ∧ ∀ b, b < n → (pap.getD b []).length = if b < j then i + 1 else min i (n - b)
def Bd (pap : List (List Int)) : Prop := ∀ b k, k < (pap.getD b []).length → 1 ≤ pg pap b k ∧ pg pap b k ≤ (k : Int) + 1
theorem shp_fits {n i j : Nat} {pap : List (List Int)} (h : Shp n i j pap) (hj : j + i + 1 ≤ n) : Fits pap j (i + 1) := by
  obtain ⟨h1, h2⟩ := h
  intro p k hpk h0
  refine ⟨by omega, ?_⟩
  rw [h2 _ (by omega)]
  split
  · omega
  · by_cases c : p = 0
    · have := h0 c
      omega
    · omega
theorem getD_set_self {pap : List (List Int)} {j : Nat} (r : List Int) (h : j < pap.length) : (pap.set j r).getD j [] = r := by
  rw [List.getD_eq_getElem?_getD, List.getElem?_set_self h]
  rfl
theorem getD_set_ne {pap : List (List Int)} {j b : Nat} (r : List Int) (h : j ≠ b) : (pap.set j r).getD b [] = pap.getD b [] := by
  rw [List.getD_eq_getElem?_getD, List.getD_eq_getElem?_getD, List.getElem?_set_ne h]
theorem shp_step {n i j : Nat} {pap : List (List Int)} (h : Shp n i j pap) (hj : j + i + 1 ≤ n) (v : Int) : Shp n i (j + 1) (pap.set j (pap.getD j [] ++ [v])) := by
  obtain ⟨h1, h2⟩ := h
  refine ⟨by rw [List.length_set]; exact h1, fun b hb => ?_⟩
  by_cases c : b = j
  · subst c
    rw [getD_set_self _ (by omega), List.length_append, h2 b hb, if_neg (Nat.lt_irrefl _), if_pos (Nat.lt_succ_self _)]
    show min i (n - b) + 1 = i + 1
    omega
  · rw [getD_set_ne _ (Ne.symm c), h2 b hb]
    by_cases d : b < j
    · rw [if_pos d, if_pos (by omega)]
    · rw [if_neg d, if_neg (by omega)]
theorem bd_step {n i j : Nat} {pap : List (List Int)} (h : Shp n i j pap) (hj : j + i + 1 ≤ n) (hb : Bd pap) {v : Int} (v1 : 1 ≤ v) (v2 : v ≤ (i : Int) + 1) : Bd (pap.set j (pap.getD j [] ++ [v])) := by
  obtain ⟨h1, h2⟩ := h
  intro b k hk
  unfold pg
  by_cases c : b = j
  · subst c
    rw [getD_set_self _ (by omega)] at hk ⊢
    have lr := h2 b (by omega)
    rw [if_neg (Nat.lt_irrefl _)] at lr
    rw [List.length_append] at hk
    have hk2 : k < (pap.getD b []).length + 1 := hk
    by_cases d : k < (pap.getD b []).length
    · have := hb b k d
      unfold pg at this
      rw [List.getD_eq_getElem?_getD, List.getElem?_append_left d, ← List.getD_eq_getElem?_getD]
      exact this
    · have e : k = (pap.getD b []).length := by omega
      rw [List.getD_eq_getElem?_getD, e, List.getElem?_append_right (Nat.le_refl _)]
      simp only [Nat.sub_self, List.getElem?_cons_zero, Option.getD_some]
      omega
  · rw [getD_set_ne _ (Ne.symm c)] at hk ⊢
    exact hb b k hk
theorem shp_next {n i : Nat} {pap : List (List Int)} (h : Shp n i (n - i) pap) : Shp n (i + 1) 0 pap := by
  obtain ⟨h1, h2⟩ := h
  refine ⟨h1, fun b hb => ?_⟩
  rw [h2 b hb, if_neg (Nat.not_lt_zero b)]
  split <;> omega
theorem shp_zero (n : Nat) : Shp n 0 0 (List.replicate n []) := by
  refine ⟨List.length_replicate, fun b hb => ?_⟩
  rw [List.getD_eq_getElem?_getD, List.getElem?_replicate, if_pos hb, if_neg (Nat.not_lt_zero b)]
  simp
theorem bd_zero (n : Nat) : Bd (List.replicate n []) := fun b k hk => by
  rw [List.getD_eq_getElem?_getD, List.getElem?_replicate] at hk
  split at hk <;> simp at hk
theorem most_bounds {ns : List Nat} {pap : List (List Int)} {b s : Nat} (hb : Bd pap) (hF : Fits pap b s) (hs : 1 ≤ s) : 1 ≤ mostP ns pap b s ∧ mostP ns pap b s ≤ (s : Int) := by
  unfold mostP
  by_cases c : s = 1
  · rw [if_pos c]
    omega
  · rw [if_neg c]
    have g1 : ∀ k, k < s - 1 → 1 ≤ pg pap b k ∧ pg pap b k ≤ (k : Int) + 1 := fun k hk => hb b k (by have := (hF 0 k (by omega) (by omega)).2; simpa using this)
    have g2 : ∀ k, k < s - 1 → 1 ≤ pg pap (b + k + 1) (s - k - 2) ∧ pg pap (b + k + 1) (s - k - 2) ≤ ((s - k - 2 : Nat) : Int) + 1 := fun k hk => hb (b + k + 1) (s - k - 2) (by
      have := (hF (k + 1) (s - k - 2) (by omega) (by omega)).2
      rw [show b + (k + 1) = b + k + 1 by omega] at this
      exact this)
    have m0 : pg pap b 0 + pg pap (b + 0 + 1) (s - 0 - 2) ∈ cutsP pap b s ++ oversP ns pap b s := List.mem_append_left _ (List.mem_map.mpr ⟨0, List.mem_range.mpr (by omega), rfl⟩)
    obtain ⟨h1, h2⟩ := minI_mem (List.ne_nil_of_mem m0)
    have a1 := h2 _ m0
    have a2 := g1 0 (by omega)
    have a3 := g2 0 (by omega)
    generalize minI (cutsP pap b s ++ oversP ns pap b s) = mv at h1 a1 ⊢
    refine ⟨?_, by omega⟩
    rcases List.mem_append.mp h1 with h | h
    · unfold cutsP at h
      obtain ⟨k, hk, e⟩ := List.mem_map.mp h
      have hk2 := List.mem_range.mp hk
      have b1 := g1 k hk2
      have b2 := g2 k hk2
      omega
    · unfold oversP at h
      obtain ⟨p, hp, e⟩ := List.mem_map.mp h
      unfold firstP at hp
      obtain ⟨k, hk, e2⟩ := List.mem_filterMap.mp hp
      have hk2 := List.mem_range.mp hk
      split at e2
      · injection e2 with e2
        have b1 := g1 (p - 1) (by omega)
        omega
      · cases e2
theorem bd_small {n : Nat} {pap : List (List Int)} (h : Shp n n 0 pap) (hb : Bd pap) (hn : n ≤ 40) : smallP 100 pap := fun r hr x hx => by
  obtain ⟨h1, h2⟩ := h
  obtain ⟨i, il, rfl⟩ := List.getElem_of_mem hr
  obtain ⟨j, jl, rfl⟩ := List.getElem_of_mem hx
  have e : pap.getD i [] = pap[i] := by rw [List.getD_eq_getElem?_getD, List.getElem?_eq_getElem il]; rfl
  have lr := h2 i (by omega)
  rw [if_neg (Nat.not_lt_zero i), e] at lr
  have z := hb i j (by rw [e]; exact jl)
  unfold pg at z
  rw [e, List.getD_eq_getElem?_getD, List.getElem?_eq_getElem jl] at z
  simp only [Option.getD_some] at z
  omega
end
section
/-- the moments of ns, over and over -/
def overN (ns : List Nat) (m s : Nat) : List Nat := (List.range m).flatMap fun t => ns.map fun n => n + t * s
theorem overN_len (ns : List Nat) (m s : Nat) : (overN ns m s).length = m * ns.length := by
  unfold overN
  induction m with
  | zero => simp
  | succ m ih =>
    rw [List.range_succ, List.flatMap_append, List.length_append, ih]
    simp
    rw [Nat.add_mul, Nat.one_mul]
theorem overN_succ (ns : List Nat) (m s : Nat) : overN ns (m + 1) s = overN ns m s ++ ns.map fun n => n + m * s := by
  unfold overN
  rw [List.range_succ, List.flatMap_append]
  simp
/-- shorts -/
inductive Tr where
  | at (n : Nat)
  | ov (ps : List Tr) (m s : Nat)
mutual
def Tr.moms : Tr → List Nat
  | .at n => [n]
  | .ov ps m s => overN (momsL ps) m s
def momsL : List Tr → List Nat
  | [] => []
  | t :: ts => t.moms ++ momsL ts
end
mutual
def Tr.nest : Tr → Nat
  | .at _ => 0
  | .ov ps _ _ => 1 + nestL ps
def nestL : List Tr → Nat
  | [] => 0
  | t :: ts => max t.nest (nestL ts)
end
mutual
def Tr.pcs : Tr → Nat
  | .at _ => 1
  | .ov ps _ _ => 1 + pcsL ps
def pcsL : List Tr → Nat
  | [] => 0
  | t :: ts => t.pcs + pcsL ts
end
theorem pcsL_app (a b : List Tr) : pcsL (a ++ b) = pcsL a + pcsL b := by
  induction a with
  | nil => simp [pcsL]
  | cons t r ih => simp [pcsL, ih, Nat.add_assoc]
theorem momsL_app (a b : List Tr) : momsL (a ++ b) = momsL a ++ momsL b := by
  induction a with
  | nil => simp [momsL]
  | cons t r ih => simp [momsL, ih]
theorem nestL_mem {t : Tr} : ∀ {ts : List Tr}, t ∈ ts → t.nest ≤ nestL ts
  | x :: r, h => by
    show _ ≤ max x.nest (nestL r)
    rcases List.mem_cons.mp h with rfl | h
    · exact Nat.le_max_left _ _
    · exact Nat.le_trans (nestL_mem h) (Nat.le_max_right _ _)
theorem nestL_max : ∀ {ts : List Tr}, ts ≠ [] → ∃ t ∈ ts, t.nest = nestL ts
  | [t], _ => ⟨t, List.mem_cons_self, by show _ = max t.nest 0; omega⟩
  | t :: x :: r, _ => by
    obtain ⟨y, hy, e⟩ := nestL_max (ts := x :: r) (by simp)
    have e2 : nestL (t :: x :: r) = max t.nest (nestL (x :: r)) := by simp [nestL]
    by_cases c : nestL (x :: r) ≤ t.nest
    · exact ⟨t, List.mem_cons_self, by omega⟩
    · exact ⟨y, List.mem_cons_of_mem _ hy, by omega⟩
theorem momsL_take {ts : List Tr} {i : Nat} {t : Tr} (h : ts[i]? = some t) : momsL (ts.take (i + 1)) = momsL (ts.take i) ++ t.moms := by
  rw [take_snoc h, momsL_app]
  simp [momsL]
theorem momsL_take_len (ts : List Tr) (i : Nat) : (momsL (ts.take i)).length ≤ (momsL ts).length := by
  conv => rhs; rw [← List.take_append_drop i ts, momsL_app, List.length_append]
  omega
mutual
/-- a short that may be made -/
def Tr.ok : Tr → Prop
  | .at _ => True
  | .ov ps m s => ps ≠ [] ∧ 2 ≤ m ∧ 1 ≤ s ∧ m * (momsL ps).length ≤ 1440 ∧ (momsL ps).getLastD 0 < s + (momsL ps).headD 0 ∧ (momsL ps).Pairwise (· < ·) ∧ okL_ ps
def okL_ : List Tr → Prop
  | [] => True
  | t :: ts => t.ok ∧ okL_ ts
end
theorem okL_mem {t : Tr} : ∀ {ts : List Tr}, okL_ ts → t ∈ ts → t.ok
  | x :: r, h, hm => by
    unfold okL_ at h
    rcases List.mem_cons.mp hm with rfl | hm
    · exact h.1
    · exact okL_mem h.2 hm
theorem pos_moms (t : Tr) (h : t.ok) : 1 ≤ t.moms.length := by
  match t, h with
  | .at n, _ =>
    unfold Tr.moms
    exact Nat.le_refl _
  | .ov (x :: r) m s, h =>
    unfold Tr.ok at h
    obtain ⟨_, h2, _, _, _, _, h7⟩ := h
    unfold Tr.moms
    rw [overN_len]
    have hx : 1 ≤ x.moms.length := pos_moms x (by unfold okL_ at h7; exact h7.1)
    have : 1 ≤ (momsL (x :: r)).length := by
      unfold momsL
      rw [List.length_append]
      omega
    exact Nat.le_trans (by decide) (Nat.mul_le_mul h2 this)
  | .ov [] m s, h =>
    unfold Tr.ok at h
    exact absurd rfl h.1
theorem len_moms : ∀ {ts : List Tr}, okL_ ts → ts.length ≤ (momsL ts).length
  | [], _ => Nat.le_refl _
  | t :: ts, h => by
    unfold okL_ at h
    have h1 := pos_moms t h.1
    have h2 := len_moms h.2
    unfold momsL
    rw [List.length_cons, List.length_append]
    omega
theorem ov_facts {ps : List Tr} {m s : Nat} (h : (Tr.ov ps m s).ok) : ps ≠ [] ∧ 2 ≤ m ∧ m ≤ 1440 ∧ m * (momsL ps).length ≤ 1440 ∧ (momsL ps).length ≤ 1440 ∧ ps.length ≤ 1440 ∧ okL_ ps := by
  unfold Tr.ok at h
  obtain ⟨h1, h2, h3, h4, _, _, h7⟩ := h
  have h8 := len_moms h7
  have h9 : 0 < ps.length := List.length_pos_iff.mpr h1
  have h10 : m ≤ m * (momsL ps).length := Nat.le_mul_of_pos_right m (by omega)
  have h11 : (momsL ps).length ≤ m * (momsL ps).length := Nat.le_mul_of_pos_left _ (by omega)
  exact ⟨h1, h2, by omega, h4, by omega, by omega, h7⟩
theorem momsL_few : ∀ {ts : List Tr}, okL_ ts → (momsL ts).length ≤ 1440 * ts.length
  | [], _ => by
    unfold momsL
    exact Nat.zero_le _
  | t :: r, h => by
    have h1 : t.moms.length ≤ 1440 := by
      have h2 := h
      unfold okL_ at h2
      cases t with
      | «at» n =>
        unfold Tr.moms
        show 1 ≤ 1440
        decide
      | ov ps m s =>
        have h3 := h2.1
        unfold Tr.ok at h3
        unfold Tr.moms
        rw [overN_len]
        exact h3.2.2.2.1
    have h2 : (momsL r).length ≤ 1440 * r.length := momsL_few (by unfold okL_ at h; exact h.2)
    unfold momsL
    rw [List.length_append, List.length_cons]
    omega
theorem ov_nest {ps : List Tr} {m s d : Nat} (h : (Tr.ov ps m s).nest ≤ d + 1) : nestL ps ≤ d := by
  unfold Tr.nest at h
  omega
theorem headD_app {a b : List Nat} (h : a ≠ []) : (a ++ b).headD 0 = a.headD 0 := by
  cases a with
  | nil => exact absurd rfl h
  | cons x r => rfl
theorem lastD_app {a b : List Nat} (h : b ≠ []) : (a ++ b).getLastD 0 = b.getLastD 0 := by
  rw [List.getLastD_eq_getLast?, List.getLastD_eq_getLast?, List.getLast?_append]
  cases hb : b.getLast? with
  | none => exact absurd (List.getLast?_eq_none_iff.mp hb) h
  | some x => rfl
theorem lastD_map {a : List Nat} (k : Nat) (h : a ≠ []) : (a.map fun n => n + k).getLastD 0 = a.getLastD 0 + k := by
  rw [List.getLastD_eq_getLast?, List.getLastD_eq_getLast?, List.getLast?_map]
  cases hb : a.getLast? with
  | none => exact absurd (List.getLast?_eq_none_iff.mp hb) h
  | some x => rfl
theorem overN_head {ns : List Nat} {s : Nat} (h : ns ≠ []) : ∀ m, 1 ≤ m → (overN ns m s).headD 0 = ns.headD 0
  | 1, _ => by
    rw [overN_succ]
    show ([] ++ ns.map fun n => n + 0 * s).headD 0 = _
    cases ns with
    | nil => exact absurd rfl h
    | cons x r => simp
  | m + 2, _ => by
    have ih := overN_head (s := s) h (m + 1) (by omega)
    have ne : overN ns (m + 1) s ≠ [] := fun z => by
      have := congrArg List.length z
      rw [overN_len] at this
      have p : 0 < ns.length := List.length_pos_iff.mpr h
      have : (m + 1) * ns.length = 0 := this
      have := Nat.mul_pos (show 0 < m + 1 by omega) p
      omega
    rw [overN_succ, headD_app ne, ih]
theorem overN_last {ns : List Nat} {m s : Nat} (h : ns ≠ []) (hm : 1 ≤ m) : (overN ns m s).getLastD 0 = ns.getLastD 0 + (m - 1) * s := by
  obtain ⟨k, rfl⟩ : ∃ k, m = k + 1 := ⟨m - 1, by omega⟩
  rw [overN_succ, lastD_app (by intro z; exact h (List.map_eq_nil_iff.mp z)), lastD_map _ h]
  rfl
theorem moms_ne {t : Tr} (h : t.ok) : t.moms ≠ [] := fun z => by
  have := pos_moms t h
  rw [z] at this
  exact absurd this (by decide)
theorem momsL_ne {ts : List Tr} (h : okL_ ts) (h0 : ts ≠ []) : momsL ts ≠ [] := fun z => by
  have h1 := len_moms h
  rw [z] at h1
  exact h0 (List.length_eq_zero_iff.mp (Nat.le_zero.mp h1))
theorem momsL_head {t : Tr} {ts : List Tr} (h : okL_ (t :: ts)) : (momsL (t :: ts)).headD 0 = t.moms.headD 0 := by
  have e : momsL (t :: ts) = t.moms ++ momsL ts := by simp [momsL]
  rw [e, headD_app (moms_ne (okL_mem h List.mem_cons_self))]
theorem momsL_last {t : Tr} {ts : List Tr} (h : okL_ (ts ++ [t])) : (momsL (ts ++ [t])).getLastD 0 = t.moms.getLastD 0 := by
  have ht : t.ok := okL_mem h (List.mem_append_right _ List.mem_cons_self)
  have e : momsL [t] = t.moms := by simp [momsL]
  rw [momsL_app, e, lastD_app (moms_ne ht)]
theorem last_ref {as : List Addr} (h : as ≠ []) : ∃ b, as[as.length - 1]? = some b ∧ atI (as.map V.ref) (-1) = some (.ref b) := by
  refine ⟨as.getLast h, ?_, ?_⟩
  · have p : 0 < as.length := List.length_pos_iff.mpr h
    rw [List.getLast_eq_getElem, List.getElem?_eq_getElem (by omega)]
  · have e := (List.dropLast_concat_getLast h).symm
    generalize as.getLast h = z at e
    rw [e, List.map_append]
    exact atI_last _ _
/-- rising: each behind the end of the one ahead -/
def risB (ts : List Tr) : Bool := (ts.zip (ts.drop 1)).all fun p => decide (p.1.moms.getLastD 0 < p.2.moms.headD 0)
theorem all_repT (n : Nat) : (List.replicate n true).all id = true := by
  induction n with
  | zero => rfl
  | succ n ih =>
    rw [List.replicate_succ, List.all_cons, ih]
    rfl
theorem lastD_mem {ns : List Nat} (h : ns ≠ []) : ns.getLastD 0 ∈ ns := by
  rw [List.getLastD_eq_getLast?, List.getLast?_eq_some_getLast h]
  exact List.getLast_mem h
theorem headD_mem {ns : List Nat} (h : ns ≠ []) : ns.headD 0 ∈ ns := by
  cases ns with
  | nil => exact absurd rfl h
  | cons x r => exact List.mem_cons_self
theorem ris_of : ∀ {ts : List Tr}, okL_ ts → (momsL ts).Pairwise (· < ·) → risB ts = true
  | [], _, _ => rfl
  | [t], _, _ => rfl
  | t :: x :: r, h, hs => by
    have hok : okL_ (x :: r) := by
      unfold okL_ at h
      exact h.2
    have e : momsL (t :: x :: r) = t.moms ++ momsL (x :: r) := by rw [momsL]
    rw [e] at hs
    obtain ⟨h1, h2, h3⟩ := List.pairwise_append.mp hs
    have ih := ris_of hok h2
    have lt := h3 _ (lastD_mem (moms_ne (okL_mem h List.mem_cons_self))) _ (headD_mem (momsL_ne hok (by simp)))
    rw [momsL_head hok] at lt
    show (decide (t.moms.getLastD 0 < x.moms.headD 0) && risB (x :: r)) = true
    rw [decide_eq_true lt, ih]
    rfl
end
section
def GdP (ns : List Nat) (pap : List (List Int)) : Prop := ∀ b k, k < (pap.getD b []).length → pg pap b k = mostP ns pap b (k + 1)
def Good (ns : List Nat) (pap : List (List Int)) : Prop := Shp ns.length ns.length 0 pap ∧ Bd pap ∧ GdP ns pap
theorem pg_stab {pap : List (List Int)} {j b k : Nat} {v : Int} (hj : j < pap.length) (hk : k < (pap.getD b []).length) : pg (pap.set j (pap.getD j [] ++ [v])) b k = pg pap b k := by
  unfold pg
  by_cases c : b = j
  · subst c
    rw [getD_set_self _ hj, List.getD_eq_getElem?_getD, List.getElem?_append_left hk, ← List.getD_eq_getElem?_getD]
  · rw [getD_set_ne _ (Ne.symm c)]
theorem firstP_lt {ns : List Nat} {b s p : Nat} (h : p ∈ firstP ns b s) : 1 ≤ p ∧ p < s ∧ s % p = 0 ∧ isOv ns b p s = true := by
  unfold firstP at h
  obtain ⟨i, hi, e⟩ := List.mem_filterMap.mp h
  have := List.mem_range.mp hi
  split at e
  · rename_i c
    injection e with e
    subst e
    unfold firstB at c
    obtain ⟨c1, c2⟩ := Bool.and_eq_true_iff.mp c
    exact ⟨by omega, by omega, of_decide_eq_true c1, c2⟩
  · cases e
theorem mostP_stab {ns : List Nat} {pap : List (List Int)} {j b s : Nat} {v : Int} (hF : Fits pap b s) (hj : j < pap.length) : mostP ns (pap.set j (pap.getD j [] ++ [v])) b s = mostP ns pap b s := by
  unfold mostP
  by_cases c : s = 1
  · rw [if_pos c, if_pos c]
  · rw [if_neg c, if_neg c]
    have e1 : cutsP (pap.set j (pap.getD j [] ++ [v])) b s = cutsP pap b s := by
      unfold cutsP
      refine List.map_congr_left fun i hi => ?_
      have := List.mem_range.mp hi
      have f1 : i < (pap.getD b []).length := (hF 0 i (by omega) (by omega)).2
      have f2 : s - i - 2 < (pap.getD (b + i + 1) []).length := (hF (i + 1) (s - i - 2) (by omega) (by omega)).2
      rw [pg_stab hj f1, pg_stab hj f2]
    have e2 : oversP ns (pap.set j (pap.getD j [] ++ [v])) b s = oversP ns pap b s := by
      unfold oversP
      refine List.map_congr_left fun p hp => ?_
      have := firstP_lt hp
      have f1 : p - 1 < (pap.getD b []).length := (hF 0 (p - 1) (by omega) (by omega)).2
      rw [pg_stab hj f1]
    rw [e1, e2]
theorem fits_row {n i j : Nat} {pap : List (List Int)} (h : Shp n i j pap) (hj : j + i ≤ n) {b k : Nat} (hk : k < (pap.getD b []).length) : Fits pap b (k + 1) := by
  obtain ⟨h1, h2⟩ := h
  have hb : b < n := by
    by_cases c : b < n
    · exact c
    · rw [List.getD_eq_getElem?_getD, List.getElem?_eq_none (by omega)] at hk
      simp at hk
  have lb := h2 b hb
  intro p q hpq h0
  have hk1 : k < n - b := by
    rw [lb] at hk
    split at hk <;> omega
  refine ⟨by omega, ?_⟩
  rw [h2 (b + p) (by omega)]
  rw [lb] at hk
  by_cases c : p = 0
  · have := h0 c
    subst c
    simp only [Nat.add_zero]
    omega
  · split at hk <;> split <;> omega
theorem gd_step {ns : List Nat} {i j : Nat} {pap : List (List Int)} (h : Shp ns.length i j pap) (hj : j + i + 1 ≤ ns.length) (hg : GdP ns pap) : GdP ns (pap.set j (pap.getD j [] ++ [mostP ns pap j (i + 1)])) := by
  intro b k hk
  have jl : j < pap.length := by rw [h.1]; omega
  by_cases c : k < (pap.getD b []).length
  · rw [pg_stab jl c, mostP_stab (fits_row h (by omega) c) jl]
    exact hg b k c
  · have bj : b = j := by
      by_cases d : b = j
      · exact d
      · rw [getD_set_ne _ (Ne.symm d)] at hk
        exact absurd hk c
    subst bj
    rw [getD_set_self _ jl, List.length_append] at hk
    have hk2 : k < (pap.getD b []).length + 1 := hk
    have ek : k = (pap.getD b []).length := by omega
    have li := h.2 b (by omega)
    rw [if_neg (Nat.lt_irrefl _)] at li
    have ei : k = i := by omega
    rw [ei, mostP_stab (shp_fits h hj) jl]
    unfold pg
    rw [getD_set_self _ jl, List.getD_eq_getElem?_getD, List.getElem?_append_right (by omega)]
    have : i - (pap.getD b []).length = 0 := by omega
    rw [this]
    rfl
theorem gd_zero (ns : List Nat) (n : Nat) : GdP ns (List.replicate n []) := fun b k hk => by
  rw [List.getD_eq_getElem?_getD, List.getElem?_replicate] at hk
  split at hk <;> simp at hk
section
variable {ns : List Nat} {pap : List (List Int)}
theorem good_len (h : Good ns pap) {b k : Nat} (hk : b + k < ns.length) : k < (pap.getD b []).length := by
  rw [h.1.2 b (by omega), if_neg (Nat.not_lt_zero _)]
  omega
theorem good_eq (h : Good ns pap) {b k : Nat} (hk : b + k < ns.length) : pg pap b k = mostP ns pap b (k + 1) := h.2.2 b k (good_len h hk)
theorem good_one (h : Good ns pap) {b : Nat} (hb : b < ns.length) : pg pap b 0 = 1 := by
  rw [good_eq h (by omega)]
  rfl
theorem good_min (h : Good ns pap) {b s : Nat} (hs : 2 ≤ s) (hb : b + s ≤ ns.length) : pg pap b (s - 1) ∈ cutsP pap b s ++ oversP ns pap b s ∧ ∀ y ∈ cutsP pap b s ++ oversP ns pap b s, pg pap b (s - 1) ≤ y := by
  rw [good_eq h (by omega), show s - 1 + 1 = s by omega]
  unfold mostP
  rw [if_neg (by omega)]
  refine minI_mem (List.ne_nil_of_mem (a := pg pap b 0 + pg pap (b + 0 + 1) (s - 0 - 2)) (List.mem_append_left _ ?_))
  exact List.mem_map.mpr ⟨0, List.mem_range.mpr (by omega), rfl⟩
theorem good_cut (h : Good ns pap) {b s c : Nat} (h1 : 1 ≤ c) (h2 : c < s) (hb : b + s ≤ ns.length) : pg pap b (s - 1) ≤ pg pap b (c - 1) + pg pap (b + c) (s - c - 1) := by
  refine (good_min h (by omega) hb).2 _ (List.mem_append_left _ (List.mem_map.mpr ⟨c - 1, List.mem_range.mpr (by omega), ?_⟩))
  rw [show b + (c - 1) + 1 = b + c by omega, show s - (c - 1) - 2 = s - c - 1 by omega]
theorem good_ex (h : Good ns pap) {b s : Nat} (hs : 2 ≤ s) (hb : b + s ≤ ns.length) : (∃ c, 1 ≤ c ∧ c < s ∧ pg pap b (s - 1) = pg pap b (c - 1) + pg pap (b + c) (s - c - 1)) ∨ ∃ p, p ∈ firstP ns b s ∧ pg pap b (s - 1) = pg pap b (p - 1) + 1 := by
  rcases List.mem_append.mp (good_min h hs hb).1 with z | z
  · obtain ⟨i, hi, e⟩ := List.mem_map.mp z
    have := List.mem_range.mp hi
    refine .inl ⟨i + 1, by omega, by omega, ?_⟩
    rw [← e, show b + (i + 1) = b + i + 1 by omega, show s - (i + 1) - 1 = s - i - 2 by omega, Nat.add_sub_cancel]
  · obtain ⟨p, hp, e⟩ := List.mem_map.mp z
    exact .inr ⟨p, hp, e.symm⟩
/-- a stretch that is cut nowhere at no cost -/
def NoCut (pap : List (List Int)) (b s : Nat) : Prop := ∀ c, 1 ≤ c → c < s → pg pap b (c - 1) + pg pap (b + c) (s - c - 1) ≠ pg pap b (s - 1)
/-- the first stretch of one is cut nowhere -/
theorem first_nocut (h : Good ns pap) {b s f : Nat} (hb : b + s ≤ ns.length) (h1 : 1 ≤ f) (h2 : f < s) (e : pg pap b (f - 1) + pg pap (b + f) (s - f - 1) = pg pap b (s - 1)) (hn : ∀ c, 1 ≤ c → c < f → pg pap b (c - 1) + pg pap (b + c) (s - c - 1) ≠ pg pap b (s - 1)) : NoCut pap b f := by
  intro c c1 cf z
  have k1 := good_cut h (b := b + c) (s := s - c) (c := f - c) (by omega) (by omega) (by omega)
  rw [show b + c + (f - c) = b + f by omega, show s - c - (f - c) - 1 = s - f - 1 by omega] at k1
  have k2 := good_cut h c1 (show c < s by omega) hb
  exact hn c c1 cf (by omega)
theorem nocut_ov (h : Good ns pap) {b s : Nat} (hs : 2 ≤ s) (hb : b + s ≤ ns.length) (hn : NoCut pap b s) : ∃ p, p ∈ firstP ns b s ∧ pg pap b (p - 1) = pg pap b (s - 1) - 1 := by
  rcases good_ex h hs hb with ⟨c, h1, h2, e⟩ | ⟨p, hp, e⟩
  · exact absurd e.symm (hn c h1 h2)
  · exact ⟨p, hp, by omega⟩
end
/-- a stretch -/
def seg (ns : List Nat) (b s : Nat) : List Nat := (ns.drop b).take s
theorem seg_len {ns : List Nat} {b s : Nat} (h : b + s ≤ ns.length) : (seg ns b s).length = s := by
  unfold seg
  rw [List.length_take, List.length_drop]
  omega
theorem seg_get {ns : List Nat} {b s i : Nat} (h : b + s ≤ ns.length) (hi : i < s) : (seg ns b s)[i]? = some (gN ns (b + i)) := by
  unfold seg gN
  rw [List.getElem?_take, if_pos hi, List.getElem?_drop, List.getD_eq_getElem?_getD, List.getElem?_eq_getElem (by omega)]
  rfl
theorem sg_app {ns : List Nat} {b s c : Nat} (h : c ≤ s) : seg ns b c ++ seg ns (b + c) (s - c) = seg ns b s := by
  unfold seg
  rw [← List.drop_drop]
  generalize ns.drop b = l
  have e : s = c + (s - c) := by omega
  conv => rhs; rw [e, List.take_add]
theorem seg_all (ns : List Nat) : seg ns 0 ns.length = ns := by
  unfold seg
  simp
theorem seg_one {ns : List Nat} {b : Nat} (h : b < ns.length) : seg ns b 1 = [gN ns b] := by
  unfold seg gN
  rw [List.drop_eq_getElem_cons h, List.getD_eq_getElem?_getD, List.getElem?_eq_getElem h]
  rfl
theorem isOv_at {ns : List Nat} {b p s : Nat} (h : isOv ns b p s = true) {i : Nat} (hi : i < s - p) : (gN ns (b + i + p) : Int) - gN ns (b + i) = (gN ns (b + p) : Int) - gN ns b := by
  unfold isOv at h
  exact of_decide_eq_true (List.all_eq_true.mp h i (List.mem_range.mpr hi))
theorem isOv_far {ns : List Nat} {b p s : Nat} (h : isOv ns b p s = true) {st : Nat} (hst : gN ns (b + p) = gN ns b + st) (hp : 1 ≤ p) : ∀ (t i : Nat), t * p + i < s → gN ns (b + (t * p + i)) = gN ns (b + i) + t * st
  | 0, i, _ => by simp
  | t + 1, i, hi => by
    rw [Nat.add_mul, Nat.one_mul] at hi
    have ih := isOv_far h hst hp t i (by omega)
    have k := isOv_at h (i := t * p + i) (by omega)
    rw [Nat.add_mul, Nat.one_mul, Nat.add_mul, Nat.one_mul, show b + (t * p + p + i) = b + (t * p + i) + p by omega]
    omega
theorem over_seg {ns : List Nat} {b p s : Nat} (h : isOv ns b p s = true) {st : Nat} (hst : gN ns (b + p) = gN ns b + st) (hp : 1 ≤ p) (hb : b + s ≤ ns.length) : ∀ m, m * p ≤ s → overN (seg ns b p) m st = seg ns b (m * p)
  | 0, _ => by
    unfold overN seg
    simp
  | m + 1, hm => by
    rw [Nat.add_mul, Nat.one_mul] at hm
    rw [overN_succ, over_seg h hst hp hb m (by omega), Nat.add_mul, Nat.one_mul, ← sg_app (c := m * p) (s := m * p + p) (by omega)]
    congr 1
    rw [Nat.add_sub_cancel_left]
    apply List.ext_getElem?
    intro i
    by_cases c : i < p
    · rw [List.getElem?_map, seg_get (by omega) c, seg_get (by omega) c]
      have k := isOv_far h hst hp m i (by omega)
      rw [show b + m * p + i = b + (m * p + i) by omega, k]
      rfl
    · rw [List.getElem?_eq_none (by rw [List.length_map, seg_len (by omega)]; omega), List.getElem?_eq_none (by rw [seg_len (by omega)]; omega)]
theorem good_paper {ns : List Nat} {pap : List (List Int)} (h : Good ns pap) : paperB ns pap = true := by
  have pl : pap.length = ns.length := h.1.1
  unfold paperB shapeB
  refine Bool.and_eq_true_iff.mpr ⟨Bool.and_eq_true_iff.mpr ⟨decide_eq_true pl, List.all_eq_true.mpr fun i hi => ?_⟩, List.all_eq_true.mpr fun b hb => ?_⟩
  · have i1 := List.mem_range.mp hi
    refine decide_eq_true ?_
    rw [h.1.2 i (by omega), if_neg (Nat.not_lt_zero _)]
    omega
  · have b1 := List.mem_range.mp hb
    unfold rowB
    refine List.all_eq_true.mpr fun j hj => decide_eq_true ?_
    have j1 := List.mem_range.mp hj
    rw [good_eq h (by omega)]
    exact Int.le_refl _
theorem good_rows {ns : List Nat} {pap : List (List Int)} (h : Good ns pap) (hl : ns.length ≤ 40) : pap.length ≤ 40 ∧ (∀ r ∈ pap, r.length ≤ 40) ∧ smallP 100 pap := by
  have pl : pap.length = ns.length := h.1.1
  refine ⟨by omega, fun r hr => ?_, bd_small h.1 h.2.1 hl⟩
  obtain ⟨i, il, rfl⟩ := List.getElem_of_mem hr
  have e : pap.getD i [] = pap[i] := by rw [List.getD_eq_getElem?_getD, List.getElem?_eq_getElem il]; rfl
  have lr := h.1.2 i (by omega)
  rw [if_neg (Nat.not_lt_zero i), e] at lr
  omega
/-- there is one good paper -/
theorem good_pg {ns : List Nat} {pap qap : List (List Int)} (h : Good ns pap) (g : Good ns qap) : ∀ s b k, k < s → b + k < ns.length → pg pap b k = pg qap b k
  | 0, _, _, h, _ => by omega
  | s + 1, b, k, hk, hb => by
    have ih := good_pg h g s
    by_cases c : k < s
    · exact ih b k c hb
    · have e : k = s := by omega
      subst e
      rw [good_eq h hb, good_eq g hb]
      unfold mostP
      by_cases d : k + 1 = 1
      · rw [if_pos d, if_pos d]
      · rw [if_neg d, if_neg d]
        have e1 : cutsP pap b (k + 1) = cutsP qap b (k + 1) := by
          unfold cutsP
          refine List.map_congr_left fun i hi => ?_
          have := List.mem_range.mp hi
          rw [ih b i (by omega) (by omega), ih (b + i + 1) (k + 1 - i - 2) (by omega) (by omega)]
        have e2 : oversP ns pap b (k + 1) = oversP ns qap b (k + 1) := by
          unfold oversP
          refine List.map_congr_left fun p hp => ?_
          have := firstP_lt hp
          rw [ih b (p - 1) (by omega) (by omega)]
        rw [e1, e2]
theorem good_uniq {ns : List Nat} {pap qap : List (List Int)} (h : Good ns pap) (g : Good ns qap) : pap = qap := by
  have h1 : pap.length = ns.length := h.1.1
  have g1 : qap.length = ns.length := g.1.1
  apply List.ext_getElem?
  intro b
  by_cases c : b < ns.length
  · have e1 : pap[b]? = some (pap.getD b []) := by rw [List.getD_eq_getElem?_getD, List.getElem?_eq_getElem (by omega)]; rfl
    have e2 : qap[b]? = some (qap.getD b []) := by rw [List.getD_eq_getElem?_getD, List.getElem?_eq_getElem (by omega)]; rfl
    rw [e1, e2]
    congr 1
    have l1 := h.1.2 b c
    have l2 := g.1.2 b c
    rw [if_neg (Nat.not_lt_zero _)] at l1 l2
    apply List.ext_getElem?
    intro k
    by_cases d : k < ns.length - b
    · have e := good_pg h g (k + 1) b k (by omega) (by omega)
      unfold pg at e
      rw [List.getD_eq_getElem?_getD (l := pap.getD b []), List.getD_eq_getElem?_getD (l := qap.getD b []), List.getElem?_eq_getElem (by omega), List.getElem?_eq_getElem (by omega)] at e
      rw [List.getElem?_eq_getElem (by omega), List.getElem?_eq_getElem (by omega)]
      exact congrArg some e
    · rw [List.getElem?_eq_none (by omega), List.getElem?_eq_none (by omega)]
  · rw [List.getElem?_eq_none (by omega), List.getElem?_eq_none (by omega)]
end
section
def sp_numbers_of (K : PySem.W.Frag) : Sp := fun vs H Q _ => ∃ (r : Addr) (ns : List Nat), vs = [.ref r] ∧ H r = some (.lst (natV ns)) ∧ ns.length ≤ 40 ∧ ∀ a pap as H', Ex H H' → H a = none → PapL (fun b => H b = none) H' a pap as → Good ns pap → Q (.ref a) H'
theorem fb_numbers_of {P : Program} {w : World} {K : PySem.W.Frag} {mg : Str → Option Value} {base : Heap} (T : Env K mg) : ∃ fd, FunD K "numbers_of" "numbers_of" (defArgs s_numbers_of) (defBody s_numbers_of) (defScope s_numbers_of) [] [] (He.ga K "numbers_of") fd ∧ Fb P w K mg base 4 (He.ga K "numbers_of") fd ["row"] (sp_numbers_of K) := by
  obtain ⟨fd, F⟩ := T.f_numbers_of
  refine ⟨fd, F, fb_of F sc_numbers_of (fun vs H Q E h => ?_) (fun cdv A outer s H vs Q E hr h => ?_)⟩
  · obtain ⟨r, ns, rfl, _⟩ := h
    rfl
  · obtain ⟨r, ns, rfl, hw, hl, q⟩ := h
    refine ⟨_, (pss_cons (ps_setLc (i := 1) (own := [("one", 4)]) (by rfl) sc_numbers_of.nd rfl rfl (sw_true rfl rfl rfl (by decide +kernel)) (pi_list (pv 0)) (blkOk_by (own := [("one", 4)]) (N := ["row", "paper", "size", "begin", "one"]) (sc := defScope s_numbers_of) (by decide +kernel)) (fun _ _ _ _ _ => (pg_name (i := 4) sc_numbers_of.nd rfl (Or.inl rfl))) (fun _ _ _ _ _ => pts_nil) (fun _ _ _ _ _ => (pe_lst pa_nil)))
      (pss_cons (ps_for (passes_of rfl) rfl (pi_range2 (by rfl) T.n_range (pa_cons pe_int (pa_cons (pe_op op_add (pe_callB call_len (by rfl) T.n_len (by decide +kernel) (pa_cons (pv 0) pa_nil)) pe_int) pa_nil))) (pg_name (i := 2) sc_numbers_of.nd rfl (Or.inl rfl))
      (pss_one (ps_for (passes_of rfl) rfl (pi_range1 (by rfl) T.n_range (pa_cons (pe_op op_add (pe_op op_sub (pe_callB call_len (by rfl) T.n_len (by decide +kernel) (pa_cons (pv 0) pa_nil)) (pv 2)) pe_int) pa_nil)) (pg_name (i := 3) sc_numbers_of.nd rfl (Or.inl rfl))
      (pss_one (ps_expr (pe_bm PySem.F.plainAttrs_list PySem.F.slot_list_append PySem.F.type_list_append mt_append (pe_ix ix_list (pv 1) (pv 3) (fun _ _ => rfl)) (pa_cons (c_call (ok_most_number T) (hr.mono (by decide)) T.g_most_number T.k_most_number takes0 (pa_cons (pv 0) (pa_cons (pv 1) (pa_cons (pv 3) (pa_cons (pv 2) pa_nil))))) pa_nil)))))))
      (pss_one (ps_ret (pv 1))))), ?_⟩
    refine ⟨_, rfl, _, rfl, ⟨_, (sq_lst hw)⟩, ?_⟩
    intro A nA
    refine lc_any (L2.walk_list (K := K) (a := r) (xs := natV ns)) (fun i acc G => Ex H G ∧ ∃ as : List Addr, acc = as.map V.ref ∧ as.length = i ∧ as.Nodup ∧ ∀ (k : Nat) (b : Addr), as[k]? = some b → H b = none ∧ b ≠ A ∧ G b = some (.lst [])) (fun i acc G z e => ?_) ⟨.refl _, [], rfl, rfl, List.nodup_nil, fun k b hk => by simp at hk⟩ (by rw [natV_len]; omega) (fun i acc G e => ?_) (fun i acc G e => sq_lst (e.1 _ _ hw)) (fun i x G G' acc N hi e hA' la y k _ => ?_) (fun acc G e hA' => ?_)
    · obtain ⟨e1, as, e2, e3, e4, e5⟩ := e
      refine ⟨ex_mut e1 nA, as, e2, e3, e4, fun k b hk => ?_⟩
      obtain ⟨g1, g2, g3⟩ := e5 k b hk
      exact ⟨g1, g2, by rw [upd_ne g2]; exact g3⟩
    · obtain ⟨_, as, rfl, e3, _⟩ := e
      rw [List.length_map, e3]
      exact Nat.le_refl _
    · obtain ⟨rfl, y⟩ := y
      obtain ⟨e1, as, e2, e3, e4, e5⟩ := e
      refine ⟨rfl, by show 0 ≤ sizeLine; decide, fun b nb => ?_⟩
      have X2 := ex_new (o := .lst []) nb
      have bA : b ≠ A := fun z => by rw [z, hA'] at nb; cases nb
      refine ⟨acc, X2 _ _ hA', la, k _ _ (X2 _ _ hA') ⟨e1.trans X2, as ++ [b], by rw [e2, List.map_append]; rfl, by rw [List.length_append, e3]; rfl, ?_, fun j c hj => ?_⟩⟩
      · refine List.nodup_append.mpr ⟨e4, List.pairwise_singleton _ _, fun c hc d hd z => ?_⟩
        rw [List.mem_singleton.mp hd] at z
        obtain ⟨j, jl, e6⟩ := List.getElem_of_mem hc
        have := (e5 j c (by rw [List.getElem?_eq_getElem jl, e6])).2.2
        rw [z, nb] at this
        cases this
      · by_cases d : j < as.length
        · rw [List.getElem?_append_left d] at hj
          obtain ⟨g1, g2, g3⟩ := e5 j c hj
          exact ⟨g1, g2, X2 _ _ g3⟩
        · rw [List.getElem?_append_right (by omega)] at hj
          have hj2 : [b][j - as.length]? = some c := hj
          have cb : c = b := List.mem_singleton.mp (List.mem_of_getElem? hj2)
          rw [cb]
          exact ⟨ex_fresh e1 nb, bA, upd_same⟩
    · obtain ⟨X1, as, rfl, e3, e4, e5⟩ := e
      rw [natV_len] at e3
      have P0 : PapL (fun b => H b = none) G A (List.replicate ns.length []) as := by
        refine ⟨hA', by rw [List.length_replicate]; exact e3, e4, fun i b hi => ?_⟩
        obtain ⟨g1, g2, g3⟩ := e5 i b hi
        refine ⟨g1, g2, ?_⟩
        rw [g3, List.getD_eq_getElem?_getD, List.getElem?_replicate]
        split <;> rfl
      have hw1 := X1 _ _ hw
      clear e5 hA'
      refine ⟨_, rfl, _, _, rfl, (.inl ⟨_, ⟨(sq_lst hw1), rfl⟩⟩), _, _, rfl, rfl, _, _, rfl, ?_⟩
      rw [natV_len]
      have en : ((ns.length : Int) + 1 - 1).toNat = ns.length := by omega
      rw [en]
      refine ⟨⟨by omega, by omega, by omega, by omega⟩, for_range (fun i σ H' => Ex H H' ∧ ∃ pap v3, PapL (fun b => H b = none) H' A pap as ∧ Shp ns.length i 0 pap ∧ Bd pap ∧ GdP ns pap ∧ σ = [some (.ref r), some (.ref A), v3.1, v3.2, none]) ⟨X1, _, (none, none), P0, shp_zero _, bd_zero _, gd_zero _ _, rfl⟩ ?_ ?_⟩
      · rintro i σ H1 hi ⟨X1, pap, v3, hP, hS, hB, hG, rfl⟩
        have hw2 := X1 _ _ hw
        have lz : (natV ns).length = ns.length := natV_len ns
        have e1 : (1 : Int) + (i : Int) = ((i + 1 : Nat) : Int) := by omega
        rw [e1]
        refine ⟨_, rfl, _, _, rfl, (.inl ⟨_, ⟨(sq_lst hw2), rfl⟩⟩), _, rfl, _, _, rfl, rfl, _, _, rfl, rfl, _, rfl, (by omega), (by omega), ?_⟩
        rw [lz]
        have en2 : ((ns.length : Int) - ((i + 1 : Nat) : Int) + 1).toNat = ns.length - i := by omega
        rw [en2]
        refine for_range (fun j σ H' => Ex H H' ∧ ∃ pap v, PapL (fun b => H b = none) H' A pap as ∧ Shp ns.length i j pap ∧ Bd pap ∧ GdP ns pap ∧ σ = [some (.ref r), some (.ref A), some (.int ((i + 1 : Nat) : Int)), v, none]) ⟨X1, pap, _, hP, hS, hB, hG, rfl⟩ ?_ ?_
        · clear hP hS hB hG hw2 X1
          rintro j σ H2 hj ⟨X2, pap, v, hP, hS, hB, hG, rfl⟩
          have hw3 := X2 _ _ hw
          have e0 : (0 : Int) + (j : Int) = (j : Int) := by omega
          rw [e0]
          have jn : j < as.length := by omega
          have hbj : as[j]? = some as[j] := List.getElem?_eq_getElem jn
          have hat : atI (as.map V.ref) (j : Int) = some (.ref as[j]) := atI_nat (by rw [List.getElem?_map, hbj]; rfl)
          obtain ⟨g1, g2, g3⟩ := hP.2.2.2 j _ hbj
          have hPA : PapAt K H2 A pap := hP.at
          have hA2 := hP.1
          have hF := shp_fits hS (by omega)
          have s1 : 1 ≤ i + 1 := by omega
          have s2 : j + (i + 1) ≤ ns.length := by omega
          have s3 : ns.length ≤ 1000 := by omega
          have mb := most_bounds (ns := ns) hB hF s1
          refine ⟨_, rfl, _, rfl, _, _, _, _, rfl, rfl, (sq_lst hA2), hat, (.inl ⟨rfl, ⟨_, (sq_lst g3)⟩⟩), _, rfl, _, rfl, _, rfl, _, rfl, _, _, _, _, _, _, rfl, (sq_lst hw3), hPA, hF, s1, s2, s3, ?_⟩
          intro H3 X3
          have lr := hS.2 j (by omega)
          rw [if_neg (Nat.lt_irrefl _)] at lr
          have hz : ((pap.getD j []).map V.int).length < sizeLine := sz_lt (by rw [List.length_map]; omega)
          refine ⟨_, _, _, rfl, rfl, (X3 _ _ g3), hz, (ex_mut (X2.trans X3) g1), ?_⟩
          have P3 := (hP.mono X3).put hbj (pap.getD j [] ++ [mostP ns pap j (i + 1)])
          rw [List.map_append] at P3
          exact ⟨_, _, P3, shp_step hS (by omega) _, bd_step hS (by omega) hB mb.1 (by have := mb.2; omega), gd_step hS (by omega) hG, rfl⟩
        · rintro σ H2 ⟨X2, pap, v, hP, hS, hB, hG, rfl⟩
          exact ⟨X2, pap, (_, _), hP, shp_next hS, hB, hG, rfl⟩
      · rintro σ H1 ⟨X1, pap, v3, hP, hS, hB, hG, rfl⟩
        exact ⟨_, rfl, q A pap as H1 X1 nA hP ⟨hS, hB, hG⟩⟩
theorem ok_numbers_of {P : Program} {w : World} {K : PySem.W.Frag} {mg : Str → Option Value} {base : Heap} (T : Env K mg) : Fc P w K mg base 4 (He.ga K "numbers_of") [] (sp_numbers_of K ) := by
  obtain ⟨fd, D, F⟩ := fb_numbers_of T
  exact F.all (D.bindsN fun _ _ _ _ _ _ us hl => match us, hl with | [_], _ => rfl)
end
section
def MkR (N : Addr → Prop) (A : Addr) (rw_ : Nat → List Int) (i : Nat) (acc : List V) (G : Hp) : Prop := ∃ as : List Addr, acc = as.map V.ref ∧ as.length = i ∧ as.Nodup ∧ ∀ (k : Nat) (b : Addr), as[k]? = some b → N b ∧ b ≠ A ∧ G b = some (.lst ((rw_ k).map V.int))
theorem MkR.nil {N : Addr → Prop} {A : Addr} {rw_ : Nat → List Int} {G : Hp} : MkR N A rw_ 0 [] G := ⟨[], rfl, rfl, List.nodup_nil, fun k b hk => by simp at hk⟩
theorem MkR.len {N : Addr → Prop} {A : Addr} {rw_ : Nat → List Int} {i : Nat} {acc : List V} {G : Hp} (h : MkR N A rw_ i acc G) : acc.length ≤ i := by
  obtain ⟨as, rfl, e3, _⟩ := h
  rw [List.length_map, e3]
  exact Nat.le_refl _
theorem MkR.mono {N : Addr → Prop} {A : Addr} {rw_ : Nat → List Int} {i : Nat} {acc : List V} {G G' : Hp} (h : MkR N A rw_ i acc G) (e : Ex G G') : MkR N A rw_ i acc G' := by
  obtain ⟨as, e2, e3, e4, e5⟩ := h
  exact ⟨as, e2, e3, e4, fun k b hk => let ⟨g1, g2, g3⟩ := e5 k b hk; ⟨g1, g2, e _ _ g3⟩⟩
theorem MkR.upd {N : Addr → Prop} {A : Addr} {rw_ : Nat → List Int} {i : Nat} {acc : List V} {G : Hp} (h : MkR N A rw_ i acc G) (o : HO) : MkR N A rw_ i acc (upd G A o) := by
  obtain ⟨as, e2, e3, e4, e5⟩ := h
  exact ⟨as, e2, e3, e4, fun k b hk => let ⟨g1, g2, g3⟩ := e5 k b hk; ⟨g1, g2, by rw [upd_ne g2]; exact g3⟩⟩
theorem MkR.snoc {N : Addr → Prop} {A : Addr} {rw_ : Nat → List Int} {i : Nat} {acc : List V} {G G' : Hp} {b : Addr} (h : MkR N A rw_ i acc G) (nb : G b = none) (Nb : N b) (bA : b ≠ A) (e : Ex G G') (hb : G' b = some (.lst ((rw_ i).map V.int))) : MkR N A rw_ (i + 1) (acc ++ [.ref b]) G' := by
  obtain ⟨as, e2, e3, e4, e5⟩ := h
  refine ⟨as ++ [b], by rw [e2, List.map_append]; rfl, by rw [List.length_append, e3]; rfl, ?_, fun j c hj => ?_⟩
  · refine List.nodup_append.mpr ⟨e4, List.pairwise_singleton _ _, fun c hc d hd z => ?_⟩
    rw [List.mem_singleton.mp hd] at z
    obtain ⟨j, jl, e6⟩ := List.getElem_of_mem hc
    have := (e5 j c (by rw [List.getElem?_eq_getElem jl, e6])).2.2
    rw [z, nb] at this
    cases this
  · by_cases d : j < as.length
    · rw [List.getElem?_append_left d] at hj
      obtain ⟨g1, g2, g3⟩ := e5 j c hj
      exact ⟨g1, g2, e _ _ g3⟩
    · rw [List.getElem?_append_right (by omega)] at hj
      have hj2 : [b][j - as.length]? = some c := hj
      have cb : c = b := List.mem_singleton.mp (List.mem_of_getElem? hj2)
      have ji : j = i := by
        obtain ⟨z, _⟩ := List.getElem?_eq_some_iff.mp hj2
        simp at z
        omega
      rw [cb, ji]
      exact ⟨Nb, bA, hb⟩
theorem PapL.weak {N N' : Addr → Prop} {G : Hp} {F : Addr} {pap : List (List Int)} {as : List Addr} (h : PapL N G F pap as) (w : ∀ b, N b → N' b) : PapL N' G F pap as := ⟨h.1, h.2.1, h.2.2.1, fun i b hi => let ⟨g1, g2⟩ := h.2.2.2 i b hi; ⟨w _ g1, g2⟩⟩
/-- all but q stays -/
theorem PapL.oth {N : Addr → Prop} {G G' : Hp} {F q : Addr} {pap : List (List Int)} {as : List Addr} (h : PapL N G F pap as) (k : ∀ b o, b ≠ q → G b = some o → G' b = some o) (Fq : F ≠ q) (Nq : ∀ b, N b → b ≠ q) : PapL N G' F pap as :=
  ⟨k _ _ Fq h.1, h.2.1, h.2.2.1, fun i b hi => let ⟨g1, g2, g3⟩ := h.2.2.2 i b hi; ⟨g1, g2, k _ _ (Nq _ g1) g3⟩⟩
theorem map_erase {α β : Type} (f : α → β) : ∀ (l : List α) (k : Nat), (l.map f).eraseIdx k = (l.eraseIdx k).map f
  | [], _ => rfl
  | _ :: _, 0 => rfl
  | n :: r, k + 1 => congrArg (f n :: ·) (map_erase f r k)
theorem getD_erase {α : Type} (d : α) : ∀ (l : List α) (k i : Nat), (l.eraseIdx k).getD i d = if i < k then l.getD i d else l.getD (i + 1) d
  | [], _, _ => by simp
  | _ :: _, 0, i => by simp
  | a :: r, k + 1, 0 => by simp
  | a :: r, k + 1, i + 1 => by
    have := getD_erase d r k i
    simp only [List.eraseIdx_cons_succ, List.getD_cons_succ, this]
    by_cases c : i < k
    · rw [if_pos c, if_pos (by omega)]
    · rw [if_neg c, if_neg (by omega)]
theorem PapL.drop {N : Addr → Prop} {G : Hp} {F : Addr} {pap : List (List Int)} {as : List Addr} (h : PapL N G F pap as) (k : Nat) : PapL N (upd G F (.lst ((as.map V.ref).eraseIdx k))) F (pap.eraseIdx k) (as.eraseIdx k) := by
  obtain ⟨h1, h2, h3, h4⟩ := h
  refine ⟨by rw [upd_same, map_erase], by rw [List.length_eraseIdx, List.length_eraseIdx, h2], h3.sublist (List.eraseIdx_sublist _ _), fun i b hi => ?_⟩
  rw [List.getElem?_eraseIdx] at hi
  rw [getD_erase]
  split at hi
  · rename_i c
    obtain ⟨g1, g2, g3⟩ := h4 i b hi
    rw [if_pos c, upd_ne g2]
    exact ⟨g1, g2, g3⟩
  · rename_i c
    obtain ⟨g1, g2, g3⟩ := h4 (i + 1) b hi
    rw [if_neg c, upd_ne g2]
    exact ⟨g1, g2, g3⟩
/-- a row more, in a new list of rows -/
theorem PapL.snoc {N : Addr → Prop} {G G' : Hp} {F P b : Addr} {pap : List (List Int)} {as : List Addr} {r : List Int} (h : PapL N G F pap as) (nb : G b = none) (Nb : N b) (bP : b ≠ P) (nP : G P = none) (e : Ex G G') (hb : G' b = some (.lst (r.map V.int))) (hP : G' P = some (.lst (as.map V.ref ++ [.ref b]))) : PapL N G' P (pap ++ [r]) (as ++ [b]) := by
  obtain ⟨h1, h2, h3, h4⟩ := h
  refine ⟨by rw [hP, List.map_append]; rfl, by rw [List.length_append, List.length_append, h2]; rfl, ?_, fun i c hi => ?_⟩
  · refine List.nodup_append.mpr ⟨h3, List.pairwise_singleton _ _, fun c hc d hd z => ?_⟩
    rw [List.mem_singleton.mp hd] at z
    obtain ⟨j, jl, e6⟩ := List.getElem_of_mem hc
    have := (h4 j c (by rw [List.getElem?_eq_getElem jl, e6])).2.2
    rw [z, nb] at this
    cases this
  · by_cases d : i < as.length
    · rw [List.getElem?_append_left d] at hi
      obtain ⟨g1, g2, g3⟩ := h4 i c hi
      rw [List.getD_eq_getElem?_getD, List.getElem?_append_left (by omega), ← List.getD_eq_getElem?_getD]
      exact ⟨g1, fun z => (by rw [z, nP] at g3; cases g3), e _ _ g3⟩
    · rw [List.getElem?_append_right (by omega)] at hi
      have hi2 : [b][i - as.length]? = some c := hi
      have cb : c = b := List.mem_singleton.mp (List.mem_of_getElem? hi2)
      have ii : i = pap.length := by
        obtain ⟨z, _⟩ := List.getElem?_eq_some_iff.mp hi2
        simp at z
        omega
      rw [cb, ii, List.getD_eq_getElem?_getD, List.getElem?_append_right (Nat.le_refl _), Nat.sub_self]
      exact ⟨Nb, bP, hb⟩
theorem PapL.row {N : Addr → Prop} {G : Hp} {F : Addr} {pap : List (List Int)} {as : List Addr} (h : PapL N G F pap as) {i : Nat} (hi : i < pap.length) : ∃ b : Addr, as[i]? = some b ∧ atI (as.map V.ref) (i : Int) = some (.ref b) ∧ N b ∧ b ≠ F ∧ G b = some (.lst ((pap.getD i []).map V.int)) := by
  obtain ⟨h1, h2, h3, h4⟩ := h
  have il : i < as.length := by omega
  have e1 : as[i]? = some as[i] := List.getElem?_eq_getElem il
  exact ⟨as[i], e1, atI_nat (by rw [List.getElem?_map, e1]; rfl), h4 i _ e1⟩
end
section
theorem momList_nodup {xs : List V} {ns : List Nat} (h : some ns = momList xs) : ns.Nodup := by
  unfold momList at h
  split at h
  · rename_i c
    injection h with h
    rw [h]
    exact of_decide_eq_true (Bool.and_eq_true_iff.mp c).2
  · cases h
theorem MomG.nodup {K : PySem.W.Frag} {H : Hp} {x : V} {ns : List Nat} (h : MomG K H x (some ns)) : ns.Nodup := by
  rcases h with ⟨a, xs, _, _, _, _, h⟩ | ⟨_, h⟩
  · exact momList_nodup h
  · cases h
end
section
def sp_paper_of (K : PySem.W.Frag) : Sp := fun vs H Q E => ∃ x r, vs = [x] ∧ MomG K H x r ∧ (∀ ns, r = some ns → ns.length ≤ 40) ∧ (∀ ns, r = some ns → ∀ a pap as H', Ex H H' → H a = none → PapL (fun b => H b = none) H' a pap as → Good (srtN ns) pap → Q (.ref a) H') ∧ (r = none → ∀ H', Ex H H' → E (.ref (He.ga K "NoPiece")) none H')
theorem fb_paper_of {P : Program} {w : World} {K : PySem.W.Frag} {mg : Str → Option Value} {base : Heap} (T : Env K mg) : ∃ fd, FunD K "paper_of" "paper_of" (defArgs s_paper_of) (defBody s_paper_of) (defScope s_paper_of) [] [] (He.ga K "paper_of") fd ∧ Fb P w K mg base 5 (He.ga K "paper_of") fd ["moments"] (sp_paper_of K) := by
  obtain ⟨fd, F⟩ := T.f_paper_of
  refine ⟨fd, F, fb_of F sc_paper_of (fun vs H Q E h => ?_) (fun cdv A outer s H vs Q E hr h => ?_)⟩
  · obtain ⟨x, r, rfl, _⟩ := h
    rfl
  · obtain ⟨x, r, rfl, hx, hl, q, qe⟩ := h
    refine ⟨_, (pss_one (ps_ret (c_call (ok_numbers_of T) (hr.mono (by decide)) T.g_numbers_of T.k_numbers_of (takes_of rfl rfl rfl rfl) (pa_cons (c_call (ok_in_rising_order T) (hr.mono (by decide)) T.g_in_rising_order T.k_in_rising_order (takes_of rfl rfl rfl rfl) (pa_cons (pv 0) pa_nil)) pa_nil)))), ?_⟩
    refine ⟨_, rfl, x, r, rfl, hx, fun ns er f H1 X1 nf hf => ?_, fun er H1 X1 => qe er H1 X1⟩
    refine ⟨f, srtN ns, rfl, hf, by rw [srtN_len]; exact hl ns er, fun a pap as H2 X2 na hP hG => ?_⟩
    exact q ns er a pap as H2 (X1.trans X2) (ex_fresh X1 na) (hP.weak fun b nb => ex_fresh X1 nb) hG
theorem ok_paper_of {P : Program} {w : World} {K : PySem.W.Frag} {mg : Str → Option Value} {base : Heap} (T : Env K mg) : Fc P w K mg base 5 (He.ga K "paper_of") [] (sp_paper_of K ) := by
  obtain ⟨fd, D, F⟩ := fb_paper_of T
  exact F.all (D.bindsN fun _ _ _ _ _ _ us hl => match us, hl with | [_], _ => rfl)
end
section
def sp_has_shape (K : PySem.W.Frag) : Sp := fun vs H Q _ => ∃ (p : Addr) (pap : List (List Int)) (n : Nat), vs = [.ref p, .int (n : Nat)] ∧ PapAt K H p pap ∧ pap.length ≤ 1000 ∧ ∀ H', Ex H H' → Q (.bl (shapeB pap n)) H'
theorem fb_has_shape {P : Program} {w : World} {K : PySem.W.Frag} {mg : Str → Option Value} {base : Heap} (T : Env K mg) : ∃ fd, FunD K "has_shape" "has_shape" (defArgs s_has_shape) (defBody s_has_shape) (defScope s_has_shape) [] [] (He.ga K "has_shape") fd ∧ Fb P w K mg base 1 (He.ga K "has_shape") fd ["paper", "many"] (sp_has_shape K) := by
  obtain ⟨fd, F⟩ := T.f_has_shape
  refine ⟨fd, F, fb_of F sc_has_shape (fun vs H Q E h => ?_) (fun cdv A outer s H vs Q E hr h => ?_)⟩
  · obtain ⟨p, pap, n, rfl, _⟩ := h
    rfl
  · obtain ⟨p, pap, n, rfl, hP, hl, q⟩ := h
    refine ⟨_, (pss_one (ps_ret (pe_and (pe_cmpR op_eq (pe_callB call_len (by rfl) T.n_len (by decide +kernel) (pa_cons (pv 0) pa_nil)) (pv 1) (nomark _)) (pe_one (pe_callB (cr_all rfl) (by rfl) T.n_all (by decide +kernel) (pa_cons (pe_lc (own := [("place", 2), ("numbers", 3)]) (by rfl) sc_has_shape.nd (pi_enumB K (by rfl) T.n_enumerate (pa_cons (pv 0) pa_nil)) (blkOk_by (own := [("place", 2), ("numbers", 3)]) (N := ["paper", "many", "place", "numbers"]) (sc := defScope s_has_shape) (by decide +kernel)) (fun _ _ _ _ _ => (pg_tupK K (n := 2) rfl (pgs_cons (pg_name (i := 2) sc_has_shape.nd rfl (Or.inl rfl)) (pgs_cons (pg_name (i := 3) sc_has_shape.nd rfl (Or.inl rfl)) pgs_nil)))) (fun _ _ _ _ _ => pts_nil) (fun _ _ _ _ _ => (pe_cmpR op_eq (pe_callB (call_lenK K) (by rfl) T.n_len (by decide +kernel) (pa_cons (pv 3) pa_nil)) (pe_op op_sub (pv 1) (pv 2)) (nomark _)))) pa_nil)))))), ?_⟩
    obtain ⟨as, h1, h2, h3⟩ := id hP
    have hL : LenV K (.ref p) H as.length := by
      rcases h1 with h | h
      · exact .inl ⟨_, h, (List.length_map _).symm⟩
      · exact .inr ⟨_, h, (List.length_map _).symm⟩
    refine ⟨_, rfl, _, _, rfl, hL, _, rfl, rfl, _, rfl, ?_⟩
    try dsimp only [tNil]
    rw [vint_dec, h2]
    refine ite2 (fun c => ?_) (fun c => ?_)
    · have c2 : pap.length = n := by
        have := of_decide_eq_true c
        omega
      refine ⟨_, rfl, p, as.map V.ref, rfl, h1, fun J G wk hG A nA => lc_fm wk (fun i => some (V.bl (decide (((pap.getD i []).length : Int) = (n : Int) - (i : Int))))) (fun H' => Ex H H') (fun H' l e => ex_mut e nA) (.refl _) (by rw [List.length_map]; omega) (fun H' e => hG H' (stays_ex e)) (fun i x H1 H2 acc N hi e hD la y k => ?_) (fun H1 e hD => ?_)⟩
      · obtain ⟨T1, x1, x2, rfl, nT, rfl, g1, g2⟩ := y
        injection g1 with g1
        subst g1
        dsimp only at g2
        rw [List.getElem?_map] at g2
        obtain ⟨b, hb, rfl⟩ := Option.map_eq_some_iff.mp g2
        rw [List.length_map] at hi
        have hr2 := h3 i b _ hb (List.getElem?_eq_getElem (by omega))
        have X2 := e.trans (ex_new (o := .tup [.int (i : Nat), .ref b]) nT)
        have hA2 := ex_new (o := .tup [.int (i : Nat), .ref b]) nT _ _ hD
        have e3 : pap[i] = pap.getD i [] := by rw [List.getD_eq_getElem?_getD, List.getElem?_eq_getElem (by omega)]; rfl
        have hr3 := hr2.mono X2
        rw [e3] at hr3
        have hB : LenV K (.ref b) (upd H1 T1 (.tup [.int (i : Nat), .ref b])) (pap.getD i []).length := by
          rcases hr3 with h | h
          · exact .inl ⟨_, h, (List.length_map _).symm⟩
          · exact .inr ⟨_, h, (List.length_map _).symm⟩
        refine ⟨T1, _, rfl, sq_tup upd_same, rfl, _, _, rfl, _, _, rfl, rfl, rfl, _, rfl, _, _, rfl, hB, _, rfl, _, rfl, _, _, rfl, rfl, rfl, acc, hA2, la, ?_⟩
        rw [vint_dec]
        exact k _ X2 hA2
      · rw [List.length_map, h2, fm_bl] at hD
        refine ⟨A, _, rfl, sq_lst hD, ?_⟩
        rw [all_id]
        have z := q H1 e
        unfold shapeB at z
        rw [decide_eq_true c2, Bool.true_and] at z
        exact z
    · have z := q H (.refl _)
      unfold shapeB at z
      rw [decide_eq_false (fun w => c (decide_eq_true (by omega))), Bool.false_and] at z
      exact z
theorem ok_has_shape {P : Program} {w : World} {K : PySem.W.Frag} {mg : Str → Option Value} {base : Heap} (T : Env K mg) : Fc P w K mg base 1 (He.ga K "has_shape") [] (sp_has_shape K ) := by
  obtain ⟨fd, D, F⟩ := fb_has_shape T
  exact F.all (D.bindsN fun _ _ _ _ _ _ us hl => match us, hl with | [_, _], _ => rfl)
end
section
def sp_is_paper (K : PySem.W.Frag) : Sp := fun vs H Q E => ∃ x r p pap, vs = [x, .ref p] ∧ MomG K H x r ∧ (r ≠ none → PapAt K H p pap ∧ pap.length ≤ 1000 ∧ (∀ rw_ ∈ pap, rw_.length ≤ 1000)) ∧ (∀ ns, r = some ns → ns.length ≤ 1000) ∧ (∀ ns, r = some ns → ∀ H', Ex H H' → Q (.bl (paperB (srtN ns) pap)) H') ∧ (r = none → ∀ H', Ex H H' → E (.ref (He.ga K "NoPiece")) none H')
theorem fb_is_paper {P : Program} {w : World} {K : PySem.W.Frag} {mg : Str → Option Value} {base : Heap} (T : Env K mg) : ∃ fd, FunD K "is_paper" "is_paper" (defArgs s_is_paper) (defBody s_is_paper) (defScope s_is_paper) [] [] (He.ga K "is_paper") fd ∧ Fb P w K mg base 4 (He.ga K "is_paper") fd ["moments", "paper"] (sp_is_paper K) := by
  obtain ⟨fd, F⟩ := T.f_is_paper
  refine ⟨fd, F, fb_of F sc_is_paper (fun vs H Q E h => ?_) (fun cdv A outer s H vs Q E hr h => ?_)⟩
  · obtain ⟨x, r, p, pap, rfl, _⟩ := h
    rfl
  · obtain ⟨x, r, p, pap, rfl, hx, hPP, hl, q, qe⟩ := h
    refine ⟨_, (pss_cons (ps_set (i := 2) sc_is_paper.nd rfl (Or.inl rfl) (c_call (ok_in_rising_order T) (hr.mono (by decide)) T.g_in_rising_order T.k_in_rising_order (takes_of rfl rfl rfl rfl) (pa_cons (pv 0) pa_nil)))
      (pss_cons (ps_if (pt_not (pt_val (c_call (ok_has_shape T) (hr.mono (by decide)) T.g_has_shape T.k_has_shape (takes_of rfl rfl rfl rfl) (pa_cons (pv 1) (pa_cons (pe_callB call_len (by rfl) T.n_len (by decide +kernel) (pa_cons (pv 2) pa_nil)) pa_nil)))))
      (pss_one (ps_ret pe_bl))
      pss_nil)
      (pss_cons (ps_for (passes_of rfl) rfl (pi_enumB K (by rfl) T.n_enumerate (pa_cons (pv 1) pa_nil)) (pg_tup (by rfl) (pgs_cons (pg_name (i := 3) sc_is_paper.nd rfl (Or.inl rfl)) (pgs_cons (pg_name (i := 4) sc_is_paper.nd rfl (Or.inl rfl)) pgs_nil)))
      (pss_one (ps_for (passes_of rfl) rfl (pi_enumB K (by rfl) T.n_enumerate (pa_cons (pv 4) pa_nil)) (pg_tup (by rfl) (pgs_cons (pg_name (i := 5) sc_is_paper.nd rfl (Or.inl rfl)) (pgs_cons (pg_name (i := 6) sc_is_paper.nd rfl (Or.inl rfl)) pgs_nil)))
      (pss_one (ps_if (pt_cmpR op_gt (pv 6) (c_call (ok_most_number T) (hr.mono (by decide)) T.g_most_number T.k_most_number (takes_of rfl rfl rfl rfl) (pa_cons (pv 2) (pa_cons (pv 1) (pa_cons (pv 3) (pa_cons (pe_op op_add (pv 5) pe_int) pa_nil))))) (nomark _))
      (pss_one (ps_ret pe_bl))
      pss_nil)))))
      (pss_one (ps_ret pe_bl))))), ?_⟩
    refine ⟨_, rfl, x, r, rfl, hx, fun ns er f H1 X1 nf hf => ?_, fun er H1 X1 => qe er H1 X1⟩
    obtain ⟨hP, hp1, hp2⟩ := hPP (by rw [er]; simp)
    have hP1 := hP.mono X1
    have ln := hl ns er
    have ls := srtN_len ns
    have q' := q ns er
    refine ⟨_, rfl, _, rfl, _, _, rfl, (.inl ⟨_, ⟨(sq_lst hf), rfl⟩⟩), _, _, _, rfl, hP1, hp1, ?_⟩
    intro H2 X2
    have hP2 := hP1.mono X2
    have hf2 := X2 _ _ hf
    have X12 := X1.trans X2
    obtain ⟨ms, hms⟩ : ∃ ms, ms = srtN ns := ⟨_, rfl⟩
    rw [← hms] at hf2 q' ls ⊢
    rw [natV_len]
    cases hsh : shapeB pap ms.length with
    | false =>
      have z := q' H2 X12
      unfold paperB at z
      rw [hsh, Bool.false_and] at z
      exact ⟨_, rfl, iteT z⟩
    | true =>
    have lp : pap.length = ms.length := by
      unfold shapeB at hsh
      exact of_decide_eq_true (Bool.and_eq_true_iff.mp hsh).1
    have lrow : ∀ b, b < ms.length → (pap.getD b []).length = ms.length - b := fun b hb => by
      unfold shapeB at hsh
      have z := of_decide_eq_true (List.all_eq_true.mp (Bool.and_eq_true_iff.mp hsh).2 b (List.mem_range.mpr (by omega)))
      omega
    have bad : ∀ b j H', b < ms.length → j < ms.length - b → ¬ pg pap b j ≤ mostP ms pap b (j + 1) → Ex H2 H' → Q (.bl false) H' := fun b j H' hb hj nle X => by
      have z := q' H' (X12.trans X)
      have e : paperB ms pap = false := by
        unfold paperB
        rw [hsh, Bool.true_and]
        refine Bool.eq_false_iff.mpr fun w => ?_
        have w2 := List.all_eq_true.mp w b (List.mem_range.mpr hb)
        unfold rowB at w2
        exact nle (of_decide_eq_true (List.all_eq_true.mp w2 j (List.mem_range.mpr hj)))
      rw [e] at z
      exact z
    obtain ⟨as, h1, h2, h3⟩ := id hP2
    refine ⟨true, rfl, iteF ⟨_, rfl, p, as.map V.ref, rfl, h1, fun J G wk hG => L2.for_it wk (fun i σ H' => Ex H2 H' ∧ (∀ b, b < i → rowB ms pap b = true) ∧ ∃ v3 v4 v5 v6, σ = [some x, some (.ref p), some (.ref f), v3, v4, v5, v6]) ⟨.refl _, (fun b hb => absurd hb (Nat.not_lt_zero b)), _, _, _, _, rfl⟩ (fun i σ H' _ z => hG H' (stays_ex z.1)) (fun i y σ H3 H4 hi z y2 => ?_) (fun σ H3 z => ?_)⟩⟩
    · obtain ⟨X3, hrows, v3, v4, v5, v6, rfl⟩ := z
      obtain ⟨T1, x1, x2, rfl, nT, rfl, g1, g2⟩ := y2
      injection g1 with g1
      subst g1
      dsimp only at g2
      rw [List.getElem?_map] at g2
      obtain ⟨c, hc, rfl⟩ := Option.map_eq_some_iff.mp g2
      rw [List.length_map] at hi
      have hr1 := h3 i c _ hc (List.getElem?_eq_getElem (by omega))
      have e3 : pap[i] = pap.getD i [] := by rw [List.getD_eq_getElem?_getD, List.getElem?_eq_getElem (by omega)]; rfl
      rw [e3] at hr1
      have X4 := X3.trans (ex_new (o := .tup [.int (i : Nat), .ref c]) nT)
      have hT : upd H3 T1 (.tup [.int (i : Nat), .ref c]) T1 = some (.tup [.int (i : Nat), .ref c]) := upd_same
      generalize upd H3 T1 (.tup [.int (i : Nat), .ref c]) = H4 at X4 hT ⊢
      have hr4 := hr1.mono X4
      have li : i < ms.length := by omega
      have lri := lrow i li
      refine ⟨T1, _, rfl, sq_tup hT, rfl, _, _, rfl, _, _, rfl, rfl, ?_⟩
      refine ⟨_, rfl, c, _, rfl, hr4, fun J2 G2 wk2 hG2 => L2.for_it wk2 (fun j σ H' => Ex H2 H' ∧ Ex H4 H' ∧ (∀ k, k < j → pg pap i k ≤ mostP ms pap i (k + 1)) ∧ ∃ v5 v6, σ = [some x, some (.ref p), some (.ref f), some (.int (i : Nat)), some (.ref c), v5, v6]) ⟨X4, .refl _, (fun b hb => absurd hb (Nat.not_lt_zero b)), _, _, rfl⟩ (fun j σ H' _ z => hG2 H' (stays_ex z.2.1)) (fun j y σ H5 H6 hj z y2 => ?_) (fun σ H5 z => ?_)⟩
      · obtain ⟨X5, X45, hk, v5, v6, rfl⟩ := z
        obtain ⟨T2, y1, y2, rfl, nT2, rfl, g1, g2⟩ := y2
        injection g1 with g1
        subst g1
        dsimp only at g2
        rw [List.length_map] at hj
        have e4 : y2 = .int (pg pap i j) := by
          rw [List.getElem?_map, List.getElem?_eq_getElem hj] at g2
          have : (pap.getD i [])[j] = pg pap i j := by
            unfold pg
            show _ = ((pap.getD i []).getD j 0)
            generalize pap.getD i [] = row_ at hj ⊢
            rw [List.getD_eq_getElem?_getD, List.getElem?_eq_getElem hj]
            rfl
          rw [this] at g2
          exact (Option.some.inj g2).symm
        subst e4
        have X6 := X5.trans (ex_new (o := .tup [.int (j : Nat), .int (pg pap i j)]) nT2)
        have X46 := X45.trans (ex_new (o := .tup [.int (j : Nat), .int (pg pap i j)]) nT2)
        have hT2 : upd H5 T2 (.tup [.int (j : Nat), .int (pg pap i j)]) T2 = some (.tup [.int (j : Nat), .int (pg pap i j)]) := upd_same
        generalize upd H5 T2 (.tup [.int (j : Nat), .int (pg pap i j)]) = H6 at X6 X46 hT2 ⊢
        refine ⟨T2, _, rfl, sq_tup hT2, rfl, _, _, rfl, _, _, rfl, rfl, ?_⟩
        have hF := shape_fits (b := i) (s := j + 1) hsh (by omega)
        have hw6 := sq_lst (K := K) (X6 _ _ hf2)
        have hP6 := hP2.mono X6
        have hs1 : 1 ≤ j + 1 := by omega
        have hs2 : i + (j + 1) ≤ ms.length := by omega
        have hs3 : ms.length ≤ 1000 := by omega
        refine ⟨_, rfl, _, rfl, _, rfl, _, rfl, _, rfl, _, _, rfl, rfl, _, _, _, _, _, _, rfl, (sq_lst (X46 _ _ (X4 _ _ hf2))), hP6, hF, hs1, hs2, hs3, ?_⟩
        intro H7 X7
        refine ⟨_, _, rfl, rfl, _, rfl, ite2 (fun c => ?_) (fun c => ?_)⟩
        · exact bad i j H7 li (by omega) (fun z => Int.not_lt.mpr z (of_decide_eq_true c)) (X6.trans X7)
        · have c2 : pg pap i j ≤ mostP ms pap i (j + 1) := Decidable.by_contra fun z => c (decide_eq_true (Int.not_le.mp z))
          refine ⟨X6.trans X7, X46.trans X7, fun k hk2 => ?_, _, _, rfl⟩
          rcases Nat.lt_succ_iff_lt_or_eq.mp hk2 with h | rfl
          · exact hk k h
          · exact c2
      · obtain ⟨X5, X45, hk, v5, v6, rfl⟩ := z
        rw [List.length_map, lri] at hk
        refine ⟨X5, fun b hb => ?_, _, _, _, _, rfl⟩
        rcases Nat.lt_succ_iff_lt_or_eq.mp hb with hb | rfl
        · exact hrows b hb
        · unfold rowB
          exact List.all_eq_true.mpr fun k hk2 => decide_eq_true (hk k (List.mem_range.mp hk2))
    · obtain ⟨X3, hrows, v3, v4, v5, v6, rfl⟩ := z
      rw [List.length_map, h2, lp] at hrows
      have z := q' H3 (X12.trans X3)
      unfold paperB at z
      rw [hsh, Bool.true_and, List.all_eq_true.mpr fun b hb => hrows b (List.mem_range.mp hb)] at z
      exact z
theorem ok_is_paper {P : Program} {w : World} {K : PySem.W.Frag} {mg : Str → Option Value} {base : Heap} (T : Env K mg) : Fc P w K mg base 4 (He.ga K "is_paper") [] (sp_is_paper K ) := by
  obtain ⟨fd, D, F⟩ := fb_is_paper T
  exact F.all (D.bindsN fun _ _ _ _ _ _ us hl => match us, hl with | [_, _], _ => rfl)
end
section
def isN (n : Int) (x : V) : Bool := isW x && (match x with | .int i => decide (n ≤ i) | _ => false)
def sp_is_number (K : PySem.W.Frag) : Sp := fun vs H Q _ => ∃ x n, vs = [x, .int n] ∧ Cl K H x ∧ Q (.bl (isN n x)) H
theorem fb_is_number {P : Program} {w : World} {K : PySem.W.Frag} {mg : Str → Option Value} {base : Heap} (T : Env K mg) : ∃ fd, FunD K "is_number" "is_number" (defArgs s_is_number) (defBody s_is_number) (defScope s_is_number) [] [] (He.ga K "is_number") fd ∧ Fb P w K mg base 1 (He.ga K "is_number") fd ["thing", "least"] (sp_is_number K) := by
  obtain ⟨fd, F⟩ := T.f_is_number
  refine ⟨fd, F, fb_of F sc_is_number (fun vs H Q E h => ?_) (fun cdv A outer s H vs Q E hr h => ?_)⟩
  · obtain ⟨x, n, rfl, _⟩ := h
    rfl
  · obtain ⟨x, n, rfl, ⟨t, b, c, ty, h1, h2, e⟩, q⟩ := h
    refine ⟨_, (pss_one (ps_ret (pe_and (pe_callB call_isi (by rfl) T.n_isinstance (by decide +kernel) (pa_cons (pv 0) (pa_cons (pe_bltn (v := .ty "int") (by rfl) T.n_int (by decide +kernel) rfl) pa_nil))) (pe_and (pe_not (pe_callB call_isi (by rfl) T.n_isinstance (by decide +kernel) (pa_cons (pv 0) (pa_cons (pe_bltn (v := .ty "bool") (by rfl) T.n_bool (by decide +kernel) rfl) pa_nil)))) (pe_one (pe_cmpR op_ge (pv 0) (pv 1) (nomark _))))))), ?_⟩
    refine ⟨x, rfl, x, .ty "int", t, _, b, rfl, .ty "int", ty, h1, b, rfl, ?_⟩
    unfold isN at q
    rw [e] at q
    cases b with
    | false => exact q
    | true =>
      refine ⟨x, rfl, x, .ty "bool", t, _, c, rfl, .ty "bool", ty, h2, c, rfl, ?_⟩
      cases c with
      | true => exact ⟨false, rfl, q⟩
      | false =>
        refine ⟨true, rfl, iteT ?_⟩
        cases x with
        | int i => exact ⟨_, rfl, _, rfl, i, n, rfl, rfl, q⟩
        | _ => cases e
theorem ok_is_number {P : Program} {w : World} {K : PySem.W.Frag} {mg : Str → Option Value} {base : Heap} (T : Env K mg) : Fc P w K mg base 1 (He.ga K "is_number") [] (sp_is_number K ) := by
  obtain ⟨fd, D, F⟩ := fb_is_number T
  exact F.all (D.bindsN fun _ _ _ _ _ _ us hl => match us, hl with | [_, _], _ => rfl)
end
section
theorem ex_made {H : Hp} {x dx : Addr} {o1 o2 : HO} (nx : H x = none) (nd : H dx = none) (ne : dx ≠ x) : Ex H (upd (upd H dx o1) x o2) := fun b o e => by
  rw [upd_ne (ne_of_none e nx), upd_ne (ne_of_none e nd)]
  exact e
end
section
abbrev AtC (K : PySem.W.Frag) : Addr := He.ga K "At"
/-- at a an At of a moment -/
def AtAt (K : PySem.W.Frag) (H : Hp) (a : Addr) (n : Nat) : Prop := ∃ dx, H a = some (.ins (AtC K) dx [("moment", .int (n : Nat))])
theorem AtAt.mono {K : PySem.W.Frag} {H H' : Hp} {a : Addr} {n : Nat} (h : AtAt K H a n) (e : Ex H H') : AtAt K H' a n := let ⟨dx, h⟩ := h; ⟨dx, e _ _ h⟩
def sp_At_init (K : PySem.W.Frag) : Sp := fun vs H Q E => ∃ a dx x, vs = [.ref a, x] ∧ H a = some (.ins (AtC K) dx []) ∧ Cl K H x ∧ (isN 0 x = true → Q .non (upd H a (.ins (AtC K) dx [("moment", x)]))) ∧ (isN 0 x = false → E (.ref (He.ga K "NoPiece")) none H)
theorem fb_At_init {P : Program} {w : World} {K : PySem.W.Frag} {mg : Str → Option Value} {base : Heap} (T : Env K mg) : ∃ fd, FunD K "__init__" "At.__init__" (defArgs s_At_init) (defBody s_At_init) (defScope s_At_init) [] [] (He.ma K (He.ga K "At") "__init__") fd ∧ Fb P w K mg base 2 (He.ma K (He.ga K "At") "__init__") fd ["self", "moment"] (sp_At_init K) := by
  obtain ⟨fd, F⟩ := T.f_At_init
  refine ⟨fd, F, fb_of F sc_At_init (fun vs H Q E h => ?_) (fun cdv A outer s H vs Q E hr h => ?_)⟩
  · obtain ⟨a, dx, x, rfl, _⟩ := h
    rfl
  · obtain ⟨a, dx, x, rfl, ha, cl, q, qe⟩ := h
    refine ⟨_, (pss_cons (ps_if (pt_not (pt_val (c_call (ok_is_number T) (hr.mono (by decide)) T.g_is_number T.k_is_number (takes_of rfl rfl rfl rfl) (pa_cons (pv 1) (pa_cons pe_int pa_nil)))))
      (pss_one (ps_raise rfl (takes_of rfl rfl rfl rfl) (pmk_own PySem.F.excBase_ValueError T.x_NoPiece.x T.g_NoPiece T.x_NoPiece.kp (raises_own T.x_NoPiece.sub T.x_NoPiece.ty) rfl)))
      pss_nil)
      (pss_one (ps_fld (pv 0) (pv 1) rfl))), ?_⟩
    refine ⟨_, rfl, x, 0, rfl, cl, _, rfl, ?_⟩
    cases e : isN 0 x with
    | false => exact qe e
    | true =>
      refine iteF ?_
      refine ⟨_, rfl, _, rfl, a, _, dx, [], rfl, ha, T.c_At, T.a_At_moment, by decide, ?_⟩
      exact q e
theorem isN_nat {n m : Nat} (h : m ≤ n) : isN (m : Int) (.int (n : Nat)) = true := by
  show (true && decide ((m : Int) ≤ (n : Int))) = true
  rw [decide_eq_true (by omega)]
  rfl
theorem at_new {K : PySem.W.Frag} {H : Hp} {x dx : Addr} {n : Nat} {Q : VK} {E : XK} (nx : H x = none) (nd : H dx = none) (ne : dx ≠ x) (q : ∀ H', Ex H H' → AtAt K H' x n → Q .non H') :
    sp_At_init K [.ref x, .int (n : Nat)] (upd (upd H dx (.own x)) x (.ins (AtC K) dx [])) Q E := by
  refine ⟨x, dx, _, rfl, upd_same, cl_int _, fun _ => q _ ?_ ⟨dx, upd_same⟩, fun z => ?_⟩
  · exact ex_mut (ex_made nx nd ne) nx
  · rw [show isN 0 (.int (n : Nat)) = true from isN_nat (m := 0) (Nat.zero_le _)] at z
    cases z
theorem ok_At_init {P : Program} {w : World} {K : PySem.W.Frag} {mg : Str → Option Value} {base : Heap} (T : Env K mg) : Fc P w K mg base 2 (He.ma K (He.ga K "At") "__init__") [] (sp_At_init K ) := by
  obtain ⟨fd, D, F⟩ := fb_At_init T
  exact F.all (D.bindsN fun _ _ _ _ _ _ us hl => match us, hl with | [_, _], _ => rfl)
end
section
def sp_At_ends (K : PySem.W.Frag) : Sp := fun vs H Q _ => ∃ a n, vs = [.ref a] ∧ AtAt K H a n ∧ Q (.int (n : Nat)) H
theorem fb_At_ends {P : Program} {w : World} {K : PySem.W.Frag} {mg : Str → Option Value} {base : Heap} (T : Env K mg) : ∃ fd, FunD K "ends" "At.ends" (defArgs s_At_ends) (defBody s_At_ends) (defScope s_At_ends) [] [] (He.ma K (He.ga K "At") "ends") fd ∧ Fb P w K mg base 1 (He.ma K (He.ga K "At") "ends") fd ["self"] (sp_At_ends K) := by
  obtain ⟨fd, F⟩ := T.f_At_ends
  refine ⟨fd, F, fb_of F sc_At_ends (fun vs H Q E h => ?_) (fun cdv A outer s H vs Q E hr h => ?_)⟩
  · obtain ⟨a, n, rfl, _⟩ := h
    rfl
  · obtain ⟨a, n, rfl, ⟨dx, ha⟩, q⟩ := h
    refine ⟨_, (pss_one (ps_ret (pe_fld (pv 0) (by rfl)))), ?_⟩
    exact ⟨_, rfl, a, _, dx, _, _, rfl, ha, T.c_At, T.a_At_moment, rfl, q⟩
theorem ok_At_ends {P : Program} {w : World} {K : PySem.W.Frag} {mg : Str → Option Value} {base : Heap} (T : Env K mg) : Fc P w K mg base 1 (He.ma K (He.ga K "At") "ends") [] (sp_At_ends K ) := by
  obtain ⟨fd, D, F⟩ := fb_At_ends T
  exact F.all (D.bindsN fun _ _ _ _ _ _ us hl => match us, hl with | [_], _ => rfl)
end
section
abbrev OverC (K : PySem.W.Frag) : Addr := He.ga K "Over"
def overF (kp : Addr) (m s : Nat) : List (Str × V) := [("kept", .ref kp), ("many", .int (m : Nat)), ("step", .int (s : Nat))]
mutual
/-- at a this short -/
def ShAt (K : PySem.W.Frag) (H : Hp) : Tr → Addr → Prop
  | .at n, a => AtAt K H a n
  | .ov ps m s, a => ∃ dx kp as, H a = some (.ins (OverC K) dx (overF kp m s)) ∧ H kp = some (.tup (as.map V.ref)) ∧ ShsAt K H ps as
def ShsAt (K : PySem.W.Frag) (H : Hp) : List Tr → List Addr → Prop
  | [], as => as = []
  | t :: ts, as => ∃ a r, as = a :: r ∧ ShAt K H t a ∧ ShsAt K H ts r
end
mutual
theorem ShAt.mono {K : PySem.W.Frag} {H H' : Hp} (e : Ex H H') : ∀ {t : Tr} {a : Addr}, ShAt K H t a → ShAt K H' t a
  | .at n, a, h => by
    unfold ShAt at h ⊢
    exact AtAt.mono h e
  | .ov ps m s, a, h => by
    unfold ShAt at h ⊢
    obtain ⟨dx, kp, as, h1, h2, h3⟩ := h
    exact ⟨dx, kp, as, e _ _ h1, e _ _ h2, ShsAt.mono e h3⟩
theorem ShsAt.mono {K : PySem.W.Frag} {H H' : Hp} (e : Ex H H') : ∀ {ts : List Tr} {as : List Addr}, ShsAt K H ts as → ShsAt K H' ts as
  | [], as, h => by
    unfold ShsAt at h ⊢
    exact h
  | t :: ts, as, h => by
    unfold ShsAt at h ⊢
    obtain ⟨a, r, h1, h2, h3⟩ := h
    exact ⟨a, r, h1, ShAt.mono e h2, ShsAt.mono e h3⟩
end
theorem ShsAt.len {K : PySem.W.Frag} {H : Hp} : ∀ {ts : List Tr} {as : List Addr}, ShsAt K H ts as → as.length = ts.length
  | [], as, h => by
    unfold ShsAt at h
    rw [h]
    rfl
  | t :: ts, as, h => by
    unfold ShsAt at h
    obtain ⟨a, r, rfl, _, h3⟩ := h
    rw [List.length_cons, List.length_cons, ShsAt.len h3]
theorem ShsAt.get {K : PySem.W.Frag} {H : Hp} : ∀ {ts : List Tr} {as : List Addr} {i : Nat} {a : Addr}, ShsAt K H ts as → as[i]? = some a → ∃ t, ts[i]? = some t ∧ ShAt K H t a
  | [], as, i, a, h, hi => by
    unfold ShsAt at h
    rw [h] at hi
    cases hi
  | t :: ts, as, i, a, h, hi => by
    unfold ShsAt at h
    obtain ⟨b, r, rfl, h2, h3⟩ := h
    cases i with
    | zero =>
      cases hi
      exact ⟨t, rfl, h2⟩
    | succ i => exact ShsAt.get (i := i) h3 hi
/-- nothing in it is a list -/
theorem ShAt.ins {K : PySem.W.Frag} {H : Hp} {t : Tr} {a : Addr} (h : ShAt K H t a) : ∃ C dx fs, H a = some (.ins C dx fs) := by
  cases t with
  | «at» n =>
    unfold ShAt at h
    obtain ⟨dx, h⟩ := h
    exact ⟨_, dx, _, h⟩
  | ov ps m s =>
    unfold ShAt at h
    obtain ⟨dx, kp, as, h1, _⟩ := h
    exact ⟨_, dx, _, h1⟩
mutual
theorem ShAt.oth {K : PySem.W.Frag} {H H' : Hp} {d : Addr} (o : Oth d H H') (hd : ∀ ob, H d = some ob → (∃ xs, ob = .lst xs)) : ∀ {t : Tr} {a : Addr}, ShAt K H t a → ShAt K H' t a
  | .at n, a, h => by
    unfold ShAt at h ⊢
    obtain ⟨dx, h⟩ := h
    refine ⟨dx, o _ _ (fun z => ?_) h⟩
    obtain ⟨xs, e⟩ := hd _ (z ▸ h)
    cases e
  | .ov ps m s, a, h => by
    unfold ShAt at h ⊢
    obtain ⟨dx, kp, as, h1, h2, h3⟩ := h
    refine ⟨dx, kp, as, o _ _ (fun z => ?_) h1, o _ _ (fun z => ?_) h2, ShsAt.oth o hd h3⟩
    · obtain ⟨xs, e⟩ := hd _ (z ▸ h1)
      cases e
    · obtain ⟨xs, e⟩ := hd _ (z ▸ h2)
      cases e
theorem ShsAt.oth {K : PySem.W.Frag} {H H' : Hp} {d : Addr} (o : Oth d H H') (hd : ∀ ob, H d = some ob → (∃ xs, ob = .lst xs)) : ∀ {ts : List Tr} {as : List Addr}, ShsAt K H ts as → ShsAt K H' ts as
  | [], as, h => by
    unfold ShsAt at h ⊢
    exact h
  | t :: ts, as, h => by
    unfold ShsAt at h ⊢
    obtain ⟨a, r, h1, h2, h3⟩ := h
    exact ⟨a, r, h1, ShAt.oth o hd h2, ShsAt.oth o hd h3⟩
end
def sp_Over_moments (K : PySem.W.Frag) (d : Nat) : Sp := fun vs H Q _ => ∃ a ps m s, vs = [.ref a] ∧ ShAt K H (.ov ps m s) a ∧ (Tr.ov ps m s).nest ≤ d ∧ (Tr.ov ps m s).ok ∧ ∀ p H', Ex H H' → H p = none → H' p = some (.lst (natV (Tr.ov ps m s).moms)) → Q (.ref p) H'
def sp_Over_means_many (K : PySem.W.Frag) (d : Nat) : Sp := fun vs H Q _ => ∃ a ps m s, vs = [.ref a] ∧ ShAt K H (.ov ps m s) a ∧ (Tr.ov ps m s).nest ≤ d ∧ okL_ ps ∧ ps.length ≤ 20000 ∧ ∀ H', Ex H H' → Q (.int ((m * (momsL ps).length : Nat) : Int)) H'
def sp_Over_nested (K : PySem.W.Frag) (d : Nat) : Sp := fun vs H Q _ => ∃ a ps m s, vs = [.ref a] ∧ ShAt K H (.ov ps m s) a ∧ (Tr.ov ps m s).nest ≤ d ∧ ps ≠ [] ∧ okL_ ps ∧ ps.length ≤ 20000 ∧ ∀ H', Ex H H' → Q (.int (((Tr.ov ps m s).nest : Nat) : Int)) H'
def sp_Over_begins (K : PySem.W.Frag) (d : Nat) : Sp := fun vs H Q _ => ∃ a ps m s, vs = [.ref a] ∧ ShAt K H (.ov ps m s) a ∧ (Tr.ov ps m s).nest ≤ d ∧ (Tr.ov ps m s).ok ∧ Q (.int ((((Tr.ov ps m s).moms.headD 0 : Nat)) : Int)) H
def sp_Over_ends (K : PySem.W.Frag) (d : Nat) : Sp := fun vs H Q _ => ∃ a ps m s, vs = [.ref a] ∧ ShAt K H (.ov ps m s) a ∧ (Tr.ov ps m s).nest ≤ d ∧ (Tr.ov ps m s).ok ∧ Q (.int ((((Tr.ov ps m s).moms.getLastD 0 : Nat)) : Int)) H
theorem ShsAt.snoc {K : PySem.W.Frag} {H : Hp} {t : Tr} {a : Addr} : ∀ {ts : List Tr} {as : List Addr}, ShsAt K H ts as → ShAt K H t a → ShsAt K H (ts ++ [t]) (as ++ [a])
  | [], as, h, ha => by
    unfold ShsAt at h
    rw [h]
    show ShsAt K H [t] [a]
    unfold ShsAt
    exact ⟨a, [], rfl, ha, by unfold ShsAt; rfl⟩
  | x :: ts, as, h, ha => by
    unfold ShsAt at h
    obtain ⟨b, r, rfl, h2, h3⟩ := h
    show ShsAt K H (x :: (ts ++ [t])) (b :: (r ++ [a]))
    unfold ShsAt
    exact ⟨b, r ++ [a], rfl, h2, ShsAt.snoc h3 ha⟩
end
section
theorem fb_Over_ends {P : Program} {w : World} {K : PySem.W.Frag} {mg : Str → Option Value} {base : Heap} (T : Env K mg) {d L : Nat} (hL : 40 ≤ L) (r_Over_ends : Fc P w K mg base L (He.ma K (He.ga K "Over") "ends") [] (sp_Over_ends K d)) : ∃ fd, FunD K "ends" "Over.ends" (defArgs s_Over_ends) (defBody s_Over_ends) (defScope s_Over_ends) [] [] (He.ma K (He.ga K "Over") "ends") fd ∧ Fb P w K mg base (L + 1) (He.ma K (He.ga K "Over") "ends") fd ["self"] (sp_Over_ends K (d + 1)) := by
  obtain ⟨fd, F⟩ := T.f_Over_ends
  refine ⟨fd, F, fb_of F sc_Over_ends (fun vs H Q E h => ?_) (fun cdv A outer s H vs Q E hr h => ?_)⟩
  · obtain ⟨a, ps, m, s, rfl, _⟩ := h
    rfl
  · obtain ⟨a, ps, m, s_, rfl, hO, hn, hok, q⟩ := h
    refine ⟨_, (pss_one (ps_ret (pe_op op_add (pe_orE (c_meth0 (pe_ix ix_tup (pe_fld (pv 0) (by rfl)) (pe_un un_neg pe_int) (fun _ _ => rfl)) T.c_At T.m_At_ends (ok_At_ends T) (hr.mono (by omega)) takes0) (c_meth0 (pe_ix ix_tup (pe_fld (pv 0) (by rfl)) (pe_un un_neg pe_int) (fun _ _ => rfl)) T.c_Over T.m_Over_ends r_Over_ends (hr.mono (by omega)) takes0)) (pe_op op_mul (pe_op op_sub (pe_fld (pv 0) (by rfl)) pe_int) (pe_fld (pv 0) (by rfl)))))), ?_⟩
    have hnL := ov_nest hn
    obtain ⟨o1, o2, _, _, _, _, o7⟩ := ov_facts hok
    have nn := momsL_ne o7 o1
    unfold Tr.moms at q
    obtain ⟨dx, kp, as, ha, hk, hA⟩ := (by unfold ShAt at hO; exact hO : ∃ dx kp as, H a = some (.ins (OverC K) dx (overF kp m s_)) ∧ H kp = some (.tup (as.map V.ref)) ∧ ShsAt K H ps as)
    rw [overN_last nn (by omega)] at q
    have hm := (ov_facts hok).2.2.1
    have hl1 := hA.len
    have as0 : as ≠ [] := fun z => by
      rw [z] at hl1
      exact o1 (List.length_eq_zero_iff.mp hl1.symm)
    obtain ⟨b, gb, aL⟩ := last_ref as0
    obtain ⟨t, ht, hS⟩ := hA.get gb
    have ep : ps = ps.dropLast ++ [t] := by
      have e := (List.dropLast_concat_getLast o1).symm
      have e2 : ps.getLast o1 = t := by
        rw [List.getLast_eq_getElem]
        rw [hl1] at ht
        obtain ⟨_, e⟩ := List.getElem?_eq_some_iff.mp ht
        exact e
      rw [e2] at e
      exact e
    have htm := List.mem_of_getElem? ht
    have eL : (momsL ps).getLastD 0 = t.moms.getLastD 0 := by
      rw [ep] at o7 ⊢
      exact momsL_last o7
    rw [eL] at q
    have ok := okL_mem o7 htm
    have tn := Nat.le_trans (nestL_mem htm) hnL
    have e : ((t.moms.getLastD 0 : Nat) : Int) + (((m : Nat) : Int) - 1) * ((s_ : Nat) : Int) = ((t.moms.getLastD 0 + (m - 1) * s_ : Nat) : Int) := by
      rw [Int.natCast_add, Int.natCast_mul, Int.natCast_sub (by omega)]
      rfl
    rw [← e] at q
    cases t with
    | «at» n =>
      unfold ShAt at hS
      obtain ⟨dy, h2⟩ := id hS
      unfold Tr.moms at q
      exact .inl ⟨_, rfl, a, _, dx, _, _, rfl, ha, T.c_Over, T.a_Over_kept, rfl, _, rfl, kp, _, _, _, rfl, rfl, sq_tup hk, aL, b, dy, _, rfl, h2, rfl, b, n, rfl, hS, _, rfl, a, _, dx, _, _, rfl, ha, T.c_Over, T.a_Over_many, rfl, _, _, rfl, rfl, _, rfl, a, _, dx, _, _, rfl, ha, T.c_Over, T.a_Over_step, rfl, _, _, rfl, rfl, .inl ⟨by omega, by omega⟩, _, _, rfl, rfl, q⟩
    | ov ps' m' s' =>
      obtain ⟨dy, kp', as', h2, _⟩ := (by unfold ShAt at hS; exact hS : ∃ dx kp as, H b = some (.ins (OverC K) dx (overF kp m' s')) ∧ H kp = some (.tup (as.map V.ref)) ∧ ShsAt K H ps' as)
      exact .inr ⟨_, rfl, a, _, dx, _, _, rfl, ha, T.c_Over, T.a_Over_kept, rfl, _, rfl, kp, _, _, _, rfl, rfl, sq_tup hk, aL, b, dy, _, rfl, h2, rfl, b, ps', m', s', rfl, hS, tn, ok, _, rfl, a, _, dx, _, _, rfl, ha, T.c_Over, T.a_Over_many, rfl, _, _, rfl, rfl, _, rfl, a, _, dx, _, _, rfl, ha, T.c_Over, T.a_Over_step, rfl, _, _, rfl, rfl, .inl ⟨by omega, by omega⟩, _, _, rfl, rfl, q⟩
theorem ok_Over_ends {P : Program} {w : World} {K : PySem.W.Frag} {mg : Str → Option Value} {base : Heap} (T : Env K mg) {d L : Nat} (hL : 40 ≤ L) (r_Over_ends : Fc P w K mg base L (He.ma K (He.ga K "Over") "ends") [] (sp_Over_ends K d)) : Fc P w K mg base (L + 1) (He.ma K (He.ga K "Over") "ends") [] (sp_Over_ends K (d + 1)) := by
  obtain ⟨fd, D, F⟩ := fb_Over_ends T hL r_Over_ends
  exact F.all (D.bindsN fun _ _ _ _ _ _ us hl => match us, hl with | [_], _ => rfl)
theorem all_Over_ends {P : Program} {w : World} {K : PySem.W.Frag} {mg : Str → Option Value} {base : Heap} (T : Env K mg) : ∀ d, Fc P w K mg base (40 + 1 * d) (He.ma K (He.ga K "Over") "ends") [] (sp_Over_ends K d)
  | 0 => fc_no fun vs H Q E h => by
    obtain ⟨a, ps, m, s, _, _, h, _⟩ := h
    unfold Tr.nest at h
    omega
  | d + 1 => ok_Over_ends T (Nat.le_add_right 40 _) (all_Over_ends T d)
end
section
def sp_At_begins (K : PySem.W.Frag) : Sp := fun vs H Q _ => ∃ a n, vs = [.ref a] ∧ AtAt K H a n ∧ Q (.int (n : Nat)) H
theorem fb_At_begins {P : Program} {w : World} {K : PySem.W.Frag} {mg : Str → Option Value} {base : Heap} (T : Env K mg) : ∃ fd, FunD K "begins" "At.begins" (defArgs s_At_begins) (defBody s_At_begins) (defScope s_At_begins) [] [] (He.ma K (He.ga K "At") "begins") fd ∧ Fb P w K mg base 1 (He.ma K (He.ga K "At") "begins") fd ["self"] (sp_At_begins K) := by
  obtain ⟨fd, F⟩ := T.f_At_begins
  refine ⟨fd, F, fb_of F sc_At_begins (fun vs H Q E h => ?_) (fun cdv A outer s H vs Q E hr h => ?_)⟩
  · obtain ⟨a, n, rfl, _⟩ := h
    rfl
  · obtain ⟨a, n, rfl, ⟨dx, ha⟩, q⟩ := h
    refine ⟨_, (pss_one (ps_ret (pe_fld (pv 0) (by rfl)))), ?_⟩
    exact ⟨_, rfl, a, _, dx, _, _, rfl, ha, T.c_At, T.a_At_moment, rfl, q⟩
theorem ok_At_begins {P : Program} {w : World} {K : PySem.W.Frag} {mg : Str → Option Value} {base : Heap} (T : Env K mg) : Fc P w K mg base 1 (He.ma K (He.ga K "At") "begins") [] (sp_At_begins K ) := by
  obtain ⟨fd, D, F⟩ := fb_At_begins T
  exact F.all (D.bindsN fun _ _ _ _ _ _ us hl => match us, hl with | [_], _ => rfl)
end
section
theorem fb_Over_begins {P : Program} {w : World} {K : PySem.W.Frag} {mg : Str → Option Value} {base : Heap} (T : Env K mg) {d L : Nat} (hL : 40 ≤ L) (r_Over_begins : Fc P w K mg base L (He.ma K (He.ga K "Over") "begins") [] (sp_Over_begins K d)) : ∃ fd, FunD K "begins" "Over.begins" (defArgs s_Over_begins) (defBody s_Over_begins) (defScope s_Over_begins) [] [] (He.ma K (He.ga K "Over") "begins") fd ∧ Fb P w K mg base (L + 1) (He.ma K (He.ga K "Over") "begins") fd ["self"] (sp_Over_begins K (d + 1)) := by
  obtain ⟨fd, F⟩ := T.f_Over_begins
  refine ⟨fd, F, fb_of F sc_Over_begins (fun vs H Q E h => ?_) (fun cdv A outer s H vs Q E hr h => ?_)⟩
  · obtain ⟨a, ps, m, s, rfl, _⟩ := h
    rfl
  · obtain ⟨a, ps, m, s_, rfl, hO, hn, hok, q⟩ := h
    refine ⟨_, (pss_one (ps_ret (pe_orE (c_meth0 (pe_ix ix_tup (pe_fld (pv 0) (by rfl)) pe_int (fun _ _ => rfl)) T.c_At T.m_At_begins (ok_At_begins T) (hr.mono (by omega)) takes0) (c_meth0 (pe_ix ix_tup (pe_fld (pv 0) (by rfl)) pe_int (fun _ _ => rfl)) T.c_Over T.m_Over_begins r_Over_begins (hr.mono (by omega)) takes0)))), ?_⟩
    have hnL := ov_nest hn
    obtain ⟨o1, o2, _, _, _, _, o7⟩ := ov_facts hok
    have nn := momsL_ne o7 o1
    unfold Tr.moms at q
    obtain ⟨dx, kp, as, ha, hk, hA⟩ := (by unfold ShAt at hO; exact hO : ∃ dx kp as, H a = some (.ins (OverC K) dx (overF kp m s_)) ∧ H kp = some (.tup (as.map V.ref)) ∧ ShsAt K H ps as)
    rw [overN_head nn m (by omega)] at q
    cases ps with
    | nil => exact absurd rfl o1
    | cons t ts =>
      rw [momsL_head o7] at q
      unfold ShsAt at hA
      obtain ⟨b, r, rfl, hS, _⟩ := hA
      have aF : atI ((b :: r).map V.ref) 0 = some (.ref b) := atI_nat (j := 0) rfl
      have ok := okL_mem o7 (List.mem_cons_self (a := t) (l := ts))
      have tn := Nat.le_trans (nestL_mem (List.mem_cons_self (a := t) (l := ts))) hnL
      cases t with
      | «at» n =>
        unfold ShAt at hS
        obtain ⟨dy, h2⟩ := id hS
        exact .inl ⟨_, rfl, a, _, dx, _, _, rfl, ha, T.c_Over, T.a_Over_kept, rfl, kp, _, _, _, rfl, rfl, sq_tup hk, aF, b, dy, _, rfl, h2, rfl, b, n, rfl, hS, by unfold Tr.moms at q; exact q⟩
      | ov ps' m' s' =>
        obtain ⟨dy, kp', as', h2, _⟩ := (by unfold ShAt at hS; exact hS : ∃ dx kp as, H b = some (.ins (OverC K) dx (overF kp m' s')) ∧ H kp = some (.tup (as.map V.ref)) ∧ ShsAt K H ps' as)
        exact .inr ⟨_, rfl, a, _, dx, _, _, rfl, ha, T.c_Over, T.a_Over_kept, rfl, kp, _, _, _, rfl, rfl, sq_tup hk, aF, b, dy, _, rfl, h2, rfl, b, ps', m', s', rfl, hS, tn, ok, q⟩
theorem ok_Over_begins {P : Program} {w : World} {K : PySem.W.Frag} {mg : Str → Option Value} {base : Heap} (T : Env K mg) {d L : Nat} (hL : 40 ≤ L) (r_Over_begins : Fc P w K mg base L (He.ma K (He.ga K "Over") "begins") [] (sp_Over_begins K d)) : Fc P w K mg base (L + 1) (He.ma K (He.ga K "Over") "begins") [] (sp_Over_begins K (d + 1)) := by
  obtain ⟨fd, D, F⟩ := fb_Over_begins T hL r_Over_begins
  exact F.all (D.bindsN fun _ _ _ _ _ _ us hl => match us, hl with | [_], _ => rfl)
theorem all_Over_begins {P : Program} {w : World} {K : PySem.W.Frag} {mg : Str → Option Value} {base : Heap} (T : Env K mg) : ∀ d, Fc P w K mg base (40 + 1 * d) (He.ma K (He.ga K "Over") "begins") [] (sp_Over_begins K d)
  | 0 => fc_no fun vs H Q E h => by
    obtain ⟨a, ps, m, s, _, _, h, _⟩ := h
    unfold Tr.nest at h
    omega
  | d + 1 => ok_Over_begins T (Nat.le_add_right 40 _) (all_Over_begins T d)
end
section
theorem sh_ends {K : PySem.W.Frag} {W : WX} {ta : TE} {σ : L2.St} {H : Hp} {Q : VK} {t : Tr} {a : Addr} {d : Nat} (hS : ShAt K H t a) (hok : t.ok) (hn : t.nest ≤ d) (hta : ∀ R : VK, R (.ref a) H → ta σ H R) (q : Q (.int ((t.moms.getLastD 0 : Nat) : Int)) H) : tOrE (tMt (He.ga K "At") "ends" (sp_At_ends K) W ta tNil) (tMt (He.ga K "Over") "ends" (sp_Over_ends K d) W ta tNil) σ H Q := by
  cases t with
  | «at» n =>
    unfold ShAt at hS
    obtain ⟨dy, h2⟩ := id hS
    unfold Tr.moms at q
    exact .inl (hta _ ⟨a, dy, _, rfl, h2, rfl, a, n, rfl, hS, q⟩)
  | ov ps' m' s' =>
    obtain ⟨dy, kp', as', h2, _⟩ := (by unfold ShAt at hS; exact hS : ∃ dx kp as, H a = some (.ins (OverC K) dx (overF kp m' s')) ∧ H kp = some (.tup (as.map V.ref)) ∧ ShsAt K H ps' as)
    exact .inr (hta _ ⟨a, dy, _, rfl, h2, rfl, a, ps', m', s', rfl, hS, hn, hok, q⟩)
theorem sh_begins {K : PySem.W.Frag} {W : WX} {ta : TE} {σ : L2.St} {H : Hp} {Q : VK} {t : Tr} {a : Addr} {d : Nat} (hS : ShAt K H t a) (hok : t.ok) (hn : t.nest ≤ d) (hta : ∀ R : VK, R (.ref a) H → ta σ H R) (q : Q (.int ((t.moms.headD 0 : Nat) : Int)) H) : tOrE (tMt (He.ga K "At") "begins" (sp_At_begins K) W ta tNil) (tMt (He.ga K "Over") "begins" (sp_Over_begins K d) W ta tNil) σ H Q := by
  cases t with
  | «at» n =>
    unfold ShAt at hS
    obtain ⟨dy, h2⟩ := id hS
    unfold Tr.moms at q
    exact .inl (hta _ ⟨a, dy, _, rfl, h2, rfl, a, n, rfl, hS, q⟩)
  | ov ps' m' s' =>
    obtain ⟨dy, kp', as', h2, _⟩ := (by unfold ShAt at hS; exact hS : ∃ dx kp as, H a = some (.ins (OverC K) dx (overF kp m' s')) ∧ H kp = some (.tup (as.map V.ref)) ∧ ShsAt K H ps' as)
    exact .inr (hta _ ⟨a, dy, _, rfl, h2, rfl, a, ps', m', s', rfl, hS, hn, hok, q⟩)
def sp_all_rising (K : PySem.W.Frag) : Sp := fun vs H Q _ => ∃ (p : Addr) (as : List Addr) (ts : List Tr), vs = [.ref p] ∧ H p = some (.tup (as.map V.ref)) ∧ ShsAt K H ts as ∧ nestL ts ≤ 9 ∧ okL_ ts ∧ ts.length ≤ 20000 ∧ ∀ H', Ex H H' → Q (.bl (risB ts)) H'
theorem fb_all_rising {P : Program} {w : World} {K : PySem.W.Frag} {mg : Str → Option Value} {base : Heap} (T : Env K mg) : ∃ fd, FunD K "all_rising" "all_rising" (defArgs s_all_rising) (defBody s_all_rising) (defScope s_all_rising) [] [] (He.ga K "all_rising") fd ∧ Fb P w K mg base 60 (He.ga K "all_rising") fd ["parts"] (sp_all_rising K) := by
  obtain ⟨fd, F⟩ := T.f_all_rising
  refine ⟨fd, F, fb_of F sc_all_rising (fun vs H Q E h => ?_) (fun cdv A outer s H vs Q E hr h => ?_)⟩
  · obtain ⟨p, as, ts, rfl, _⟩ := h
    rfl
  · obtain ⟨p, as, ts, rfl, hp, hA, hn, hok, hl, q⟩ := h
    refine ⟨_, (pss_one (ps_ret (pe_callB (cr_all rfl) (by rfl) T.n_all (by decide +kernel) (pa_cons (pe_lc (own := [("one", 1), ("other", 2)]) (by rfl) sc_all_rising.nd (RZ.pi_zipA (by rfl) T.n_zip (pa_cons (pv 0) (pa_cons (pe_slice sl_tupA (pv 0) (po_some pe_int) po_none) pa_nil))) (blkOk_by (own := [("one", 1), ("other", 2)]) (N := ["parts", "one", "other"]) (sc := defScope s_all_rising) (by decide +kernel)) (fun _ _ _ _ _ => (pg_tupK K (n := 2) rfl (pgs_cons (pg_name (i := 1) sc_all_rising.nd rfl (Or.inl rfl)) (pgs_cons (pg_name (i := 2) sc_all_rising.nd rfl (Or.inl rfl)) pgs_nil)))) (fun _ _ _ _ _ => pts_nil) (fun _ _ _ _ _ => (pe_cmpR op_lt (pe_orE (c_meth0 (pv 1) T.c_At T.m_At_ends (ok_At_ends T) (hr.mono (by decide)) takes0) (c_meth0 (pv 1) T.c_Over T.m_Over_ends (all_Over_ends T 9) (hr.mono (by decide)) takes0)) (pe_orE (c_meth0 (pv 2) T.c_At T.m_At_begins (ok_At_begins T) (hr.mono (by decide)) takes0) (c_meth0 (pv 2) T.c_Over T.m_Over_begins (all_Over_begins T 9) (hr.mono (by decide)) takes0)) (nomark _)))) pa_nil)))), ?_⟩
    refine ⟨_, rfl, _, rfl, _, rfl, ?_⟩
    dsimp only [tNoPart]
    refine slA_of (sq_tup hp) fun b2 H4 X4 hb2 => ?_
    rw [cut1] at hb2
    have ed : (as.map V.ref).drop 1 = (as.drop 1).map V.ref := by rw [List.map_drop]
    rw [ed] at hb2
    have hA4 := hA.mono X4
    have hl1 := hA.len
    have hz1 : (as.zip ts).map (fun p => V.ref p.1) = as.map V.ref := by
      show (as.zip ts).map (V.ref ∘ Prod.fst) = _
      rw [← List.map_map, List.map_fst_zip (by omega)]
    have hz1d : ((as.zip ts).drop 1).map (fun p => V.ref p.1) = (as.drop 1).map V.ref := by rw [List.map_drop, List.map_drop, hz1]
    have hz2 : (as.zip ts).map Prod.snd = ts := List.map_snd_zip (by omega)
    have zl : (as.zip ts).length ≤ 20000 := by rw [List.length_zip]; omega
    have hp4 : H4 p = some (.tup ((as.zip ts).map fun p => V.ref p.1)) := by rw [hz1]; exact X4 _ _ hp
    rw [← hz1d] at hb2
    refine ⟨p, b2, (as.zip ts).map (fun p => V.ref p.1), ((as.zip ts).drop 1).map (fun p => V.ref p.1), rfl, .inr ⟨sq_tup hp4, hb2, fun D nD => lc_zip (as.zip ts) ((as.zip ts).drop 1) (fun p => V.ref p.1) (fun p => V.ref p.1) (walk_zipT rfl) (by rw [List.length_map, List.length_map]) (fun x y => some (.bl (decide (x.2.moms.getLastD 0 < y.2.moms.headD 0)))) (fun H' => Ex H4 H') (fun H' z e => ex_mut e nD) (.refl _) (by omega) (fun H' e => ⟨sq_tup (e _ _ hp4), ex_sqt e hb2⟩) (fun i x y u H5 acc N hx hy X5 nu hD la k => ?_) fun H5 X5 d5 => ?_⟩⟩
    · have hD2 := fun o => ex_new (o := o) nu _ _ hD
      have Z := X5.trans (ex_new (o := .tup [.ref x.1, .ref y.1]) nu)
      rw [List.getElem?_drop] at hy
      obtain ⟨hx1, hx2⟩ := List.getElem?_zip_eq_some.mp hx
      obtain ⟨hy1, hy2⟩ := List.getElem?_zip_eq_some.mp hy
      have gx : ShAt K H4 x.2 x.1 := by
        obtain ⟨t, ht, h⟩ := hA4.get hx1
        rw [hx2] at ht
        cases ht
        exact h
      have gy : ShAt K H4 y.2 y.1 := by
        obtain ⟨t, ht, h⟩ := hA4.get hy1
        rw [hy2] at ht
        cases ht
        exact h
      have mx := List.mem_of_getElem? hx2
      have my := List.mem_of_getElem? hy2
      refine ⟨u, _, rfl, sq_tup upd_same, rfl, _, _, rfl, _, _, rfl, rfl, rfl, ?_⟩
      refine sh_ends (gx.mono Z) (okL_mem hok mx) (Nat.le_trans (nestL_mem mx) hn) (fun R r => ⟨_, rfl, r⟩) ?_
      refine sh_begins (gy.mono Z) (okL_mem hok my) (Nat.le_trans (nestL_mem my) hn) (fun R r => ⟨_, rfl, r⟩) ?_
      refine ⟨_, _, rfl, rfl, acc, hD2 _, la, ?_⟩
      have ei : decide (((x.2.moms.getLastD 0 : Nat) : Int) < ((y.2.moms.headD 0 : Nat) : Int)) = decide (x.2.moms.getLastD 0 < y.2.moms.headD 0) := decide_eq_decide.mpr ⟨fun z => by omega, fun z => by omega⟩
      show N (upd (upd H5 u (.tup [.ref x.1, .ref y.1])) D (.lst (acc ++ [.bl (decide (((x.2.moms.getLastD 0 : Nat) : Int) < ((y.2.moms.headD 0 : Nat) : Int)))])))
      rw [ei]
      exact k _ Z (hD2 _)
    · have ef : ((as.zip ts).zip ((as.zip ts).drop 1)).filterMap (fun p => some (V.bl (decide (p.1.2.moms.getLastD 0 < p.2.2.moms.headD 0)))) = ((ts.zip (ts.drop 1)).map fun p => decide (p.1.moms.getLastD 0 < p.2.moms.headD 0)).map V.bl := by
        rw [List.filterMap_eq_map', List.map_map]
        conv => rhs; rw [← hz2, ← List.map_drop, List.zip_map, List.map_map]
        rfl
      rw [ef] at d5
      refine ⟨D, _, rfl, sq_lst d5, ?_⟩
      rw [List.all_map]
      exact q _ (X4.trans X5)
theorem ok_all_rising {P : Program} {w : World} {K : PySem.W.Frag} {mg : Str → Option Value} {base : Heap} (T : Env K mg) : Fc P w K mg base 60 (He.ga K "all_rising") [] (sp_all_rising K ) := by
  obtain ⟨fd, D, F⟩ := fb_all_rising T
  exact F.all (D.bindsN fun _ _ _ _ _ _ us hl => match us, hl with | [_], _ => rfl)
end
section
/-- at p a list or a tuple -/
def SqA (H : Hp) (p : Addr) (xs : List V) : Prop := H p = some (.lst xs) ∨ H p = some (.tup xs)
def sp_shorts_in (K : PySem.W.Frag) : Sp := fun vs H Q E => ∃ (p : Addr) (as : List Addr) (ts : List Tr), vs = [.ref p] ∧ SqA H p (as.map V.ref) ∧ ShsAt K H ts as ∧ nestL ts ≤ 9 ∧ okL_ ts ∧ ts.length ≤ 20000 ∧ (risB ts = true → ∀ t H', Ex H H' → H' t = some (.tup (as.map V.ref)) → Q (.ref t) H') ∧ (risB ts = false → ∀ H', Ex H H' → E (.ref (He.ga K "NoPiece")) none H')
theorem fb_shorts_in {P : Program} {w : World} {K : PySem.W.Frag} {mg : Str → Option Value} {base : Heap} (T : Env K mg) : ∃ fd, FunD K "shorts_in" "shorts_in" (defArgs s_shorts_in) (defBody s_shorts_in) (defScope s_shorts_in) [] [] (He.ga K "shorts_in") fd ∧ Fb P w K mg base 61 (He.ga K "shorts_in") fd ["parts"] (sp_shorts_in K) := by
  obtain ⟨fd, F⟩ := T.f_shorts_in
  refine ⟨fd, F, fb_of F sc_shorts_in (fun vs H Q E h => ?_) (fun cdv A outer s H vs Q E hr h => ?_)⟩
  · obtain ⟨p, as, ts, rfl, _⟩ := h
    rfl
  · obtain ⟨p, as, ts, rfl, hp, hA, hn, hok, hl, q, qe⟩ := h
    refine ⟨_, (pss_cons (ps_if (pt_not (pt_val (pe_callB call_isiT (by rfl) T.n_isinstance (by decide +kernel) (pa_cons (pv 0) (pa_cons (pe_tup (pa_cons (pe_bltn (v := .ty "list") (by rfl) T.n_list (by decide +kernel) rfl) (pa_cons (pe_bltn (v := .ty "tuple") (by rfl) T.n_tuple (by decide +kernel) rfl) pa_nil))) pa_nil)))))
      (pss_one (ps_raise rfl (takes_of rfl rfl rfl rfl) (pmk_own PySem.F.excBase_ValueError T.x_NoPiece.x T.g_NoPiece T.x_NoPiece.kp (raises_own T.x_NoPiece.sub T.x_NoPiece.ty) rfl)))
      pss_nil)
      (pss_cons (ps_set (i := 1) sc_shorts_in.nd rfl (Or.inl rfl) (pe_callTy call_tuple_of (by rfl) T.n_tuple (by decide +kernel) (pa_cons (pv 0) pa_nil)))
      (pss_cons (ps_if (PW.pt (pw_or (pt_not (pt_val (pe_callB (cr_all rfl) (by rfl) T.n_all (by decide +kernel) (pa_cons (pe_lc (own := [("one", 2)]) (by rfl) sc_shorts_in.nd (pi_tup (pv 1)) (blkOk_by (own := [("one", 2)]) (N := ["parts", "found", "one"]) (sc := defScope s_shorts_in) (by decide +kernel)) (fun _ _ _ _ _ => (pg_name (i := 2) sc_shorts_in.nd rfl (Or.inl rfl))) (fun _ _ _ _ _ => pts_nil) (fun _ _ _ _ _ => (pe_callB (call_isiK K) (by rfl) T.n_isinstance (by decide +kernel) (pa_cons (pv 2) (pa_cons (pe_glob (v := .ref _) (by rfl) T.g_Short rfl) pa_nil))))) pa_nil)))) (pw_or1 (pt_not (pt_val (c_call (ok_all_rising T) (hr.mono (by decide)) T.g_all_rising T.k_all_rising (takes_of rfl rfl rfl rfl) (pa_cons (pv 1) pa_nil)))))))
      (pss_one (ps_raise rfl (takes_of rfl rfl rfl rfl) (pmk_own PySem.F.excBase_ValueError T.x_NoPiece.x T.g_NoPiece T.x_NoPiece.kp (raises_own T.x_NoPiece.sub T.x_NoPiece.ty) rfl)))
      pss_nil)
      (pss_one (ps_ret (pv 1)))))), ?_⟩
    have hl1 := hA.len
    refine ⟨_, rfl, by show 2 ≤ sizeLine; decide, fun tp ntp => ?_⟩
    have X1 := ex_new (o := .tup [.ty "list", .ty "tuple"]) ntp
    have ty : ∃ t, TyX K (upd H tp (.tup [.ty "list", .ty "tuple"])) (.ref p) t ∧ PySem.W.kitAny K t [.type "list", .type "tuple"] = some true := by
      rcases hp with h | h
      · exact ⟨_, .base (.lst (X1 _ _ h)), kitAny_cons (b := true) (kit_ty (by decide +kernel)) (fun z => nomatch z) (fun _ => rfl)⟩
      · exact ⟨_, .base (.tup (X1 _ _ h)), kitAny_cons (b := false) (kit_ty (by decide +kernel)) (fun _ => kitAny_cons (b := true) (kit_ty (by decide +kernel)) (fun z => nomatch z) (fun _ => rfl)) (by decide)⟩
    obtain ⟨t, ty, kt⟩ := ty
    refine ⟨.ref p, tp, _, t, _, true, rfl, upd_same, .cons (.ty "list") (.cons (.ty "tuple") .nil), ty, kt, true, rfl, iteF ?_⟩
    generalize upd H tp (.tup [.ty "list", .ty "tuple"]) = H1 at X1 ty ⊢
    refine ⟨_, rfl, p, as.map V.ref, rfl, ?_⟩
    have rest : ∀ t2 H2, Ex H1 H2 → H2 t2 = some (.tup (as.map V.ref)) → (tSeq (tIfS (tOr (tNot (tB (tCB (rAll K) (tCons (tLc (iTup K (tVar 1)) (gName 2) tYes (tCB (rIsi K) (tCons (tVar 2) (tCons (tC (V.ref (He.ga K "Short"))) tNil))) (List.map (fun x => x.snd) [(Str.ofString "one", 2)])) tNil)))) (tNot (tB (tFc (sp_all_rising K) (fun cls d x H => E cls d H) (tCons (tVar 1) tNil))))) (fun x σ H => (fun cls d H' => E cls d H') (Value.ref (He.ga K "NoPiece")) none H) tNext) (tRet (tVar 1))) { nx := fun _ H' => Q .non H', rt := Q } [some (.ref p), some (.ref t2), none] H2 := fun t2 H2 X2 h2 => by
      have X02 := X1.trans X2
      have hA2 := hA.mono X02
      refine ⟨_, rfl, t2, rfl, ⟨_, sq_tup h2⟩, fun A nA => lc_on as V.ref L2.walk_tup (fun _ => some (.bl true)) (fun H' => Ex H2 H') (fun H' z e => ex_mut e nA) (.refl _) (by omega) (fun H' e => sq_tup (e _ _ h2)) (fun i x H3 acc N hx X3 hD la k => ?_) fun H3 X3 d3 => ?_⟩
      · obtain ⟨t, ht, hS⟩ := hA2.get hx
        have hS3 := hS.mono X3
        cases t with
        | «at» n =>
          unfold ShAt at hS3
          obtain ⟨dx, h1⟩ := hS3
          exact ⟨rfl, _, rfl, .ref x, .ref (He.ga K "Short"), _, _, true, rfl, .own _, ty_ins T.i_At T.c_At h1, T.kit_At_Short, acc, hD, la, k H3 X3 hD⟩
        | ov ps m s =>
          unfold ShAt at hS3
          obtain ⟨dx, kp, as', h1, _⟩ := hS3
          exact ⟨rfl, _, rfl, .ref x, .ref (He.ga K "Short"), _, _, true, rfl, .own _, ty_ins T.i_Over T.c_Over h1, T.kit_Over_Short, acc, hD, la, k H3 X3 hD⟩
      · have ef : as.filterMap (fun _ => some (V.bl true)) = (List.replicate as.length true).map V.bl := by
          rw [List.map_replicate, ← List.map_const', List.filterMap_eq_map']
        rw [ef] at d3
        refine ⟨A, _, rfl, sq_lst d3, ?_⟩
        rw [all_repT]
        refine ⟨true, rfl, iteF ?_⟩
        refine ⟨_, rfl, t2, as, ts, rfl, X3 _ _ h2, hA2.mono X3, hn, hok, hl, fun H4 X4 => ⟨_, rfl, ?_⟩⟩
        cases hr2 : risB ts with
        | true =>
          refine iteF ?_
          exact ⟨_, rfl, q hr2 t2 H4 (X02.trans (X3.trans X4)) ((X3.trans X4) _ _ h2)⟩
        | false => exact iteT (qe hr2 H4 (X02.trans (X3.trans X4)))
    rcases hp with h | h
    · exact .inl ⟨sq_lst (X1 _ _ h), fun t2 nt2 => rest t2 _ (ex_new nt2) upd_same⟩
    · exact .inr ⟨sq_tup (X1 _ _ h), rest p _ (.refl _) (X1 _ _ h)⟩
theorem ok_shorts_in {P : Program} {w : World} {K : PySem.W.Frag} {mg : Str → Option Value} {base : Heap} (T : Env K mg) : Fc P w K mg base 61 (He.ga K "shorts_in") [] (sp_shorts_in K ) := by
  obtain ⟨fd, D, F⟩ := fb_shorts_in T
  exact F.all (D.bindsN fun _ _ _ _ _ _ us hl => match us, hl with | [_], _ => rfl)
end
section
def sp_At_moments (K : PySem.W.Frag) : Sp := fun vs H Q _ => ∃ a n, vs = [.ref a] ∧ AtAt K H a n ∧ ∀ p, H p = none → Q (.ref p) (upd H p (.lst [.int (n : Nat)]))
theorem fb_At_moments {P : Program} {w : World} {K : PySem.W.Frag} {mg : Str → Option Value} {base : Heap} (T : Env K mg) : ∃ fd, FunD K "moments" "At.moments" (defArgs s_At_moments) (defBody s_At_moments) (defScope s_At_moments) [] [] (He.ma K (He.ga K "At") "moments") fd ∧ Fb P w K mg base 1 (He.ma K (He.ga K "At") "moments") fd ["self"] (sp_At_moments K) := by
  obtain ⟨fd, F⟩ := T.f_At_moments
  refine ⟨fd, F, fb_of F sc_At_moments (fun vs H Q E h => ?_) (fun cdv A outer s H vs Q E hr h => ?_)⟩
  · obtain ⟨a, n, rfl, _⟩ := h
    rfl
  · obtain ⟨a, n, rfl, ⟨dx, ha⟩, q⟩ := h
    refine ⟨_, (pss_one (ps_ret (pe_lst (pa_cons (pe_fld (pv 0) (by rfl)) pa_nil)))), ?_⟩
    exact ⟨_, rfl, a, _, dx, _, _, rfl, ha, T.c_At, T.a_At_moment, rfl, by show 1 ≤ sizeLine; decide, q⟩
theorem ok_At_moments {P : Program} {w : World} {K : PySem.W.Frag} {mg : Str → Option Value} {base : Heap} (T : Env K mg) : Fc P w K mg base 1 (He.ma K (He.ga K "At") "moments") [] (sp_At_moments K ) := by
  obtain ⟨fd, D, F⟩ := fb_At_moments T
  exact F.all (D.bindsN fun _ _ _ _ _ _ us hl => match us, hl with | [_], _ => rfl)
end
section
def sp_row_moments (K : PySem.W.Frag) (d : Nat) : Sp := fun vs H Q _ => ∃ (p : Addr) (as : List Addr) (ts : List Tr), vs = [.ref p] ∧ H p = some (.tup (as.map V.ref)) ∧ ShsAt K H ts as ∧ nestL ts ≤ d ∧ okL_ ts ∧ (momsL ts).length ≤ 1440 ∧ ∀ t H', Ex H H' → H t = none → H' t = some (.lst (natV (momsL ts))) → Q (.ref t) H'
theorem fb_row_moments {P : Program} {w : World} {K : PySem.W.Frag} {mg : Str → Option Value} {base : Heap} (T : Env K mg) {d L : Nat} (hL : 40 ≤ L) (r_Over_moments : Fc P w K mg base L (He.ma K (He.ga K "Over") "moments") [] (sp_Over_moments K d)) : ∃ fd, FunD K "row_moments" "row_moments" (defArgs s_row_moments) (defBody s_row_moments) (defScope s_row_moments) [] [] (He.ga K "row_moments") fd ∧ Fb P w K mg base (L + 1) (He.ga K "row_moments") fd ["parts"] (sp_row_moments K (d)) := by
  obtain ⟨fd, F⟩ := T.f_row_moments
  refine ⟨fd, F, fb_of F sc_row_moments (fun vs H Q E h => ?_) (fun cdv A outer s H vs Q E hr h => ?_)⟩
  · obtain ⟨p, as, ts, rfl, _⟩ := h
    rfl
  · obtain ⟨p, as, ts, rfl, hp, hA, hn, hok, hl, q⟩ := h
    refine ⟨_, (pss_cons (ps_set (i := 1) sc_row_moments.nd rfl (Or.inl rfl) (pe_lst pa_nil))
      (pss_cons (ps_for (passes_of rfl) rfl (pi_tup (pv 0)) (pg_name (i := 2) sc_row_moments.nd rfl (Or.inl rfl))
      (pss_one (ps_expr (pe_bm PySem.F.plainAttrs_list PySem.F.slot_list_extend PySem.F.type_list_extend mt_extend (pv 1) (pa_cons (pe_orE (c_meth0 (pv 2) T.c_At T.m_At_moments (ok_At_moments T) (hr.mono (by omega)) takes0) (c_meth0 (pv 2) T.c_Over T.m_Over_moments r_Over_moments (hr.mono (by omega)) takes0)) pa_nil)))))
      (pss_one (ps_ret (pv 1))))), ?_⟩
    refine ⟨by show 0 ≤ sizeLine; decide, fun f nf => ?_⟩
    have X0 := ex_new (o := .lst []) nf
    have hl1 := hA.len
    have pf : p ≠ f := ne_of_none hp nf
    refine ⟨_, rfl, p, rfl, ⟨_, sq_tup (X0 _ _ hp)⟩, for_on as V.ref L2.walk_tup (fun i σ H' => Oth f H H' ∧ ∃ v2, σ = [some (.ref p), some (.ref f), v2] ∧ H' f = some (.lst (natV (momsL (ts.take i))))) ⟨ex_oth X0, _, rfl, upd_same⟩ (fun i σ H' z => sq_tup (z.1 _ _ pf hp)) ?_ ?_⟩
    · rintro i a σ H2 hx ⟨O2, v2, rfl, hf⟩
      obtain ⟨t, ht, hS⟩ := hA.get hx
      have htm := List.mem_of_getElem? ht
      have X2 : Ex H H2 := fun b o e => O2 b o (ne_of_none e nf) e
      have eT := momsL_take ht
      have bT := momsL_take_len ts (i + 1)
      rw [eT, List.length_append] at bT
      have hS2 := hS.mono X2
      have fin : ∀ (u : Addr) (H3 : Hp), Ex H2 H3 → H3 u = some (.lst (natV t.moms)) → rExtend (.ref f) [.ref u] H3 (fun _ H' => Oth f H H' ∧ ∃ v2', [some (V.ref p), some (V.ref f), some (V.ref a)] = [some (.ref p), some (.ref f), v2'] ∧ H' f = some (.lst (natV (momsL (ts.take (i + 1)))))) := fun u H3 X3 hu => by
        refine ⟨f, u, _, _, rfl, rfl, X3 _ _ hf, hu, sz_le (by rw [natV_len, natV_len]; omega), (O2.trans (ex_oth X3)).upd, _, rfl, ?_⟩
        rw [upd_same, eT]
        unfold natV
        rw [List.map_append]
      refine ⟨_, rfl, .inl ⟨rfl, _, sq_lst hf⟩, ?_⟩
      cases t with
      | «at» n =>
        unfold ShAt at hS2
        obtain ⟨dx, h2⟩ := id hS2
        exact .inl ⟨_, rfl, a, dx, _, rfl, h2, rfl, a, n, rfl, hS2, fun u nu => fin u _ (ex_new nu) (by rw [upd_same]; unfold Tr.moms; rfl)⟩
      | ov ps m s =>
        obtain ⟨dx, kp, as', h2, _⟩ := (by unfold ShAt at hS2; exact hS2 : ∃ dx kp as, H2 a = some (.ins (OverC K) dx (overF kp m s)) ∧ H2 kp = some (.tup (as.map V.ref)) ∧ ShsAt K H2 ps as)
        exact .inr ⟨_, rfl, a, dx, _, rfl, h2, rfl, a, ps, m, s, rfl, hS2, Nat.le_trans (nestL_mem htm) hn, okL_mem hok htm, fun u H3 X3 nu hu => fin u H3 X3 hu⟩
    · rintro σ H2 ⟨O2, v2, rfl, hf⟩
      rw [List.take_of_length_le (by omega)] at hf
      exact ⟨_, rfl, q f H2 (fun b o e => O2 b o (ne_of_none e nf) e) nf hf⟩
theorem ok_row_moments {P : Program} {w : World} {K : PySem.W.Frag} {mg : Str → Option Value} {base : Heap} (T : Env K mg) {d L : Nat} (hL : 40 ≤ L) (r_Over_moments : Fc P w K mg base L (He.ma K (He.ga K "Over") "moments") [] (sp_Over_moments K d)) : Fc P w K mg base (L + 1) (He.ga K "row_moments") [] (sp_row_moments K (d)) := by
  obtain ⟨fd, D, F⟩ := fb_row_moments T hL r_Over_moments
  exact F.all (D.bindsN fun _ _ _ _ _ _ us hl => match us, hl with | [_], _ => rfl)
end
section
def sp_At_means_many (K : PySem.W.Frag) : Sp := fun vs H Q _ => ∃ a n, vs = [.ref a] ∧ AtAt K H a n ∧ Q (.int 1) H
theorem fb_At_means_many {P : Program} {w : World} {K : PySem.W.Frag} {mg : Str → Option Value} {base : Heap} (T : Env K mg) : ∃ fd, FunD K "means_many" "At.means_many" (defArgs s_At_means_many) (defBody s_At_means_many) (defScope s_At_means_many) [] [] (He.ma K (He.ga K "At") "means_many") fd ∧ Fb P w K mg base 1 (He.ma K (He.ga K "At") "means_many") fd ["self"] (sp_At_means_many K) := by
  obtain ⟨fd, F⟩ := T.f_At_means_many
  refine ⟨fd, F, fb_of F sc_At_means_many (fun vs H Q E h => ?_) (fun cdv A outer s H vs Q E hr h => ?_)⟩
  · obtain ⟨a, n, rfl, _⟩ := h
    rfl
  · obtain ⟨a, n, rfl, ⟨dx, ha⟩, q⟩ := h
    refine ⟨_, (pss_one (ps_ret pe_int)), ?_⟩
    exact q
theorem ok_At_means_many {P : Program} {w : World} {K : PySem.W.Frag} {mg : Str → Option Value} {base : Heap} (T : Env K mg) : Fc P w K mg base 1 (He.ma K (He.ga K "At") "means_many") [] (sp_At_means_many K ) := by
  obtain ⟨fd, D, F⟩ := fb_At_means_many T
  exact F.all (D.bindsN fun _ _ _ _ _ _ us hl => match us, hl with | [_], _ => rfl)
end
section
theorem range_opt {α : Type} (ts : List α) (f : α → V) : (List.range ts.length).filterMap (fun i => (ts[i]?).map f) = ts.map f := by
  induction ts with
  | nil => rfl
  | cons t r ih =>
    rw [List.length_cons, List.range_succ_eq_map, List.filterMap_cons, List.filterMap_map]
    show f t :: List.filterMap (fun i => (r[i]?).map f) (List.range r.length) = f t :: r.map f
    rw [ih]
theorem sum_many : ∀ ts : List Tr, (ts.map fun t => ((t.moms.length : Nat) : Int)).sum = (((momsL ts).length : Nat) : Int)
  | [] => rfl
  | t :: r => by
    rw [List.map_cons, List.sum_cons, sum_many r]
    have e : momsL (t :: r) = t.moms ++ momsL r := by simp [momsL]
    rw [e, List.length_append]
    omega
def sp_row_many (K : PySem.W.Frag) (d : Nat) : Sp := fun vs H Q _ => ∃ (p : Addr) (as : List Addr) (ts : List Tr), vs = [.ref p] ∧ H p = some (.tup (as.map V.ref)) ∧ ShsAt K H ts as ∧ nestL ts ≤ d ∧ okL_ ts ∧ ts.length ≤ 20000 ∧ ∀ H', Ex H H' → Q (.int (((momsL ts).length : Nat) : Int)) H'
theorem fb_row_many {P : Program} {w : World} {K : PySem.W.Frag} {mg : Str → Option Value} {base : Heap} (T : Env K mg) {d L : Nat} (hL : 40 ≤ L) (r_Over_means_many : Fc P w K mg base L (He.ma K (He.ga K "Over") "means_many") [] (sp_Over_means_many K d)) : ∃ fd, FunD K "row_many" "row_many" (defArgs s_row_many) (defBody s_row_many) (defScope s_row_many) [] [] (He.ga K "row_many") fd ∧ Fb P w K mg base (L + 1) (He.ga K "row_many") fd ["parts"] (sp_row_many K (d)) := by
  obtain ⟨fd, F⟩ := T.f_row_many
  refine ⟨fd, F, fb_of F sc_row_many (fun vs H Q E h => ?_) (fun cdv A outer s H vs Q E hr h => ?_)⟩
  · obtain ⟨p, as, ts, rfl, _⟩ := h
    rfl
  · obtain ⟨p, as, ts, rfl, hp, hA, hn, hok, hl, q⟩ := h
    refine ⟨_, (pss_one (ps_ret (pe_callB (cr_sum rfl) (by rfl) T.n_sum (by decide +kernel) (pa_cons (pe_lc (own := [("one", 1)]) (by rfl) sc_row_many.nd (pi_tup (pv 0)) (blkOk_by (own := [("one", 1)]) (N := ["parts", "one"]) (sc := defScope s_row_many) (by decide +kernel)) (fun _ _ _ _ _ => (pg_name (i := 1) sc_row_many.nd rfl (Or.inl rfl))) (fun _ _ _ _ _ => pts_nil) (fun _ _ _ _ _ => (pe_orE (c_meth0 (pv 1) T.c_At T.m_At_means_many (ok_At_means_many T) (hr.mono (by omega)) takes0) (c_meth0 (pv 1) T.c_Over T.m_Over_means_many r_Over_means_many (hr.mono (by omega)) takes0)))) pa_nil)))), ?_⟩
    have hl1 := hA.len
    have hl2 := len_moms hok
    refine ⟨_, rfl, p, rfl, ⟨_, sq_tup hp⟩, fun A nA => lc_fm L2.walk_tup (fun i => (ts[i]?).map fun t => .int ((t.moms.length : Nat) : Int)) (fun H' => Ex H H') (fun H' z e => ex_mut e nA) (.refl _) (by rw [List.length_map]; omega) (fun H' e => sq_tup (e _ _ hp)) (fun i x H2 H3 acc N hi e hD la y k => ?_) fun H3 X3 d3 => ?_⟩
    · obtain ⟨rfl, y⟩ := y
      rw [List.getElem?_map] at y
      obtain ⟨a, ha, rfl⟩ := Option.map_eq_some_iff.mp y
      obtain ⟨t, ht, hS⟩ := hA.get ha
      have htm := List.mem_of_getElem? ht
      have hS2 := hS.mono e
      have k2 := fun H4 (X4 : Ex H3 H4) => k H4 (e.trans X4) (X4 _ _ hD)
      rw [ht] at k2
      have ok := okL_mem hok htm
      cases t with
      | «at» n =>
        unfold ShAt at hS2
        obtain ⟨dx, h2⟩ := id hS2
        exact ⟨rfl, .inl ⟨_, rfl, a, dx, _, rfl, h2, rfl, a, n, rfl, hS2, acc, hD, la, k2 H3 (.refl _)⟩⟩
      | ov ps m s =>
        obtain ⟨dx, kp, as', h2, _⟩ := (by unfold ShAt at hS2; exact hS2 : ∃ dx kp as, H3 a = some (.ins (OverC K) dx (overF kp m s)) ∧ H3 kp = some (.tup (as.map V.ref)) ∧ ShsAt K H3 ps as)
        obtain ⟨_, _, _, _, o5', _, o7⟩ := ov_facts ok
        have o5 : ps.length ≤ 20000 := by omega
        refine ⟨rfl, .inr ⟨_, rfl, a, dx, _, rfl, h2, rfl, a, ps, m, s, rfl, hS2, Nat.le_trans (nestL_mem htm) hn, o7, o5, fun H4 X4 => ⟨acc, X4 _ _ hD, la, ?_⟩⟩⟩
        have k3 : N (upd H4 A (.lst (acc ++ [.int (((Tr.ov ps m s).moms.length : Nat) : Int)]))) := k2 H4 X4
        rw [show (Tr.ov ps m s).moms.length = m * (momsL ps).length from by unfold Tr.moms; exact overN_len _ _ _] at k3
        exact k3
    · rw [List.length_map, hl1, range_opt ts (fun t => V.int ((t.moms.length : Nat) : Int))] at d3
      have e1 : ts.map (fun t => V.int ((t.moms.length : Nat) : Int)) = (ts.map fun t => ((t.moms.length : Nat) : Int)).map V.int := by
        rw [List.map_map]
        rfl
      rw [e1] at d3
      refine ⟨A, _, rfl, sq_lst d3, ?_⟩
      rw [sum_many]
      exact q _ X3
theorem ok_row_many {P : Program} {w : World} {K : PySem.W.Frag} {mg : Str → Option Value} {base : Heap} (T : Env K mg) {d L : Nat} (hL : 40 ≤ L) (r_Over_means_many : Fc P w K mg base L (He.ma K (He.ga K "Over") "means_many") [] (sp_Over_means_many K d)) : Fc P w K mg base (L + 1) (He.ga K "row_many") [] (sp_row_many K (d)) := by
  obtain ⟨fd, D, F⟩ := fb_row_many T hL r_Over_means_many
  exact F.all (D.bindsN fun _ _ _ _ _ _ us hl => match us, hl with | [_], _ => rfl)
end
section
def sp_At_nested (K : PySem.W.Frag) : Sp := fun vs H Q _ => ∃ a n, vs = [.ref a] ∧ AtAt K H a n ∧ Q (.int 0) H
theorem fb_At_nested {P : Program} {w : World} {K : PySem.W.Frag} {mg : Str → Option Value} {base : Heap} (T : Env K mg) : ∃ fd, FunD K "nested" "At.nested" (defArgs s_At_nested) (defBody s_At_nested) (defScope s_At_nested) [] [] (He.ma K (He.ga K "At") "nested") fd ∧ Fb P w K mg base 1 (He.ma K (He.ga K "At") "nested") fd ["self"] (sp_At_nested K) := by
  obtain ⟨fd, F⟩ := T.f_At_nested
  refine ⟨fd, F, fb_of F sc_At_nested (fun vs H Q E h => ?_) (fun cdv A outer s H vs Q E hr h => ?_)⟩
  · obtain ⟨a, n, rfl, _⟩ := h
    rfl
  · obtain ⟨a, n, rfl, ⟨dx, ha⟩, q⟩ := h
    refine ⟨_, (pss_one (ps_ret pe_int)), ?_⟩
    exact q
theorem ok_At_nested {P : Program} {w : World} {K : PySem.W.Frag} {mg : Str → Option Value} {base : Heap} (T : Env K mg) : Fc P w K mg base 1 (He.ma K (He.ga K "At") "nested") [] (sp_At_nested K ) := by
  obtain ⟨fd, D, F⟩ := fb_At_nested T
  exact F.all (D.bindsN fun _ _ _ _ _ _ us hl => match us, hl with | [_], _ => rfl)
end
section
theorem fb_Over_means_many {P : Program} {w : World} {K : PySem.W.Frag} {mg : Str → Option Value} {base : Heap} (T : Env K mg) {d L : Nat} (hL : 40 ≤ L) (r_Over_means_many : Fc P w K mg base L (He.ma K (He.ga K "Over") "means_many") [] (sp_Over_means_many K d)) : ∃ fd, FunD K "means_many" "Over.means_many" (defArgs s_Over_means_many) (defBody s_Over_means_many) (defScope s_Over_means_many) [] [] (He.ma K (He.ga K "Over") "means_many") fd ∧ Fb P w K mg base (L + 2) (He.ma K (He.ga K "Over") "means_many") fd ["self"] (sp_Over_means_many K (d + 1)) := by
  obtain ⟨fd, F⟩ := T.f_Over_means_many
  refine ⟨fd, F, fb_of F sc_Over_means_many (fun vs H Q E h => ?_) (fun cdv A outer s H vs Q E hr h => ?_)⟩
  · obtain ⟨a, ps, m, s, rfl, _⟩ := h
    rfl
  · obtain ⟨a, ps, m, s_, rfl, hO, hn, hok, hl, q⟩ := h
    refine ⟨_, (pss_one (ps_ret (pe_op op_mul (pe_fld (pv 0) (by rfl)) (c_call (ok_row_many T hL r_Over_means_many) (hr.mono (by omega)) T.g_row_many T.k_row_many takes0 (pa_cons (pe_fld (pv 0) (by rfl)) pa_nil))))), ?_⟩
    have hfew := momsL_few hok
    have hnL := ov_nest hn
    obtain ⟨dx, kp, as, ha, hk, hA⟩ := (by unfold ShAt at hO; exact hO : ∃ dx kp as, H a = some (.ins (OverC K) dx (overF kp m s_)) ∧ H kp = some (.tup (as.map V.ref)) ∧ ShsAt K H ps as)
    refine ⟨_, rfl, a, _, dx, _, _, rfl, ha, T.c_Over, T.a_Over_many, rfl, _, rfl, a, _, dx, _, _, rfl, ha, T.c_Over, T.a_Over_kept, rfl, kp, as, ps, rfl, hk, hA, hnL, hok, hl, fun H1 X1 => ⟨_, _, rfl, rfl, .inr ⟨by omega, by omega⟩, ?_⟩⟩
    have e : ((m : Nat) : Int) * (((momsL ps).length : Nat) : Int) = ((m * (momsL ps).length : Nat) : Int) := by simp
    show Q (.int (((m : Nat) : Int) * (((momsL ps).length : Nat) : Int))) H1
    rw [e]
    exact q H1 X1
theorem ok_Over_means_many {P : Program} {w : World} {K : PySem.W.Frag} {mg : Str → Option Value} {base : Heap} (T : Env K mg) {d L : Nat} (hL : 40 ≤ L) (r_Over_means_many : Fc P w K mg base L (He.ma K (He.ga K "Over") "means_many") [] (sp_Over_means_many K d)) : Fc P w K mg base (L + 2) (He.ma K (He.ga K "Over") "means_many") [] (sp_Over_means_many K (d + 1)) := by
  obtain ⟨fd, D, F⟩ := fb_Over_means_many T hL r_Over_means_many
  exact F.all (D.bindsN fun _ _ _ _ _ _ us hl => match us, hl with | [_], _ => rfl)
theorem all_Over_means_many {P : Program} {w : World} {K : PySem.W.Frag} {mg : Str → Option Value} {base : Heap} (T : Env K mg) : ∀ d, Fc P w K mg base (40 + 2 * d) (He.ma K (He.ga K "Over") "means_many") [] (sp_Over_means_many K d)
  | 0 => fc_no fun vs H Q E h => by
    obtain ⟨a, ps, m, s, _, _, h, _⟩ := h
    unfold Tr.nest at h
    omega
  | d + 1 => ok_Over_means_many T (Nat.le_add_right 40 _) (all_Over_means_many T d)
end
section
theorem fb_Over_nested {P : Program} {w : World} {K : PySem.W.Frag} {mg : Str → Option Value} {base : Heap} (T : Env K mg) {d L : Nat} (hL : 40 ≤ L) (r_Over_nested : Fc P w K mg base L (He.ma K (He.ga K "Over") "nested") [] (sp_Over_nested K d)) : ∃ fd, FunD K "nested" "Over.nested" (defArgs s_Over_nested) (defBody s_Over_nested) (defScope s_Over_nested) [] [] (He.ma K (He.ga K "Over") "nested") fd ∧ Fb P w K mg base (L + 1) (He.ma K (He.ga K "Over") "nested") fd ["self"] (sp_Over_nested K (d + 1)) := by
  obtain ⟨fd, F⟩ := T.f_Over_nested
  refine ⟨fd, F, fb_of F sc_Over_nested (fun vs H Q E h => ?_) (fun cdv A outer s H vs Q E hr h => ?_)⟩
  · obtain ⟨a, ps, m, s, rfl, _⟩ := h
    rfl
  · obtain ⟨a, ps, m, s_, rfl, hO, hn, h0, hok, hl, q⟩ := h
    refine ⟨_, (pss_one (ps_ret (pe_op op_add pe_int (pe_callB (cr_max rfl) (by rfl) T.n_max (by decide +kernel) (pa_cons (pe_lc (own := [("one", 1)]) (by rfl) sc_Over_nested.nd (pi_tup (pe_fld (pv 0) (by rfl))) (blkOk_by (own := [("one", 1)]) (N := ["self", "one"]) (sc := defScope s_Over_nested) (by decide +kernel)) (fun _ _ _ _ _ => (pg_name (i := 1) sc_Over_nested.nd rfl (Or.inl rfl))) (fun _ _ _ _ _ => pts_nil) (fun _ _ _ _ _ => (pe_orE (c_meth0 (pv 1) T.c_At T.m_At_nested (ok_At_nested T) (hr.mono (by omega)) takes0) (c_meth0 (pv 1) T.c_Over T.m_Over_nested r_Over_nested (hr.mono (by omega)) takes0)))) pa_nil))))), ?_⟩
    have hnL := ov_nest hn
    obtain ⟨dx, kp, as, ha, hk, hA⟩ := (by unfold ShAt at hO; exact hO : ∃ dx kp as, H a = some (.ins (OverC K) dx (overF kp m s_)) ∧ H kp = some (.tup (as.map V.ref)) ∧ ShsAt K H ps as)
    have hl1 := hA.len
    have hl2 := len_moms hok
    refine ⟨_, rfl, a, _, dx, _, _, rfl, ha, T.c_Over, T.a_Over_kept, rfl, kp, rfl, ⟨_, sq_tup hk⟩, fun A nA => lc_fm L2.walk_tup (fun i => (ps[i]?).map fun t => .int ((t.nest : Nat) : Int)) (fun H' => Ex H H') (fun H' z e => ex_mut e nA) (.refl _) (by rw [List.length_map]; omega) (fun H' e => sq_tup (e _ _ hk)) (fun i x H2 H3 acc N hi e hD la y k => ?_) fun H3 X3 d3 => ?_⟩
    · obtain ⟨rfl, y⟩ := y
      rw [List.getElem?_map] at y
      obtain ⟨b, hb, rfl⟩ := Option.map_eq_some_iff.mp y
      obtain ⟨t, ht, hS⟩ := hA.get hb
      have htm := List.mem_of_getElem? ht
      have hS2 := hS.mono e
      have k2 := fun H4 (X4 : Ex H3 H4) => k H4 (e.trans X4) (X4 _ _ hD)
      rw [ht] at k2
      have ok := okL_mem hok htm
      cases t with
      | «at» n =>
        unfold ShAt at hS2
        obtain ⟨dy, h2⟩ := id hS2
        exact ⟨rfl, .inl ⟨_, rfl, b, dy, _, rfl, h2, rfl, b, n, rfl, hS2, acc, hD, la, k2 H3 (.refl _)⟩⟩
      | ov ps' m' s' =>
        obtain ⟨dy, kp', as', h2, _⟩ := (by unfold ShAt at hS2; exact hS2 : ∃ dx kp as, H3 b = some (.ins (OverC K) dx (overF kp m' s')) ∧ H3 kp = some (.tup (as.map V.ref)) ∧ ShsAt K H3 ps' as)
        obtain ⟨o1, _, _, _, o5', _, o7⟩ := ov_facts ok
        have o5 : ps'.length ≤ 20000 := by omega
        exact ⟨rfl, .inr ⟨_, rfl, b, dy, _, rfl, h2, rfl, b, ps', m', s', rfl, hS2, Nat.le_trans (nestL_mem htm) hnL, o1, o7, o5, fun H4 X4 => ⟨acc, X4 _ _ hD, la, k2 H4 X4⟩⟩⟩
    · rw [List.length_map, hl1, range_opt ps (fun t => V.int ((t.nest : Nat) : Int))] at d3
      have e1 : ps.map (fun t => V.int ((t.nest : Nat) : Int)) = (ps.map fun t => ((t.nest : Nat) : Int)).map V.int := by
        rw [List.map_map]
        rfl
      rw [e1] at d3
      refine ⟨A, _, rfl, sq_lst d3, by rw [List.length_map]; exact List.length_pos_iff.mpr h0, fun mx hm hall => ⟨_, _, rfl, rfl, ?_⟩⟩
      have em : mx = ((nestL ps : Nat) : Int) := by
        obtain ⟨t, ht, e⟩ := List.mem_map.mp hm
        have h1 := nestL_mem ht
        obtain ⟨t2, ht2, e2⟩ := nestL_max h0
        have h2 := hall _ (List.mem_map.mpr ⟨t2, ht2, rfl⟩)
        omega
      have e : (1 : Int) + mx = (((Tr.ov ps m s_).nest : Nat) : Int) := by
        unfold Tr.nest
        omega
      show Q (.int (1 + mx)) H3
      rw [e]
      exact q H3 X3
theorem ok_Over_nested {P : Program} {w : World} {K : PySem.W.Frag} {mg : Str → Option Value} {base : Heap} (T : Env K mg) {d L : Nat} (hL : 40 ≤ L) (r_Over_nested : Fc P w K mg base L (He.ma K (He.ga K "Over") "nested") [] (sp_Over_nested K d)) : Fc P w K mg base (L + 1) (He.ma K (He.ga K "Over") "nested") [] (sp_Over_nested K (d + 1)) := by
  obtain ⟨fd, D, F⟩ := fb_Over_nested T hL r_Over_nested
  exact F.all (D.bindsN fun _ _ _ _ _ _ us hl => match us, hl with | [_], _ => rfl)
theorem all_Over_nested {P : Program} {w : World} {K : PySem.W.Frag} {mg : Str → Option Value} {base : Heap} (T : Env K mg) : ∀ d, Fc P w K mg base (40 + 1 * d) (He.ma K (He.ga K "Over") "nested") [] (sp_Over_nested K d)
  | 0 => fc_no fun vs H Q E h => by
    obtain ⟨a, ps, m, s, _, _, h, _⟩ := h
    unfold Tr.nest at h
    omega
  | d + 1 => ok_Over_nested T (Nat.le_add_right 40 _) (all_Over_nested T d)
end
section
theorem isN_nat_of {n : Int} {x : V} (h0 : 0 ≤ n) (h : isN n x = true) : ∃ m : Nat, x = .int (m : Nat) ∧ n ≤ (m : Int) := by
  unfold isN at h
  obtain ⟨_, h2⟩ := Bool.and_eq_true_iff.mp h
  cases x with
  | int i =>
    have h3 : n ≤ i := of_decide_eq_true h2
    obtain ⟨m, rfl⟩ := Int.eq_ofNat_of_zero_le (Int.le_trans h0 h3)
    exact ⟨m, rfl, h3⟩
  | _ => cases h2
/-- whether an Over may be made -/
def ovB (ts : List Tr) (xm xs : V) : Bool := risB ts && (decide (ts ≠ []) && (isN 2 xm && (isN 1 xs && (match xm, xs with
  | .int m, .int s => decide (((momsL ts).getLastD 0 : Int) < s + ((momsL ts).headD 0 : Int)) && (decide (m * ((momsL ts).length : Int) ≤ 1440) && decide (nestL ts ≤ 7))
  | _, _ => false))))
def sp_Over_init (K : PySem.W.Frag) : Sp := fun vs H Q E => ∃ (a dx p : Addr) (as : List Addr) (ts : List Tr) (xm xs : V) (H0 : Hp), vs = [.ref a, .ref p, xm, xs] ∧ H a = some (.ins (OverC K) dx []) ∧ H0 a = none ∧ Ex H0 H ∧ SqA H0 p (as.map V.ref) ∧ ShsAt K H0 ts as ∧ nestL ts ≤ 8 ∧ okL_ ts ∧ ts.length ≤ 20000 ∧ ts.length ≤ 20000 ∧ Cl K H0 xm ∧ Cl K H0 xs ∧ (∀ m s : Nat, ovB ts xm xs = true → xm = .int (m : Nat) → xs = .int (s : Nat) → ∀ H', Oth a H H' → ShAt K H' (.ov ts m s) a → Q .non H') ∧ (ovB ts xm xs = false → ∀ H', Oth a H H' → E (.ref (He.ga K "NoPiece")) none H')
theorem fb_Over_init {P : Program} {w : World} {K : PySem.W.Frag} {mg : Str → Option Value} {base : Heap} (T : Env K mg) : ∃ fd, FunD K "__init__" "Over.__init__" (defArgs s_Over_init) (defBody s_Over_init) (defScope s_Over_init) [.int (2), .int (60)] [] (He.ma K (He.ga K "Over") "__init__") fd ∧ Fb P w K mg base 64 (He.ma K (He.ga K "Over") "__init__") fd ["self", "parts", "many", "step"] (sp_Over_init K) := by
  obtain ⟨fd, F⟩ := T.f_Over_init
  refine ⟨fd, F, fb_of F sc_Over_init (fun vs H Q E h => ?_) (fun cdv A outer s H vs Q E hr h => ?_)⟩
  · obtain ⟨a, dx, p, as, ts, xm, xs, H0, rfl, _⟩ := h
    rfl
  · obtain ⟨a, dx, p, as, ts, xm, xs, H0, rfl, ha, na0, X0, hp, hA, hn, hok, hlm, hlt, cm, cs, q, qe⟩ := h
    refine ⟨_, (pss_cons (ps_fld (pv 0) (c_call (ok_shorts_in T) (hr.mono (by decide)) T.g_shorts_in T.k_shorts_in (takes_of rfl rfl rfl rfl) (pa_cons (pv 1) pa_nil)) rfl)
      (pss_cons (ps_if (PW.pt (pw_or (pt_cmpR op_eq (pe_callB call_len (by rfl) T.n_len (by decide +kernel) (pa_cons (pe_fld (pv 0) (by rfl)) pa_nil)) pe_int (nomark _)) (pw_or (pt_not (pt_val (c_call (ok_is_number T) (hr.mono (by decide)) T.g_is_number T.k_is_number (takes_of rfl rfl rfl rfl) (pa_cons (pv 2) (pa_cons pe_int pa_nil))))) (pw_or1 (pt_not (pt_val (c_call (ok_is_number T) (hr.mono (by decide)) T.g_is_number T.k_is_number (takes_of rfl rfl rfl rfl) (pa_cons (pv 3) (pa_cons pe_int pa_nil)))))))))
      (pss_one (ps_raise rfl (takes_of rfl rfl rfl rfl) (pmk_own PySem.F.excBase_ValueError T.x_NoPiece.x T.g_NoPiece T.x_NoPiece.kp (raises_own T.x_NoPiece.sub T.x_NoPiece.ty) rfl)))
      pss_nil)
      (pss_cons (ps_if (pt_cmpR op_le (pv 3) (pe_op op_sub (pe_orE (c_meth0 (pe_ix ix_tup (pe_fld (pv 0) (by rfl)) (pe_un un_neg pe_int) (fun _ _ => rfl)) T.c_At T.m_At_ends (ok_At_ends T) (hr.mono (by decide)) (takes_of rfl rfl rfl rfl)) (c_meth0 (pe_ix ix_tup (pe_fld (pv 0) (by rfl)) (pe_un un_neg pe_int) (fun _ _ => rfl)) T.c_Over T.m_Over_ends (all_Over_ends T 9) (hr.mono (by decide)) (takes_of rfl rfl rfl rfl))) (pe_orE (c_meth0 (pe_ix ix_tup (pe_fld (pv 0) (by rfl)) pe_int (fun _ _ => rfl)) T.c_At T.m_At_begins (ok_At_begins T) (hr.mono (by decide)) (takes_of rfl rfl rfl rfl)) (c_meth0 (pe_ix ix_tup (pe_fld (pv 0) (by rfl)) pe_int (fun _ _ => rfl)) T.c_Over T.m_Over_begins (all_Over_begins T 9) (hr.mono (by decide)) (takes_of rfl rfl rfl rfl)))) (nomark _))
      (pss_one (ps_raise rfl (takes_of rfl rfl rfl rfl) (pmk_own PySem.F.excBase_ValueError T.x_NoPiece.x T.g_NoPiece T.x_NoPiece.kp (raises_own T.x_NoPiece.sub T.x_NoPiece.ty) rfl)))
      pss_nil)
      (pss_cons (ps_fld (pv 0) (pv 2) rfl)
      (pss_cons (ps_fld (pv 0) (pv 3) rfl)
      (pss_one (ps_if (PW.pt (pw_or (pt_cmpR op_gt (c_meth0 (pv 0) T.c_Over T.m_Over_means_many (all_Over_means_many T 9) (hr.mono (by decide)) (takes_of rfl rfl rfl rfl)) (pe_k T.v_MOST_MOMENTS) (nomark _)) (pw_or1 (pt_cmpR op_gt (c_meth0 (pv 0) T.c_Over T.m_Over_nested (all_Over_nested T 9) (hr.mono (by decide)) (takes_of rfl rfl rfl rfl)) (pe_k T.v_MOST_NESTED) (nomark _)))))
      (pss_one (ps_raise rfl (takes_of rfl rfl rfl rfl) (pmk_own PySem.F.excBase_ValueError T.x_NoPiece.x T.g_NoPiece T.x_NoPiece.kp (raises_own T.x_NoPiece.sub T.x_NoPiece.ty) rfl)))
      pss_nil))))))), ?_⟩
    have hl1 := hA.len
    have hpH : SqA H p (as.map V.ref) := hp.imp (fun h => X0 _ _ h) (fun h => X0 _ _ h)
    refine ⟨_, rfl, p, as, ts, rfl, hpH, hA.mono X0, by omega, hok, hlt, fun hr2 t H1 X1 ht => ?_, fun hr2 H1 X1 => qe (by unfold ovB; rw [hr2]; rfl) H1 (ex_oth X1)⟩
    refine ⟨_, rfl, a, _, dx, [], rfl, X1 _ _ ha, T.c_Over, T.a_Over_kept, by decide, ?_⟩
    have ta : t ≠ a := fun z => by rw [z, X1 _ _ ha] at ht; cases ht
    have O1 : Oth a H (upd H1 a (.ins (OverC K) dx (putF "kept" (.ref t) []))) := (ex_oth X1).upd
    have h2 : upd H1 a (.ins (OverC K) dx (putF "kept" (.ref t) [])) a = some (.ins (OverC K) dx [("kept", .ref t)]) := upd_same
    have ht2 : upd H1 a (.ins (OverC K) dx (putF "kept" (.ref t) [])) t = some (.tup (as.map V.ref)) := by rw [upd_ne ta]; exact ht
    generalize upd H1 a (.ins (OverC K) dx (putF "kept" (.ref t) [])) = H2 at O1 h2 ht2 ⊢
    have X02 : Ex H0 H2 := Oth.ex X0 na0 O1
    have hA2 : ShsAt K H2 ts as := hA.mono X02
    refine ⟨_, rfl, a, _, dx, _, _, rfl, h2, T.c_Over, T.a_Over_kept, rfl, _, as.length, rfl, .inr ⟨_, sq_tup ht2, (List.length_map _).symm⟩, rfl, _, rfl, ?_⟩
    by_cases h0 : ts = []
    · rw [decide_eq_true (show V.int ((as.length : Nat) : Int) = V.int 0 by rw [hl1, h0]; rfl)]
      refine iteT ?_
      refine qe ?_ H2 O1
      unfold ovB
      rw [hr2, decide_eq_false (fun z => z h0)]
      rfl
    have pos : 0 < ts.length := List.length_pos_iff.mpr h0
    rw [decide_eq_false (show ¬ V.int ((as.length : Nat) : Int) = V.int 0 from fun z => by injection z with z; omega)]
    refine iteF ?_
    refine ⟨_, rfl, xm, 2, rfl, cm.mono X02, _, rfl, ?_⟩
    cases hm2 : isN 2 xm with
    | false =>
      refine iteT ?_
      refine qe ?_ H2 O1
      unfold ovB
      rw [hr2, decide_eq_true h0, hm2]
      rfl
    | true =>
    refine iteF ?_
    refine ⟨_, rfl, xs, 1, rfl, cs.mono X02, _, rfl, ?_⟩
    cases hs2 : isN 1 xs with
    | false =>
      refine iteT ?_
      refine qe ?_ H2 O1
      unfold ovB
      rw [hr2, decide_eq_true h0, hm2, hs2]
      rfl
    | true =>
    refine iteF ?_
    obtain ⟨m, rfl, hm⟩ := isN_nat_of (by decide) hm2
    obtain ⟨s_, rfl, hs1⟩ := isN_nat_of (by decide) hs2
    have eB : ovB ts (.int (m : Nat)) (.int (s_ : Nat)) = (decide (((momsL ts).getLastD 0 : Int) < ((s_ : Nat) : Int) + ((momsL ts).headD 0 : Int)) && (decide (((m : Nat) : Int) * ((momsL ts).length : Int) ≤ 1440) && decide (nestL ts ≤ 7))) := by
      unfold ovB
      rw [hr2, decide_eq_true h0, hm2, hs2]
      rfl
    have nn := momsL_ne hok h0
    obtain ⟨zf, rf, tf, rt, eas, ets, hSf⟩ : ∃ z r t u, as = z :: r ∧ ts = t :: u ∧ ShAt K H2 t z := by
      cases ts with
      | nil => exact absurd rfl h0
      | cons t u =>
        unfold ShsAt at hA2
        obtain ⟨z, r, e, h1, _⟩ := hA2
        exact ⟨z, r, t, u, e, rfl, h1⟩
    have as0 : as ≠ [] := fun z => by rw [z] at eas; cases eas
    obtain ⟨zl, gl, aL⟩ := last_ref as0
    obtain ⟨tl, htl, hSl⟩ := hA2.get gl
    have ep : ts = ts.dropLast ++ [tl] := by
      have e := (List.dropLast_concat_getLast h0).symm
      have e2 : ts.getLast h0 = tl := by
        rw [List.getLast_eq_getElem]
        rw [hl1] at htl
        obtain ⟨_, e⟩ := List.getElem?_eq_some_iff.mp htl
        exact e
      rw [e2] at e
      exact e
    have eL : (momsL ts).getLastD 0 = tl.moms.getLastD 0 := by
      have o7 := hok
      rw [ep] at o7 ⊢
      exact momsL_last o7
    have eF : (momsL ts).headD 0 = tf.moms.headD 0 := by
      have o7 := hok
      rw [ets] at o7 ⊢
      exact momsL_head o7
    have mf : tf ∈ ts := by rw [ets]; exact List.mem_cons_self
    have ml := List.mem_of_getElem? htl
    have aF : atI (as.map V.ref) 0 = some (.ref zf) := by rw [eas]; exact atI_nat (j := 0) rfl
    refine ⟨_, rfl, ?_⟩
    refine sh_ends hSl (okL_mem hok ml) (Nat.le_trans (nestL_mem ml) (by omega)) (fun R r => ⟨_, rfl, a, _, dx, _, _, rfl, h2, T.c_Over, T.a_Over_kept, rfl, _, rfl, t, _, _, _, rfl, rfl, sq_tup ht2, aL, r⟩) ?_
    refine sh_begins hSf (okL_mem hok mf) (Nat.le_trans (nestL_mem mf) (by omega)) (fun R r => ⟨_, rfl, a, _, dx, _, _, rfl, h2, T.c_Over, T.a_Over_kept, rfl, t, _, _, _, rfl, rfl, sq_tup ht2, aF, r⟩) ?_
    refine ⟨_, _, rfl, rfl, _, _, rfl, rfl, _, rfl, ?_⟩
    rw [← eL, ← eF]
    by_cases c1 : ((momsL ts).getLastD 0 : Int) < ((s_ : Nat) : Int) + ((momsL ts).headD 0 : Int)
    · rw [decide_eq_false (show ¬ ((s_ : Nat) : Int) ≤ (((momsL ts).getLastD 0 : Nat) : Int) - (((momsL ts).headD 0 : Nat) : Int) by omega)]
      refine iteF ?_
      refine ⟨_, rfl, _, rfl, a, _, dx, _, rfl, h2, T.c_Over, T.a_Over_many, Nat.le_of_ble_eq_true rfl, ?_⟩
      refine ⟨_, rfl, _, rfl, a, _, dx, _, rfl, upd_same, T.c_Over, T.a_Over_step, Nat.le_of_ble_eq_true rfl, ?_⟩
      rw [upd_upd]
      rw [show putF "step" (V.int (s_ : Nat)) (putF "many" (V.int (m : Nat)) [("kept", V.ref t)]) = overF t m s_ from rfl]
      have O3 : Oth a H (upd H2 a (.ins (OverC K) dx (overF t m s_))) := O1.upd
      have X03 : Ex H0 (upd H2 a (.ins (OverC K) dx (overF t m s_))) := Oth.ex X0 na0 O3
      have h3 : upd H2 a (.ins (OverC K) dx (overF t m s_)) a = some (.ins (OverC K) dx (overF t m s_)) := upd_same
      have hO : ShAt K (upd H2 a (.ins (OverC K) dx (overF t m s_))) (.ov ts m s_) a := by
        unfold ShAt
        exact ⟨dx, t, as, h3, by rw [upd_ne ta]; exact ht2, hA.mono X03⟩
      generalize upd H2 a (.ins (OverC K) dx (overF t m s_)) = H3 at O3 X03 hO h3 ⊢
      have hn9 : (Tr.ov ts m s_).nest ≤ 9 := by
        unfold Tr.nest
        omega
      refine ⟨_, rfl, a, dx, _, rfl, h3, rfl, a, ts, m, s_, rfl, hO, hn9, hok, hlm, fun H4 X4 => ⟨_, _, rfl, rfl, _, rfl, ?_⟩⟩
      have em : ((m * (momsL ts).length : Nat) : Int) = ((m : Nat) : Int) * ((momsL ts).length : Int) := by simp
      by_cases c2 : ((m : Nat) : Int) * ((momsL ts).length : Int) ≤ 1440
      · rw [decide_eq_false (show ¬ (1440 : Int) < ((m * (momsL ts).length : Nat) : Int) by omega)]
        refine iteF ?_
        refine ⟨_, rfl, a, dx, _, rfl, X4 _ _ h3, rfl, a, ts, m, s_, rfl, hO.mono X4, hn9, h0, hok, hlm, fun H5 X5 => ⟨_, _, rfl, rfl, _, rfl, ?_⟩⟩
        have O5 := O3.trans (ex_oth (X4.trans X5))
        by_cases c3 : nestL ts ≤ 7
        · rw [decide_eq_false (show ¬ (8 : Int) < (((Tr.ov ts m s_).nest : Nat) : Int) by unfold Tr.nest; omega)]
          refine iteF ?_
          exact q m s_ (by rw [eB, decide_eq_true c1, decide_eq_true c2, decide_eq_true c3]; rfl) rfl rfl H5 O5 (hO.mono (X4.trans X5))
        · rw [decide_eq_true (show (8 : Int) < (((Tr.ov ts m s_).nest : Nat) : Int) by unfold Tr.nest; omega)]
          refine iteT ?_
          exact qe (by rw [eB, decide_eq_false c3, Bool.and_false, Bool.and_false]) H5 O5
      · rw [decide_eq_true (show (1440 : Int) < ((m * (momsL ts).length : Nat) : Int) by omega)]
        exact iteT (qe (by rw [eB, decide_eq_false c2, Bool.false_and, Bool.and_false]) H4 (O3.trans (ex_oth X4)))
    · rw [decide_eq_true (show ((s_ : Nat) : Int) ≤ (((momsL ts).getLastD 0 : Nat) : Int) - (((momsL ts).headD 0 : Nat) : Int) by omega)]
      refine iteT ?_
      exact qe (by rw [eB, decide_eq_false c1]; rfl) H2 O1
theorem ovB_of {ts : List Tr} {m s : Nat} (h : (Tr.ov ts m s).ok) (hn : (Tr.ov ts m s).nest ≤ 8) : ovB ts (.int (m : Nat)) (.int (s : Nat)) = true := by
  unfold Tr.ok at h
  obtain ⟨h1, h2, h3, h4, h5, h6, h7⟩ := h
  unfold Tr.nest at hn
  have e4 : ((m : Nat) : Int) * ((momsL ts).length : Int) ≤ 1440 := by
    have : ((m * (momsL ts).length : Nat) : Int) ≤ 1440 := by omega
    rw [Int.natCast_mul] at this
    exact this
  unfold ovB
  rw [ris_of h7 h6, decide_eq_true h1, show isN 2 (.int (m : Nat)) = true from isN_nat (m := 2) h2, show isN 1 (.int (s : Nat)) = true from isN_nat (m := 1) h3]
  show (decide _ && (decide _ && decide _)) = true
  rw [decide_eq_true (by omega), decide_eq_true e4, decide_eq_true (by omega)]
  rfl
theorem over_newT {K : PySem.W.Frag} {H : Hp} {x dx p : Addr} {as : List Addr} {ts : List Tr} {m s : Nat} {Q : VK} {E : XK} (nx : H x = none) (nd : H dx = none) (ne : dx ≠ x) (hp : SqA H p (as.map V.ref)) (hA : ShsAt K H ts as) (hok : (Tr.ov ts m s).ok) (hn : (Tr.ov ts m s).nest ≤ 8) (q : ∀ H', Ex H H' → ShAt K H' (.ov ts m s) x → Q .non H') :
    sp_Over_init K [.ref x, .ref p, .int (m : Nat), .int (s : Nat)] (upd (upd H dx (.own x)) x (.ins (OverC K) dx [])) Q E := by
  have X1 := ex_made (o1 := .own x) (o2 := .ins (OverC K) dx []) nx nd ne
  have hb := ovB_of hok hn
  obtain ⟨o1, m2, hm, hml, hl2, hpl, hokL⟩ := ov_facts hok
  unfold Tr.nest at hn
  refine ⟨x, dx, p, as, ts, _, _, H, rfl, upd_same, nx, X1, hp, hA, by omega, hokL, by omega, by omega, cl_int _, cl_int _, fun m' s' _ em es H' k d => ?_, fun z => by rw [hb] at z; cases z⟩
  have e1 : m = m' := by injection em with em; omega
  have e2 : s = s' := by injection es with es; omega
  subst e1 e2
  exact q H' (fun b o e => k b o (ne_of_none e nx) (X1 _ _ e)) d
theorem ok_Over_init {P : Program} {w : World} {K : PySem.W.Frag} {mg : Str → Option Value} {base : Heap} (T : Env K mg) : Fc P w K mg base 64 (He.ma K (He.ga K "Over") "__init__") [] (fun vs H Q E => vs.length = 4 + ([] : List Str).length ∧ sp_Over_init K  (pick [.inl 0, .inl 1, .inl 2, .inl 3] vs [.int (2), .int (60)]) H Q E) := by
  obtain ⟨fd, D, F⟩ := fb_Over_init T
  exact Fb.shape D F 4 [] (fun us its => pick [.inl 0, .inl 1, .inl 2, .inl 3] us its) (by decide) (fun r1 r2 => pick_vals _ r1 r2) (fun T kV doc pm an cdv ct us ws its h1 h2 h3 => match us, ws, its, h1, h2, h3 with | [_, _, _, _], [], [_, _], _, _, _ => ⟨_, rfl, rfl⟩)
end
section
theorem fb_Over_moments {P : Program} {w : World} {K : PySem.W.Frag} {mg : Str → Option Value} {base : Heap} (T : Env K mg) {d L : Nat} (hL : 40 ≤ L) (r_Over_moments : Fc P w K mg base L (He.ma K (He.ga K "Over") "moments") [] (sp_Over_moments K d)) : ∃ fd, FunD K "moments" "Over.moments" (defArgs s_Over_moments) (defBody s_Over_moments) (defScope s_Over_moments) [] [] (He.ma K (He.ga K "Over") "moments") fd ∧ Fb P w K mg base (L + 2) (He.ma K (He.ga K "Over") "moments") fd ["self"] (sp_Over_moments K (d + 1)) := by
  obtain ⟨fd, F⟩ := T.f_Over_moments
  refine ⟨fd, F, fb_of F sc_Over_moments (fun vs H Q E h => ?_) (fun cdv A outer s H vs Q E hr h => ?_)⟩
  · obtain ⟨a, ps, m, s, rfl, _⟩ := h
    rfl
  · obtain ⟨a, ps, m, s_, rfl, hO, hn, hok, q⟩ := h
    refine ⟨_, (pss_cons (ps_set (i := 1) sc_Over_moments.nd rfl (Or.inl rfl) (c_call (ok_row_moments T hL r_Over_moments) (hr.mono (by omega)) T.g_row_moments T.k_row_moments takes0 (pa_cons (pe_fld (pv 0) (by rfl)) pa_nil)))
      (pss_cons (ps_set (i := 2) sc_Over_moments.nd rfl (Or.inl rfl) (pe_lst pa_nil))
      (pss_cons (ps_for (passes_of rfl) rfl (pi_range1 (by rfl) T.n_range (pa_cons (pe_fld (pv 0) (by rfl)) pa_nil)) (pg_name (i := 3) sc_Over_moments.nd rfl (Or.inr rfl))
      (pss_one (ps_expr (pe_bm PySem.F.plainAttrs_list PySem.F.slot_list_extend PySem.F.type_list_extend mt_extend (pv 2) (pa_cons (pe_lc (own := [("moment", 4)]) (by rfl) sc_Over_moments.nd (pi_list (pv 1)) (blkOk_by (own := [("moment", 4)]) (N := ["self", "own", "found", "time", "moment"]) (sc := defScope s_Over_moments) (by decide +kernel)) (fun _ _ _ _ _ => (pg_name (i := 4) sc_Over_moments.nd rfl (Or.inl rfl))) (fun _ _ _ _ _ => pts_nil) (fun _ _ _ _ _ => (pe_op op_add (pv 4) (pe_op op_mul (pv 3) (pe_fldK K (pv 0) (by rfl)))))) pa_nil)))))
      (pss_one (ps_ret (pv 2)))))), ?_⟩
    obtain ⟨_, m2, hm, hml, hl, hpl, hokL⟩ := ov_facts hok
    have hnL := ov_nest hn
    unfold Tr.moms at q
    unfold ShAt at hO
    obtain ⟨dx, kp, as, ha, hk, hA⟩ := hO
    generalize hns : momsL ps = ns at *
    refine ⟨_, rfl, a, _, dx, _, _, rfl, ha, T.c_Over, T.a_Over_kept, rfl, kp, as, ps, rfl, hk, hA, hnL, hokL, by rw [hns]; exact hl, fun w H1 X1 nw hw => ?_⟩
    rw [hns] at hw
    refine ⟨by show 0 ≤ sizeLine; decide, fun f nf => ?_⟩
    have nf0 := ex_fresh X1 nf
    have X2 := X1.trans (ex_new (o := .lst []) nf)
    have wf : w ≠ f := ne_of_none hw nf
    have af : a ≠ f := ne_of_none ha nf0
    have ha2 := X2 _ _ ha
    have hw2 := ex_new (o := .lst []) nf _ _ hw
    have hf2 : upd H1 f (.lst []) f = some (.lst []) := upd_same
    generalize upd H1 f (.lst []) = H2 at X2 ha2 hw2 hf2 ⊢
    refine ⟨_, rfl, a, _, dx, _, _, rfl, ha2, T.c_Over, T.a_Over_many, rfl, _, rfl, by omega, by omega, for_range (fun i σ H' => Oth f H2 H' ∧ ∃ v3 v4, σ = [some (.ref a), some (.ref w), some (.ref f), v3, v4] ∧ H' f = some (.lst (natV (overN ns i s_)))) ⟨Oth.refl _ _, _, _, rfl, hf2⟩ ?_ ?_⟩
    · rintro i σ H3 hi ⟨O3, v3, v4, rfl, hf3⟩
      have hi2 : i < m := by omega
      have hw3 := O3 _ _ wf hw2
      have ha3 := O3 _ _ af ha2
      have ll : (overN ns i s_).length = i * ns.length := overN_len ns i s_
      have l2 : i * ns.length ≤ m * ns.length := Nat.mul_le_mul_right _ (by omega)
      refine ⟨_, rfl, .inl ⟨rfl, _, sq_lst hf3⟩, _, rfl, w, rfl, ⟨_, sq_lst hw3⟩, fun A nA => lc_on ns (fun n : Nat => V.int n) L2.walk_list (fun n => some (.int ((n + i * s_ : Nat) : Int))) (fun H' => Ex H3 H') (fun H' z e => ex_mut e nA) (.refl _) (by omega) (fun H' e => sq_lst (e _ _ hw3)) (fun j n H4 acc N hn X4 hD la k => ?_) fun H4 X4 d4 => ?_⟩
      · refine ⟨rfl, _, rfl, _, rfl, _, rfl, a, _, dx, _, _, rfl, X4 _ _ ha3, T.c_Over, T.a_Over_step, rfl, _, _, rfl, rfl, .inl ⟨by omega, by omega⟩, _, _, rfl, rfl, acc, hD, la, ?_⟩
        have e : ((n : Nat) : Int) + (0 + ((i : Nat) : Int)) * ((s_ : Nat) : Int) = ((n + i * s_ : Nat) : Int) := by simp
        show N (upd H4 A (.lst (acc ++ [.int (((n : Nat) : Int) + (0 + ((i : Nat) : Int)) * ((s_ : Nat) : Int))])))
        rw [e]
        exact k H4 X4 hD
      · have ed : ns.filterMap (fun n => some (V.int ((n + i * s_ : Nat) : Int))) = natV (ns.map fun n => n + i * s_) := by
          unfold natV
          rw [List.filterMap_eq_map', List.map_map]
          rfl
        rw [ed] at d4
        refine ⟨f, A, _, _, rfl, rfl, X4 _ _ hf3, d4, sz_le (by rw [natV_len, natV_len, List.length_map, ll]; omega), (O3.trans (ex_oth X4)).upd, _, _, rfl, ?_⟩
        rw [upd_same, overN_succ]
        unfold natV
        rw [List.map_append]
    · rintro σ H3 ⟨O3, v3, v4, rfl, hf3⟩
      rw [show ((m : Nat) : Int).toNat = m by omega] at hf3
      exact ⟨_, rfl, q f H3 (Oth.ex X2 nf0 O3) nf0 hf3⟩
theorem ok_Over_moments {P : Program} {w : World} {K : PySem.W.Frag} {mg : Str → Option Value} {base : Heap} (T : Env K mg) {d L : Nat} (hL : 40 ≤ L) (r_Over_moments : Fc P w K mg base L (He.ma K (He.ga K "Over") "moments") [] (sp_Over_moments K d)) : Fc P w K mg base (L + 2) (He.ma K (He.ga K "Over") "moments") [] (sp_Over_moments K (d + 1)) := by
  obtain ⟨fd, D, F⟩ := fb_Over_moments T hL r_Over_moments
  exact F.all (D.bindsN fun _ _ _ _ _ _ us hl => match us, hl with | [_], _ => rfl)
theorem all_Over_moments {P : Program} {w : World} {K : PySem.W.Frag} {mg : Str → Option Value} {base : Heap} (T : Env K mg) : ∀ d, Fc P w K mg base (40 + 2 * d) (He.ma K (He.ga K "Over") "moments") [] (sp_Over_moments K d)
  | 0 => fc_no fun vs H Q E h => by
    obtain ⟨a, ps, m, s, _, _, h, _⟩ := h
    unfold Tr.nest at h
    omega
  | d + 1 => ok_Over_moments T (Nat.le_add_right 40 _) (all_Over_moments T d)
end
section
abbrev SpreadC (K : PySem.W.Frag) : Addr := He.ga K "Spread"
def sprF (kp hd : Addr) : List (Str × V) := [("kept", .ref kp), ("held", .ref hd)]
/-- at a a spread of these shorts -/
def SprAt (K : PySem.W.Frag) (H : Hp) (a : Addr) (ts : List Tr) : Prop := ∃ dx kp hd as, H a = some (.ins (SpreadC K) dx (sprF kp hd)) ∧ H kp = some (.tup (as.map V.ref)) ∧ H hd = some (.lst (natV (momsL ts))) ∧ ShsAt K H ts as
theorem SprAt.mono {K : PySem.W.Frag} {H H' : Hp} {a : Addr} {ts : List Tr} (h : SprAt K H a ts) (e : Ex H H') : SprAt K H' a ts := let ⟨dx, kp, hd, as, h1, h2, h3, h4⟩ := h; ⟨dx, kp, hd, as, e _ _ h1, e _ _ h2, e _ _ h3, h4.mono e⟩
def sprB (ts : List Tr) : Bool := risB ts && decide ((momsL ts).length ≤ 1440)
def sp_Spread_init (K : PySem.W.Frag) : Sp := fun vs H Q E => ∃ (a dx p : Addr) (as : List Addr) (ts : List Tr) (H0 : Hp), vs = [.ref a, .ref p] ∧ H a = some (.ins (SpreadC K) dx []) ∧ H0 a = none ∧ Ex H0 H ∧ SqA H0 p (as.map V.ref) ∧ ShsAt K H0 ts as ∧ nestL ts ≤ 8 ∧ okL_ ts ∧ ts.length ≤ 20000 ∧ ts.length ≤ 20000 ∧ (sprB ts = true → ∀ H', Oth a H H' → SprAt K H' a ts → Q .non H') ∧ (sprB ts = false → ∀ H', Oth a H H' → E (.ref (He.ga K "NoPiece")) none H')
theorem fb_Spread_init {P : Program} {w : World} {K : PySem.W.Frag} {mg : Str → Option Value} {base : Heap} (T : Env K mg) : ∃ fd, FunD K "__init__" "Spread.__init__" (defArgs s_Spread_init) (defBody s_Spread_init) (defScope s_Spread_init) [] [] (He.ma K (He.ga K "Spread") "__init__") fd ∧ Fb P w K mg base 64 (He.ma K (He.ga K "Spread") "__init__") fd ["self", "parts"] (sp_Spread_init K) := by
  obtain ⟨fd, F⟩ := T.f_Spread_init
  refine ⟨fd, F, fb_of F sc_Spread_init (fun vs H Q E h => ?_) (fun cdv A outer s H vs Q E hr h => ?_)⟩
  · obtain ⟨a, dx, p, as, ts, H0, rfl, _⟩ := h
    rfl
  · obtain ⟨a, dx, p, as, ts, H0, rfl, ha, na0, X0, hp, hA, hn, hok, hlm, hlt, q, qe⟩ := h
    refine ⟨_, (pss_cons (ps_fld (pv 0) (c_call (ok_shorts_in T) (hr.mono (by decide)) T.g_shorts_in T.k_shorts_in (takes_of rfl rfl rfl rfl) (pa_cons (pv 1) pa_nil)) rfl)
      (pss_cons (ps_if (pt_cmpR op_gt (c_call (ok_row_many T (Nat.le_add_right 40 _) (all_Over_means_many T 9)) (hr.mono (by decide)) T.g_row_many T.k_row_many (takes_of rfl rfl rfl rfl) (pa_cons (pe_fld (pv 0) (by rfl)) pa_nil)) (pe_k T.v_MOST_MOMENTS) (nomark _))
      (pss_one (ps_raise rfl (takes_of rfl rfl rfl rfl) (pmk_own PySem.F.excBase_ValueError T.x_NoPiece.x T.g_NoPiece T.x_NoPiece.kp (raises_own T.x_NoPiece.sub T.x_NoPiece.ty) rfl)))
      pss_nil)
      (pss_one (ps_fld (pv 0) (c_call (ok_row_moments T (Nat.le_add_right 40 _) (all_Over_moments T 9)) (hr.mono (by decide)) T.g_row_moments T.k_row_moments (takes_of rfl rfl rfl rfl) (pa_cons (pe_fld (pv 0) (by rfl)) pa_nil)) rfl)))), ?_⟩
    have hpH : SqA H p (as.map V.ref) := hp.imp (fun h => X0 _ _ h) (fun h => X0 _ _ h)
    refine ⟨_, rfl, p, as, ts, rfl, hpH, hA.mono X0, by omega, hok, hlt, fun hr2 t H1 X1 ht => ?_, fun hr2 H1 X1 => qe (by unfold sprB; rw [hr2]; rfl) H1 (ex_oth X1)⟩
    refine ⟨_, rfl, a, _, dx, [], rfl, X1 _ _ ha, T.c_Spread, T.a_Spread_kept, by decide, ?_⟩
    have ta : t ≠ a := fun z => by rw [z, X1 _ _ ha] at ht; cases ht
    have O1 : Oth a H (upd H1 a (.ins (SpreadC K) dx (putF "kept" (.ref t) []))) := (ex_oth X1).upd
    have h2 : upd H1 a (.ins (SpreadC K) dx (putF "kept" (.ref t) [])) a = some (.ins (SpreadC K) dx [("kept", .ref t)]) := upd_same
    have ht2 : upd H1 a (.ins (SpreadC K) dx (putF "kept" (.ref t) [])) t = some (.tup (as.map V.ref)) := by rw [upd_ne ta]; exact ht
    generalize upd H1 a (.ins (SpreadC K) dx (putF "kept" (.ref t) [])) = H2 at O1 h2 ht2 ⊢
    have X02 : Ex H0 H2 := Oth.ex X0 na0 O1
    have hA2 : ShsAt K H2 ts as := hA.mono X02
    refine ⟨_, rfl, a, _, dx, _, _, rfl, h2, T.c_Spread, T.a_Spread_kept, rfl, t, as, ts, rfl, ht2, hA2, by omega, hok, hlm, fun H3 X3 => ⟨_, _, rfl, rfl, _, rfl, ?_⟩⟩
    by_cases c : (momsL ts).length ≤ 1440
    · rw [decide_eq_false (show ¬ (1440 : Int) < (((momsL ts).length : Nat) : Int) by omega)]
      refine iteF ?_
      refine ⟨_, rfl, a, _, dx, _, _, rfl, X3 _ _ h2, T.c_Spread, T.a_Spread_kept, rfl, t, as, ts, rfl, X3 _ _ ht2, hA2.mono X3, by omega, hok, c, fun hd H4 X4 nhd hhd => ?_⟩
      have X34 := X3.trans X4
      have hda : hd ≠ a := fun z => by rw [z, X34 _ _ h2] at hhd; cases hhd
      refine ⟨_, rfl, a, _, dx, _, rfl, X34 _ _ h2, T.c_Spread, T.a_Spread_held, Nat.le_of_ble_eq_true rfl, ?_⟩
      have O4 : Oth a H (upd H4 a (.ins (SpreadC K) dx (sprF t hd))) := (O1.trans (ex_oth X34)).upd
      refine q (by unfold sprB; rw [hr2, decide_eq_true c]; rfl) _ O4 ⟨dx, t, hd, as, upd_same, by rw [upd_ne ta]; exact X34 _ _ ht2, by rw [upd_ne hda]; exact hhd, hA.mono (Oth.ex X0 na0 O4)⟩
    · rw [decide_eq_true (show (1440 : Int) < (((momsL ts).length : Nat) : Int) by omega)]
      exact iteT (qe (by unfold sprB; rw [decide_eq_false c, Bool.and_false]) H3 (O1.trans (ex_oth X3)))
theorem spread_new {K : PySem.W.Frag} {H : Hp} {x dx p : Addr} {as : List Addr} {ts : List Tr} {Q : VK} {E : XK} (nx : H x = none) (nd : H dx = none) (ne : dx ≠ x) (hp : SqA H p (as.map V.ref)) (hA : ShsAt K H ts as) (hn : nestL ts ≤ 8) (hok : okL_ ts) (hb : sprB ts = true) (q : ∀ H', Ex H H' → SprAt K H' x ts → Q .non H') :
    sp_Spread_init K [.ref x, .ref p] (upd (upd H dx (.own x)) x (.ins (SpreadC K) dx [])) Q E := by
  have X1 := ex_made (o1 := .own x) (o2 := .ins (SpreadC K) dx []) nx nd ne
  have hl : (momsL ts).length ≤ 1440 := of_decide_eq_true (Bool.and_eq_true_iff.mp hb).2
  have h2 := len_moms hok
  refine ⟨x, dx, p, as, ts, H, rfl, upd_same, nx, X1, hp, hA, hn, hok, by omega, by omega, fun _ H' k d => ?_, fun z => by rw [hb] at z; cases z⟩
  exact q H' (fun b o e => k b o (ne_of_none e nx) (X1 _ _ e)) d
theorem ok_Spread_init {P : Program} {w : World} {K : PySem.W.Frag} {mg : Str → Option Value} {base : Heap} (T : Env K mg) : Fc P w K mg base 64 (He.ma K (He.ga K "Spread") "__init__") [] (sp_Spread_init K ) := by
  obtain ⟨fd, D, F⟩ := fb_Spread_init T
  exact F.all (D.bindsN fun _ _ _ _ _ _ us hl => match us, hl with | [_, _], _ => rfl)
end
section
def sp_Spread_moments (K : PySem.W.Frag) : Sp := fun vs H Q _ => ∃ a ts, vs = [.ref a] ∧ SprAt K H a ts ∧ ∀ p, H p = none → Q (.ref p) (upd H p (.lst (natV (momsL ts))))
theorem fb_Spread_moments {P : Program} {w : World} {K : PySem.W.Frag} {mg : Str → Option Value} {base : Heap} (T : Env K mg) : ∃ fd, FunD K "moments" "Spread.moments" (defArgs s_Spread_moments) (defBody s_Spread_moments) (defScope s_Spread_moments) [] [] (He.ma K (He.ga K "Spread") "moments") fd ∧ Fb P w K mg base 1 (He.ma K (He.ga K "Spread") "moments") fd ["self"] (sp_Spread_moments K) := by
  obtain ⟨fd, F⟩ := T.f_Spread_moments
  refine ⟨fd, F, fb_of F sc_Spread_moments (fun vs H Q E h => ?_) (fun cdv A outer s H vs Q E hr h => ?_)⟩
  · obtain ⟨a, ts, rfl, _⟩ := h
    rfl
  · obtain ⟨a, ts, rfl, hO, q⟩ := h
    refine ⟨_, (pss_one (ps_ret (pe_callTy call_list_of (by rfl) T.n_list (by decide +kernel) (pa_cons (pe_fld (pv 0) (by rfl)) pa_nil)))), ?_⟩
    obtain ⟨dx, kp, hd, as, ha, hk, hh, hA⟩ := id hO
    exact ⟨_, rfl, a, _, dx, _, _, rfl, ha, T.c_Spread, T.a_Spread_held, rfl, hd, _, rfl, .inl (sq_lst hh), q⟩
theorem ok_Spread_moments {P : Program} {w : World} {K : PySem.W.Frag} {mg : Str → Option Value} {base : Heap} (T : Env K mg) : Fc P w K mg base 1 (He.ma K (He.ga K "Spread") "moments") [] (sp_Spread_moments K ) := by
  obtain ⟨fd, D, F⟩ := fb_Spread_moments T
  exact F.all (D.bindsN fun _ _ _ _ _ _ us hl => match us, hl with | [_], _ => rfl)
end
section
def natD (ns : List Nat) : List PyData := ns.map fun n : Nat => PyData.int (n : Int)
theorem dp_nat (K : PySem.W.Frag) (H : Hp) : ∀ ns : List Nat, DpAll K H (natV ns) (natD ns)
  | [] => .nil
  | n :: ns => .cons (.int _) (dp_nat K H ns)
theorem natD_lay : ∀ ns : List Nat, PyData.canLayAll0 (natD ns) = true
  | [] => rfl
  | n :: ns => by
    show (true && PyData.canLayAll0 (natD ns)) = true
    rw [natD_lay ns]
    rfl
theorem natD_dep : ∀ ns : List Nat, PyData.depthAll (natD ns) = 0
  | [] => rfl
  | n :: ns => by
    show max 0 (PyData.depthAll (natD ns)) = 0
    rw [natD_dep ns]
    rfl
theorem shaped_nat (ns : List Nat) : SeqAt.shaped (.list (natD ns)) = true := by
  show (PyData.canLayAll0 (natD ns) && decide (PyData.depthAll (natD ns) + 1 ≤ 64)) = true
  rw [natD_lay, natD_dep]
  rfl
end
section
theorem eqv_natD : ∀ a b : List Nat, PyData.eqvAll (natD a) (natD b) = decide (a = b)
  | [], [] => rfl
  | [], _ :: _ => rfl
  | _ :: _, [] => rfl
  | x :: a, y :: b => by
    show (decide (((x : Nat) : Int) = ((y : Nat) : Int)) && PyData.eqvAll (natD a) (natD b)) = _
    rw [eqv_natD a b]
    by_cases h : x = y
    · subst h
      simp
    · have : ¬ ((x : Nat) : Int) = ((y : Nat) : Int) := fun z => h (by omega)
      simp [this, h]
end
section
def sp_Spread_eq (K : PySem.W.Frag) : Sp := fun vs H Q _ => ∃ a x, vs = [.ref a, x] ∧ ((∃ ts b us, SprAt K H a ts ∧ x = .ref b ∧ SprAt K H b us ∧ Q (.bl (decide (momsL ts = momsL us))) H) ∨ (∃ t, TyX K H x t ∧ PySem.W.kitOne K t (.ref (SpreadC K)) = some false ∧ Q (.bl false) H))
theorem fb_Spread_eq {P : Program} {w : World} {K : PySem.W.Frag} {mg : Str → Option Value} {base : Heap} (T : Env K mg) : ∃ fd, FunD K "__eq__" "Spread.__eq__" (defArgs s_Spread_eq) (defBody s_Spread_eq) (defScope s_Spread_eq) [] [] (He.ma K (He.ga K "Spread") "__eq__") fd ∧ Fb P w K mg base 1 (He.ma K (He.ga K "Spread") "__eq__") fd ["self", "other"] (sp_Spread_eq K) := by
  obtain ⟨fd, F⟩ := T.f_Spread_eq
  refine ⟨fd, F, fb_of F sc_Spread_eq (fun vs H Q E h => ?_) (fun cdv A outer s H vs Q E hr h => ?_)⟩
  · obtain ⟨a, x, rfl, _⟩ := h
    rfl
  · obtain ⟨a, x, rfl, q⟩ := h
    refine ⟨_, (pss_one (ps_ret (pe_and (pe_callB call_isi (by rfl) T.n_isinstance (by decide +kernel) (pa_cons (pv 1) (pa_cons (pe_glob (v := .ref _) (by rfl) T.g_Spread rfl) pa_nil))) (pe_one (pe_cmpR (op_eqD hr.rm.units) (pe_fld (pv 0) (by rfl)) (pe_fld (pv 1) (by rfl)) (nomark _)))))), ?_⟩
    rcases q with ⟨ts, b, us, hO, rfl, hb, q⟩ | ⟨t, ty, kt, q⟩
    · obtain ⟨dx, kp, hd, as, ha, hk, hh, hA⟩ := id hO
      obtain ⟨dy, kq, he, bs, hb1, hb2, hb3, hb4⟩ := id hb
      refine ⟨_, rfl, _, _, _, _, _, rfl, .own _, ty_ins T.i_Spread T.c_Spread hb1, T.kit_Spread_Spread, _, rfl, _, rfl, _, _, _, _, _, rfl, ha, T.c_Spread, T.a_Spread_held, rfl, _, rfl, _, _, _, _, _, rfl, hb1, T.c_Spread, T.a_Spread_held, rfl, ?_⟩
      refine ⟨_, _, .lst (sq_lst hh) (dp_nat K _ _), .lst (sq_lst hb3) (dp_nat K _ _), shaped_nat _, shaped_nat _, ?_⟩
      have e1 : PyData.eqv (.list (natD (momsL ts))) (.list (natD (momsL us))) = decide (momsL ts = momsL us) := by
        show PyData.eqvAll (natD (momsL ts)) (natD (momsL us)) = _
        rw [eqv_natD]
      rw [e1]
      exact q
    · exact ⟨_, rfl, _, _, _, _, false, rfl, .own _, ty, kt, _, rfl, iteF q⟩
theorem ok_Spread_eq {P : Program} {w : World} {K : PySem.W.Frag} {mg : Str → Option Value} {base : Heap} (T : Env K mg) : Fc P w K mg base 1 (He.ma K (He.ga K "Spread") "__eq__") [] (sp_Spread_eq K ) := by
  obtain ⟨fd, D, F⟩ := fb_Spread_eq T
  exact F.all (D.bindsN fun _ _ _ _ _ _ us hl => match us, hl with | [_, _], _ => rfl)
end
section
def sp_first_size (K : PySem.W.Frag) : Sp := fun vs H Q _ => ∃ (p : Addr) (ns : List Nat) (pap : List (List Int)) (b s : Nat), vs = [.ref p, .int (b : Nat), .int (s : Nat)] ∧ PapAt K H p pap ∧ Good ns pap ∧ 1 ≤ s ∧ b + s ≤ ns.length ∧ ns.length ≤ 1000 ∧ ∀ f : Nat, 1 ≤ f → f ≤ s → NoCut pap b f → (f < s → pg pap b (f - 1) + pg pap (b + f) (s - f - 1) = pg pap b (s - 1)) → Q (.int (f : Nat)) H
theorem fb_first_size {P : Program} {w : World} {K : PySem.W.Frag} {mg : Str → Option Value} {base : Heap} (T : Env K mg) : ∃ fd, FunD K "first_size" "first_size" (defArgs s_first_size) (defBody s_first_size) (defScope s_first_size) [] [] (He.ga K "first_size") fd ∧ Fb P w K mg base 1 (He.ga K "first_size") fd ["paper", "begin", "size"] (sp_first_size K) := by
  obtain ⟨fd, F⟩ := T.f_first_size
  refine ⟨fd, F, fb_of F sc_first_size (fun vs H Q E h => ?_) (fun cdv A outer s H vs Q E hr h => ?_)⟩
  · obtain ⟨p, ns, pap, b, s, rfl, _⟩ := h
    rfl
  · obtain ⟨p, ns, pap, b, s, rfl, hP, hG, s1, hbs, hl, q⟩ := h
    refine ⟨_, (pss_cons (ps_for (passes_of rfl) rfl (pi_range2 (by rfl) T.n_range (pa_cons pe_int (pa_cons (pv 2) pa_nil))) (pg_name (i := 3) sc_first_size.nd rfl (Or.inl rfl))
      (pss_one (ps_if (pt_cmpR op_eq (pe_op op_add (pe_ix (ix_seqA K) (pe_ix (ix_seqA K) (pv 0) (pv 1) (fun _ _ => rfl)) (pe_op op_sub (pv 3) pe_int) (fun _ _ => rfl)) (pe_ix (ix_seqA K) (pe_ix (ix_seqA K) (pv 0) (pe_op op_add (pv 1) (pv 3)) (fun _ _ => rfl)) (pe_op op_sub (pe_op op_sub (pv 2) (pv 3)) pe_int) (fun _ _ => rfl))) (pe_ix (ix_seqA K) (pe_ix (ix_seqA K) (pv 0) (pv 1) (fun _ _ => rfl)) (pe_op op_sub (pv 2) pe_int) (fun _ _ => rfl)) (nomark _))
      (pss_one (ps_ret (pv 3)))
      pss_nil)))
      (pss_one (ps_ret (pv 2)))), ?_⟩
    have pl : pap.length = ns.length := hG.1.1
    refine ⟨_, rfl, _, _, rfl, ⟨(by decide), ⟨(by decide), ⟨(by omega), (by omega)⟩⟩⟩, ?_⟩
    have en : ((s : Int) - 1).toNat = s - 1 := by omega
    rw [en]
    refine for_range (fun i σ H' => H' = H ∧ (∀ c, 1 ≤ c → c ≤ i → pg pap b (c - 1) + pg pap (b + c) (s - c - 1) ≠ pg pap b (s - 1)) ∧ ∃ v, σ = [some (.ref p), some (.int (b : Nat)), some (.int (s : Nat)), v]) ⟨rfl, fun c h1 h2 => by omega, _, rfl⟩ ?_ ?_
    · rintro i σ H1 hi ⟨rfl, hn, v, rfl⟩
      have ei : (1 : Int) + (i : Int) = ((i + 1 : Nat) : Int) := by omega
      rw [ei]
      have l1 : i < (pap.getD b []).length := good_len hG (by omega)
      have l2 : s - (i + 1) - 1 < (pap.getD (b + (i + 1)) []).length := good_len hG (by omega)
      have l3 : s - 1 < (pap.getD b []).length := good_len hG (by omega)
      refine ⟨_, rfl, _, rfl, pap_ix hP rfl (by omega) fun b1 h1 => ⟨_, rfl, _, _, rfl, rfl, row_ix h1 (j := i) (by omega) l1 ⟨_, rfl, _, rfl, _, rfl, _, _, rfl, rfl, pap_ix hP (i := b + (i + 1)) (by omega) (by omega) fun b2 h2 => ?_⟩⟩⟩
      refine ⟨_, rfl, _, rfl, _, _, rfl, rfl, _, _, rfl, rfl, row_ix h2 (j := s - (i + 1) - 1) (by omega) l2 ⟨_, _, rfl, rfl, _, rfl, _, rfl, pap_ix hP rfl (by omega) fun b3 h3 => ⟨_, rfl, _, _, rfl, rfl, row_ix h3 (j := s - 1) (by omega) l3 ?_⟩⟩⟩
      refine ⟨rfl, _, rfl, ?_⟩
      rw [vint_dec]
      refine ite2 (fun c => ?_) (fun c => ?_)
      · have c1 := of_decide_eq_true c
        have e : pg pap b (i + 1 - 1) + pg pap (b + (i + 1)) (s - (i + 1) - 1) = pg pap b (s - 1) := c1
        exact ⟨_, rfl, q (i + 1) (by omega) (by omega) (first_nocut hG hbs (by omega) (by omega) e (fun c h1 h2 => hn c h1 (by omega))) (fun _ => e)⟩
      · refine ⟨rfl, fun c' h1 h2 => ?_, _, rfl⟩
        by_cases d : c' = i + 1
        · rw [d]
          exact fun z => c (decide_eq_true z)
        · exact hn c' h1 (by omega)
    · rintro σ H1 ⟨rfl, hn, v, rfl⟩
      exact ⟨_, rfl, q s s1 (Nat.le_refl _) (fun c h1 h2 => hn c h1 (by omega)) (fun z => absurd z (Nat.lt_irrefl _))⟩
theorem ok_first_size {P : Program} {w : World} {K : PySem.W.Frag} {mg : Str → Option Value} {base : Heap} (T : Env K mg) : Fc P w K mg base 1 (He.ga K "first_size") [] (sp_first_size K ) := by
  obtain ⟨fd, D, F⟩ := fb_first_size T
  exact F.all (D.bindsN fun _ _ _ _ _ _ us hl => match us, hl with | [_, _, _], _ => rfl)
end
section
def sp_over_part (K : PySem.W.Frag) : Sp := fun vs H Q _ => ∃ (r p : Addr) (ns : List Nat) (pap : List (List Int)) (b s : Nat), vs = [.ref r, .ref p, .int (b : Nat), .int (s : Nat)] ∧ SqL K H r (natV ns) ∧ PapAt K H p pap ∧ Good ns pap ∧ 2 ≤ s ∧ b + s ≤ ns.length ∧ ns.length ≤ 1000 ∧ NoCut pap b s ∧ ∀ (f : Nat) H', f ∈ firstP ns b s → pg pap b (f - 1) = pg pap b (s - 1) - 1 → Ex H H' → Q (.int (f : Nat)) H'
theorem fb_over_part {P : Program} {w : World} {K : PySem.W.Frag} {mg : Str → Option Value} {base : Heap} (T : Env K mg) : ∃ fd, FunD K "over_part" "over_part" (defArgs s_over_part) (defBody s_over_part) (defScope s_over_part) [] [] (He.ga K "over_part") fd ∧ Fb P w K mg base 3 (He.ga K "over_part") fd ["row", "paper", "begin", "size"] (sp_over_part K) := by
  obtain ⟨fd, F⟩ := T.f_over_part
  refine ⟨fd, F, fb_of F sc_over_part (fun vs H Q E h => ?_) (fun cdv A outer s H vs Q E hr h => ?_)⟩
  · obtain ⟨r, p, ns, pap, b, s, rfl, _⟩ := h
    rfl
  · obtain ⟨r, p, ns, pap, b, s, rfl, hw, hP, hG, s1, hbs, hl, hN, q⟩ := h
    refine ⟨_, (pss_cons (ps_set (i := 4) sc_over_part.nd rfl (Or.inr rfl) (pe_op op_sub (pe_ix (ix_seqA K) (pe_ix (ix_seqA K) (pv 1) (pv 2) (fun _ _ => rfl)) (pe_op op_sub (pv 3) pe_int) (fun _ _ => rfl)) pe_int))
      (pss_one (ps_ret (pe_ix ix_list (pe_lc (own := [("part", 5)]) (by rfl) sc_over_part.nd (pi_list (c_call (ok_first_parts T) (hr.mono (by decide)) T.g_first_parts T.k_first_parts takes0 (pa_cons (pv 0) (pa_cons (pv 2) (pa_cons (pv 3) pa_nil))))) (blkOk_by (own := [("part", 5)]) (N := ["row", "paper", "begin", "size", "wanted", "part"]) (sc := defScope s_over_part) (by decide +kernel)) (fun _ _ _ _ _ => (pg_name (i := 5) sc_over_part.nd rfl (Or.inl rfl))) (fun _ _ _ _ _ => (pts_one (pt_cmpR op_eq (pe_ix (ix_seqA K) (pe_ix (ix_seqA K) (pv 1) (pv 2) (fun _ _ => rfl)) (pe_op op_sub (pv 5) pe_int) (fun _ _ => rfl)) (pv 4) (nomark _)))) (fun _ _ _ _ _ => (pv 5))) pe_int (fun _ _ => rfl))))), ?_⟩
    have pl : pap.length = ns.length := hG.1.1
    have l3 : s - 1 < (pap.getD b []).length := good_len hG (by omega)
    refine ⟨_, rfl, _, rfl, pap_ix hP rfl (by omega) fun b1 h1 => ⟨_, rfl, _, _, rfl, rfl, row_ix h1 (j := s - 1) (by omega) l3 ?_⟩⟩
    refine ⟨_, _, rfl, rfl, _, rfl, _, rfl, _, rfl, _, _, _, _, rfl, hw, hbs, hl, ?_⟩
    intro f H2 X2 nf hf
    have l1 : (firstP ns b s).length ≤ 1000 := by
      unfold firstP
      have := List.length_filterMap_le (fun i => if firstB ns b s i = true then some (i + 1) else none) (List.range (s - 1))
      rw [List.length_range] at this
      omega
    have hP2 := hP.mono X2
    refine ⟨_, rfl, ⟨_, (sq_lst hf)⟩, ?_⟩
    intro B nB
    refine lc_on (firstP ns b s) (fun n : Nat => V.int n) L2.walk_list (fun n => if pg pap b (n - 1) = pg pap b (s - 1) - 1 then some (.int (n : Nat)) else none) (fun H' => Ex H2 H') (fun H' l e => ex_mut e nB) (.refl _) (by omega) (fun H' e => sq_lst (e _ _ hf)) (fun i n H' acc N hn e hD la k => ?_) (fun H3 X3 hD3 => ?_)
    · have hP' := hP2.mono e
      have m1 := firstP_lt (List.mem_of_getElem? hn)
      have f2 : n - 1 < (pap.getD b []).length := good_len hG (by omega)
      refine ⟨rfl, _, rfl, _, rfl, pap_ix hP' rfl (by omega) fun b1 h1 => ⟨_, rfl, _, _, rfl, rfl, row_ix h1 (j := n - 1) (by omega) f2 ⟨_, rfl, rfl, _, rfl, ?_⟩⟩⟩
      have z := k H' e hD
      rw [vint_dec]
      refine ite2 (fun c => ?_) (fun c => ?_)
      · have c1 : pg pap b (n - 1) = pg pap b (s - 1) - 1 := of_decide_eq_true c
        rw [if_pos c1] at z
        exact ⟨_, rfl, acc, hD, la, z⟩
      · rw [if_neg (show ¬ pg pap b (n - 1) = pg pap b (s - 1) - 1 from fun z => c (decide_eq_true z))] at z
        exact z
    · obtain ⟨m, hm, em⟩ := nocut_ov hG s1 hbs hN
      cases hl3 : (firstP ns b s).filterMap (fun n => if pg pap b (n - 1) = pg pap b (s - 1) - 1 then some (V.int (n : Nat)) else none) with
      | nil =>
        have : V.int (m : Nat) ∈ (firstP ns b s).filterMap (fun n => if pg pap b (n - 1) = pg pap b (s - 1) - 1 then some (V.int (n : Nat)) else none) := List.mem_filterMap.mpr ⟨m, hm, if_pos em⟩
        rw [hl3] at this
        cases this
      | cons v rest =>
        have hv : v ∈ (firstP ns b s).filterMap (fun n => if pg pap b (n - 1) = pg pap b (s - 1) - 1 then some (V.int (n : Nat)) else none) := by rw [hl3]; exact List.mem_cons_self
        obtain ⟨n, hn, en⟩ := List.mem_filterMap.mp hv
        split at en
        · rename_i c
          injection en with en
          subst en
          rw [hl3] at hD3
          exact ⟨B, _, _, _, rfl, rfl, sq_lst hD3, (atI_nat (j := 0) rfl : atI (V.int (n : Nat) :: rest) ((0 : Nat) : Int) = _), q n H3 hn c (X2.trans X3)⟩
        · cases en
theorem ok_over_part {P : Program} {w : World} {K : PySem.W.Frag} {mg : Str → Option Value} {base : Heap} (T : Env K mg) : Fc P w K mg base 3 (He.ga K "over_part") [] (sp_over_part K ) := by
  obtain ⟨fd, D, F⟩ := fb_over_part T
  exact F.all (D.bindsN fun _ _ _ _ _ _ us hl => match us, hl with | [_, _, _, _], _ => rfl)
end
section
theorem okL_app : ∀ {a b : List Tr}, okL_ a → okL_ b → okL_ (a ++ b)
  | [], b, _, h => h
  | t :: a, b, h1, h2 => by
    unfold okL_ at h1
    show okL_ (t :: (a ++ b))
    unfold okL_
    exact ⟨h1.1, okL_app h1.2 h2⟩
theorem nestL_app (a b : List Tr) : nestL (a ++ b) = max (nestL a) (nestL b) := by
  induction a with
  | nil => simp [nestL]
  | cons t a ih => simp [nestL, ih, Nat.max_assoc]
theorem okL_one {t : Tr} (h : t.ok) : okL_ [t] := by
  unfold okL_
  exact ⟨h, by unfold okL_; trivial⟩
theorem nestL_one (t : Tr) : nestL [t] = t.nest := by simp [nestL]
theorem pcsL_one (t : Tr) : pcsL [t] = t.pcs := by simp [pcsL]
theorem at_ok (n : Nat) : (Tr.at n).ok := by
  unfold Tr.ok
  trivial
theorem at_moms (n : Nat) : (Tr.at n).moms = [n] := by rw [Tr.moms]
theorem at_nest (n : Nat) : (Tr.at n).nest = 0 := by rw [Tr.nest]
theorem momsL_one (t : Tr) : momsL [t] = t.moms := by simp [momsL]
end
section
def Cuts (ns : List Nat) (pap : List (List Int)) (b s : Nat) (ts : List Tr) : Prop := okL_ ts ∧ momsL ts = seg ns b s ∧ (s = 0 → ts = []) ∧ (1 ≤ s → (pcsL ts : Int) = pg pap b (s - 1)) ∧ (1 ≤ s → 2 ^ nestL ts ≤ s)
theorem seg_sorted {ns : List Nat} (h : ns.Pairwise (· < ·)) (b s : Nat) : (seg ns b s).Pairwise (· < ·) := by
  unfold seg
  exact (h.sublist (List.drop_sublist _ _)).sublist (List.take_sublist _ _)
theorem gN_lt {ns : List Nat} (h : ns.Pairwise (· < ·)) {i j : Nat} (hij : i < j) (hj : j < ns.length) : gN ns i < gN ns j := by
  unfold gN
  rw [List.getD_eq_getElem?_getD, List.getD_eq_getElem?_getD, List.getElem?_eq_getElem (by omega), List.getElem?_eq_getElem hj]
  exact List.pairwise_iff_getElem.mp h i j (by omega) hj hij
theorem seg_head {ns : List Nat} {b s : Nat} (h : b + s ≤ ns.length) (hs : 1 ≤ s) : (seg ns b s).headD 0 = gN ns b := by
  have e := seg_get h (show 0 < s by omega)
  rw [List.headD_eq_head?_getD, List.head?_eq_getElem?, e]
  rfl
theorem seg_last {ns : List Nat} {b s : Nat} (h : b + s ≤ ns.length) (hs : 1 ≤ s) : (seg ns b s).getLastD 0 = gN ns (b + (s - 1)) := by
  have e := seg_get h (show s - 1 < s by omega)
  rw [List.getLastD_eq_getLast?, List.getLast?_eq_getElem?, seg_len h, e]
  rfl
/-- one short for a stretch that is cut nowhere -/
def CutO (ns : List Nat) (pap : List (List Int)) (b s : Nat) (t : Tr) : Prop := t.ok ∧ t.moms = seg ns b s ∧ (t.pcs : Int) = pg pap b (s - 1) ∧ 2 ^ t.nest ≤ s
theorem cut_at {ns : List Nat} {pap : List (List Int)} (h : Good ns pap) {b : Nat} (hb : b < ns.length) : CutO ns pap b 1 (.at (gN ns b)) := by
  refine ⟨at_ok _, by rw [at_moms, seg_one hb], ?_, by rw [at_nest]; decide⟩
  rw [good_one h hb]
  simp [Tr.pcs]
theorem cut_ov {ns : List Nat} {pap : List (List Int)} (h : Good ns pap) (hw : ns.Pairwise (· < ·)) {b s p : Nat} (hb : b + s ≤ ns.length) (hl : ns.length ≤ 1440) (hp : p ∈ firstP ns b s) (e : pg pap b (p - 1) = pg pap b (s - 1) - 1) {ts : List Tr} (ht : Cuts ns pap b p ts) : CutO ns pap b s (.ov ts (s / p) (gN ns (b + p) - gN ns b)) := by
  obtain ⟨p1, p2, p3, p4⟩ := firstP_lt hp
  obtain ⟨t1, t2, _, t4, t5⟩ := ht
  have gl := gN_lt hw (show b < b + p by omega) (by omega)
  have gl2 : gN ns (b + (p - 1)) < gN ns (b + p) := gN_lt hw (by omega) (by omega)
  have sm : s / p * p = s := Nat.div_mul_cancel (Nat.dvd_of_mod_eq_zero p3)
  have m2 : 2 ≤ s / p := by
    by_cases c : 2 ≤ s / p
    · exact c
    · have : s / p * p ≤ 1 * p := Nat.mul_le_mul_right _ (by omega)
      omega
  have sl := seg_len (show b + p ≤ ns.length by omega)
  have tne : ts ≠ [] := fun z => by
    rw [z] at t2
    have : (seg ns b p).length = 0 := by rw [← t2]; simp [momsL]
    omega
  refine ⟨?_, ?_, ?_, ?_⟩
  · unfold Tr.ok
    refine ⟨tne, m2, by omega, by rw [t2, sl, sm]; omega, ?_, by rw [t2]; exact seg_sorted hw _ _, t1⟩
    rw [t2, seg_last (by omega) p1, seg_head (by omega) p1]
    omega
  · have := over_seg p4 (show gN ns (b + p) = gN ns b + (gN ns (b + p) - gN ns b) by omega) p1 hb (s / p) (by omega)
    rw [sm] at this
    rw [Tr.moms, t2, this]
  · have := t4 p1
    have e2 : (Tr.ov ts (s / p) (gN ns (b + p) - gN ns b)).pcs = 1 + pcsL ts := by rw [Tr.pcs]
    rw [e2]
    omega
  · have := t5 p1
    have e2 : (Tr.ov ts (s / p) (gN ns (b + p) - gN ns b)).nest = 1 + nestL ts := by rw [Tr.nest]
    rw [e2, Nat.pow_add]
    have : 2 * p ≤ s / p * p := Nat.mul_le_mul_right _ m2
    omega
/-- what is found so far, of a stretch from b on; what is left -/
def Left (ns : List Nat) (pap : List (List Int)) (b s b' s' : Nat) (ts : List Tr) : Prop := b' + s' = b + s ∧ b ≤ b' ∧ okL_ ts ∧ momsL ts = seg ns b (b' - b) ∧ (s' = s → ts = []) ∧ (1 ≤ s → (pcsL ts : Int) + (if s' = 0 then 0 else pg pap b' (s' - 1)) = pg pap b (s - 1)) ∧ (1 ≤ s → 2 ^ nestL ts ≤ s)
theorem left_zero (ns : List Nat) (pap : List (List Int)) (b s : Nat) : Left ns pap b s b s [] := by
  refine ⟨rfl, Nat.le_refl _, ?_, ?_, fun _ => rfl, fun h => ?_, fun h => ?_⟩
  · unfold okL_
    trivial
  · unfold seg
    simp [momsL]
  · rw [if_neg (by omega)]
    simp [pcsL]
  · simp [nestL]
    omega
theorem left_end {ns : List Nat} {pap : List (List Int)} {b s b' : Nat} {ts : List Tr} (h : Left ns pap b s b' 0 ts) : Cuts ns pap b s ts := by
  obtain ⟨h1, h2, h3, h4, h5, h6, h7⟩ := h
  refine ⟨h3, by rw [h4, show b' - b = s by omega], fun z => h5 z.symm, fun hs => ?_, h7⟩
  have := h6 hs
  rw [if_pos rfl] at this
  omega
theorem left_step {ns : List Nat} {pap : List (List Int)} {b s b' s' f : Nat} {ts : List Tr} {t : Tr} (h : Left ns pap b s b' s' ts) (hs : 1 ≤ s') (f1 : 1 ≤ f) (f2 : f ≤ s') (fe : f < s' → pg pap b' (f - 1) + pg pap (b' + f) (s' - f - 1) = pg pap b' (s' - 1)) (ht : CutO ns pap b' f t) : Left ns pap b s (b' + f) (s' - f) (ts ++ [t]) := by
  obtain ⟨h1, h2, h3, h4, h5, h6, h7⟩ := h
  obtain ⟨k1, k2, k3, k4⟩ := ht
  refine ⟨by omega, by omega, okL_app h3 (okL_one k1), ?_, fun z => by omega, fun hs1 => ?_, fun hs1 => ?_⟩
  · rw [momsL_app, momsL_one, h4, k2, ← sg_app (ns := ns) (b := b) (c := b' - b) (s := b' + f - b) (by omega)]
    rw [show b + (b' - b) = b' by omega, show b' + f - b - (b' - b) = f by omega]
  · have := h6 hs1
    rw [if_neg (by omega)] at this
    rw [pcsL_app, pcsL_one]
    by_cases c : f < s'
    · have := fe c
      rw [if_neg (by omega)]
      omega
    · have e : f = s' := by omega
      rw [if_pos (by omega)]
      subst e
      omega
  · have := h7 hs1
    rw [nestL_app, nestL_one]
    rcases Nat.le_total (nestL ts) t.nest with c | c
    · rw [Nat.max_eq_right c]
      omega
    · rw [Nat.max_eq_left c]
      exact this
theorem nest5 {n s : Nat} (h : 2 ^ n ≤ s) (hs : s ≤ 255) : n ≤ 7 := by
  by_cases c : n ≤ 7
  · exact c
  · have : 2 ^ 8 ≤ 2 ^ n := Nat.pow_le_pow_right (by decide) (by omega)
    omega
def sp_short_of (K : PySem.W.Frag) (d : Nat) : Sp := fun vs H Q _ => ∃ (r p : Addr) (ns : List Nat) (pap : List (List Int)) (b s : Nat), vs = [.ref r, .ref p, .int (b : Nat), .int (s : Nat)] ∧ SqL K H r (natV ns) ∧ PapAt K H p pap ∧ Good ns pap ∧ ns.Pairwise (· < ·) ∧ 1 ≤ s ∧ s < 2 ^ d ∧ b + s ≤ ns.length ∧ ns.length ≤ 40 ∧ NoCut pap b s ∧ ∀ (a : Addr) (t : Tr) H', Ex H H' → H a = none → ShAt K H' t a → CutO ns pap b s t → Q (.ref a) H'
def sp_shorts_of (K : PySem.W.Frag) (d : Nat) : Sp := fun vs H Q _ => ∃ (r p : Addr) (ns : List Nat) (pap : List (List Int)) (b s : Nat), vs = [.ref r, .ref p, .int (b : Nat), .int (s : Nat)] ∧ SqL K H r (natV ns) ∧ PapAt K H p pap ∧ Good ns pap ∧ ns.Pairwise (· < ·) ∧ s < 2 ^ d ∧ b + s ≤ ns.length ∧ ns.length ≤ 40 ∧ ∀ (f : Addr) (as : List Addr) (ts : List Tr) H', Ex H H' → H f = none → H' f = some (.lst (as.map V.ref)) → ShsAt K H' ts as → Cuts ns pap b s ts → Q (.ref f) H'
end
section
theorem fb_shorts_of {P : Program} {w : World} {K : PySem.W.Frag} {mg : Str → Option Value} {base : Heap} (T : Env K mg) {d L : Nat} (hL : 70 ≤ L) (r_short_of : Fc P w K mg base L (He.ga K "short_of") [] (sp_short_of K d)) : ∃ fd, FunD K "shorts_of" "shorts_of" (defArgs s_shorts_of) (defBody s_shorts_of) (defScope s_shorts_of) [] [] (He.ga K "shorts_of") fd ∧ Fb P w K mg base (L + 1) (He.ga K "shorts_of") fd ["row", "paper", "begin", "size"] (sp_shorts_of K (d)) := by
  obtain ⟨fd, F⟩ := T.f_shorts_of
  refine ⟨fd, F, fb_of F sc_shorts_of (fun vs H Q E h => ?_) (fun cdv A outer s H vs Q E hr h => ?_)⟩
  · obtain ⟨r, p, ns, pap, b, s, rfl, _⟩ := h
    rfl
  · obtain ⟨r, p, ns, pap, b, s, rfl, hw, hP, hG, pw, s2, hbs, hl, q⟩ := h
    refine ⟨_, (pss_cons (ps_set (i := 4) sc_shorts_of.nd rfl (Or.inl rfl) (pe_lst pa_nil))
      (pss_cons (ps_while (passes_of rfl) (pt_cmpR op_gt (pv 3) pe_int (nomark _))
      (pss_cons (ps_set (i := 5) sc_shorts_of.nd rfl (Or.inl rfl) (c_call (ok_first_size T) (hr.mono (by omega)) T.g_first_size T.k_first_size takes0 (pa_cons (pv 1) (pa_cons (pv 2) (pa_cons (pv 3) pa_nil)))))
      (pss_cons (ps_expr (pe_bm PySem.F.plainAttrs_list PySem.F.slot_list_append PySem.F.type_list_append mt_append (pv 4) (pa_cons (c_call r_short_of (hr.mono (by omega)) T.g_short_of T.k_short_of takes0 (pa_cons (pv 0) (pa_cons (pv 1) (pa_cons (pv 2) (pa_cons (pv 5) pa_nil))))) pa_nil)))
      (pss_cons (ps_aug (i := 2) sc_shorts_of.nd rfl (Or.inl rfl) (pv 5) ip_add)
      (pss_one (ps_aug (i := 3) sc_shorts_of.nd rfl (Or.inl rfl) (pv 5) ip_sub))))))
      (pss_one (ps_ret (pv 4))))), ?_⟩
    refine ⟨by show 0 ≤ sizeLine; decide, fun f nf => ?_⟩
    have X1 := ex_new (o := .lst []) nf
    have hf1 : upd H f (.lst []) f = some (.lst (([] : List Addr).map V.ref)) := upd_same
    generalize upd H f (.lst []) = H1 at X1 hf1 ⊢
    have hsh : ShsAt K H1 [] [] := by
      unfold ShsAt
      rfl
    refine ⟨fun m σ G => ∃ (b' : Nat) (as : List Addr) (ts : List Tr) (v : Option V), Ex H G ∧ G f = some (.lst (as.map V.ref)) ∧ ShsAt K G ts as ∧ Left ns pap b s b' m ts ∧ σ = [some (.ref r), some (.ref p), some (.int (b' : Nat)), some (.int (m : Nat)), some (.ref f), v], ⟨s, b, [], [], _, X1, hf1, hsh, left_zero _ _ _ _, rfl⟩, ?_⟩
    rintro m σ G ⟨b', as, ts, v, X2, hf2, hA, hL, rfl⟩
    refine ⟨_, rfl, _, _, rfl, rfl, _, rfl, ?_⟩
    by_cases c : 0 < m
    · refine ifP (by omega) ?_
      have hL1 := hL.1
      have hL2 := hL.2.1
      have lts := len_moms hL.2.2.1
      rw [hL.2.2.2.1, seg_len (by omega)] at lts
      have la := hA.len
      refine ⟨fun σ G => ∃ (m' b' : Nat) (as : List Addr) (ts : List Tr) (v : Option V), m' < m ∧ Ex H G ∧ G f = some (.lst (as.map V.ref)) ∧ ShsAt K G ts as ∧ Left ns pap b s b' m' ts ∧ σ = [some (.ref r), some (.ref p), some (.int (b' : Nat)), some (.int (m' : Nat)), some (.ref f), v], ?_, ?_⟩
      · rintro σ' H' ⟨m', b2, as2, ts2, v2, mm, k1, k2, k3, k4, k5⟩
        exact ⟨m', mm, b2, as2, ts2, v2, k1, k2, k3, k4, k5⟩
      refine ⟨_, rfl, _, rfl, _, rfl, p, ns, pap, b', m, rfl, hP.mono X2, hG, c, by omega, by omega, fun fs f1 f2 fN fe => ?_⟩
      refine ⟨_, rfl, .inl ⟨rfl, _, sq_lst hf2⟩, _, rfl, _, rfl, _, rfl, _, rfl, r, p, ns, pap, b', fs, rfl, ex_sql X2 hw, hP.mono X2, hG, pw, f1, by omega, by omega, hl, fN, fun a t H3 X3 na hS hC => ?_⟩
      have hf3 := X3 _ _ hf2
      have hz : (as.map V.ref).length < sizeLine := sz_lt (by rw [List.length_map]; omega)
      refine ⟨_, _, _, rfl, rfl, hf3, hz, ?_⟩
      have hA3 := (hA.mono X3).oth (d := f) (H' := upd H3 f (.lst (as.map V.ref ++ [.ref a]))) (fun b o nb e => by rw [upd_ne nb]; exact e) (fun ob ho => by rw [hf3] at ho; cases ho; exact ⟨_, rfl⟩)
      have af : a ≠ f := fun z => by rw [z, hf2] at na; cases na
      have hS3 := hS.oth (d := f) (H' := upd H3 f (.lst (as.map V.ref ++ [.ref a]))) (fun b o nb e => by rw [upd_ne nb]; exact e) (fun ob ho => by rw [hf3] at ho; cases ho; exact ⟨_, rfl⟩)
      have hst := left_step hL c f1 f2 fe hC
      refine ⟨_, rfl, _, rfl, _, _, rfl, rfl, _, rfl, _, rfl, _, _, rfl, rfl, ?_⟩
      have e1 : ((b' : Nat) : Int) + ((fs : Nat) : Int) = ((b' + fs : Nat) : Int) := by omega
      have e2 : ((m : Nat) : Int) - ((fs : Nat) : Int) = ((m - fs : Nat) : Int) := by omega
      refine ⟨m - fs, b' + fs, as ++ [a], ts ++ [t], some (.int (fs : Nat)), by omega, ex_mut (X2.trans X3) nf, by rw [upd_same, List.map_append]; rfl, hA3.snoc hS3, hst, ?_⟩
      rw [← e1, ← e2]
      rfl
    · refine ifN (by omega) ?_
      have m0 : m = 0 := by omega
      subst m0
      exact ⟨_, rfl, q f as ts G X2 nf hf2 hA (left_end hL)⟩
theorem ok_shorts_of {P : Program} {w : World} {K : PySem.W.Frag} {mg : Str → Option Value} {base : Heap} (T : Env K mg) {d L : Nat} (hL : 70 ≤ L) (r_short_of : Fc P w K mg base L (He.ga K "short_of") [] (sp_short_of K d)) : Fc P w K mg base (L + 1) (He.ga K "shorts_of") [] (sp_shorts_of K (d)) := by
  obtain ⟨fd, D, F⟩ := fb_shorts_of T hL r_short_of
  exact F.all (D.bindsN fun _ _ _ _ _ _ us hl => match us, hl with | [_, _, _, _], _ => rfl)
end
section
theorem fb_short_of {P : Program} {w : World} {K : PySem.W.Frag} {mg : Str → Option Value} {base : Heap} (T : Env K mg) {d L : Nat} (hL : 70 ≤ L) (r_short_of : Fc P w K mg base L (He.ga K "short_of") [] (sp_short_of K d)) : ∃ fd, FunD K "short_of" "short_of" (defArgs s_short_of) (defBody s_short_of) (defScope s_short_of) [] [] (He.ga K "short_of") fd ∧ Fb P w K mg base (L + 2) (He.ga K "short_of") fd ["row", "paper", "begin", "size"] (sp_short_of K (d + 1)) := by
  obtain ⟨fd, F⟩ := T.f_short_of
  refine ⟨fd, F, fb_of F sc_short_of (fun vs H Q E h => ?_) (fun cdv A outer s H vs Q E hr h => ?_)⟩
  · obtain ⟨r, p, ns, pap, b, s, rfl, _⟩ := h
    rfl
  · obtain ⟨r, p, ns, pap, b, s, rfl, hw, hP, hG, pw, s1, s2, hbs, hl, hN, q⟩ := h
    refine ⟨_, (pss_cons (ps_if (pt_cmpR op_eq (pv 3) pe_int (nomark _))
      (pss_one (ps_ret (c_make T.mk_At (ok_At_init T) (hr.mono (by omega)) T.g_At takes0 (pa_cons (pe_ix ix_list (pv 0) (pv 2) (fun _ _ => rfl)) pa_nil))))
      pss_nil)
      (pss_cons (ps_set (i := 4) sc_short_of.nd rfl (Or.inl rfl) (c_call (ok_over_part T) (hr.mono (by omega)) T.g_over_part T.k_over_part takes0 (pa_cons (pv 0) (pa_cons (pv 1) (pa_cons (pv 2) (pa_cons (pv 3) pa_nil))))))
      (pss_one (ps_ret (c_make T.mk_Over (ok_Over_init T) (hr.mono (by omega)) T.g_Over takes0 (pa_cons (c_call (ok_shorts_of T hL r_short_of) (hr.mono (by omega)) T.g_shorts_of T.k_shorts_of takes0 (pa_cons (pv 0) (pa_cons (pv 1) (pa_cons (pv 2) (pa_cons (pv 4) pa_nil))))) (pa_cons (pe_op op_fdiv (pv 3) (pv 4)) (pa_cons (pe_op op_sub (pe_ix ix_list (pv 0) (pe_op op_add (pv 2) (pv 4)) (fun _ _ => rfl)) (pe_ix ix_list (pv 0) (pv 2) (fun _ _ => rfl))) pa_nil)))))))), ?_⟩
    refine ⟨_, rfl, rfl, _, rfl, ?_⟩
    rw [vint_dec]
    refine ite2 (fun c => ?_) (fun c => ?_)
    · have s1' : s = 1 := by
        have := of_decide_eq_true c
        omega
      subst s1'
      have hat : atI (natV ns) (b : Int) = some (.int (gN ns b : Nat)) := natV_at rfl (by omega)
      refine ⟨_, rfl, _, rfl, _, _, _, _, rfl, rfl, hw, hat, fun x dx nx nd ne => at_new nx nd ne fun H2 X2 hA => ⟨rfl, ?_⟩⟩
      exact q x (.at (gN ns b)) H2 X2 nx (by unfold ShAt; exact hA) (cut_at hG (by omega))
    · have s2' : 2 ≤ s := by
        by_cases z : s = 1
        · exact absurd (decide_eq_true (by omega)) c
        · omega
      refine ⟨_, rfl, _, rfl, _, rfl, _, rfl, r, p, ns, pap, b, s, rfl, hw, hP, hG, s2', hbs, by omega, hN, fun m H2 hm em X2 => ?_⟩
      have m1 := firstP_lt hm
      have hw2 := ex_sql X2 hw
      have p2 : 2 ^ (d + 1) = 2 ^ d * 2 := Nat.pow_succ _ _
      have m2 : 2 * m ≤ s := by
        obtain ⟨k, hk⟩ := Nat.dvd_of_mod_eq_zero m1.2.2.1
        have : 2 ≤ k := by
          by_cases z : 2 ≤ k
          · exact z
          · have : m * k ≤ m * 1 := Nat.mul_le_mul_left _ (by omega)
            omega
        have : m * 2 ≤ m * k := Nat.mul_le_mul_left _ this
        omega
      refine ⟨_, rfl, _, rfl, _, rfl, _, rfl, r, p, ns, pap, b, m, rfl, hw2, hP.mono X2, hG, pw, by omega, by omega, hl, fun f as ts H3 X3 nf hf hA hC => ?_⟩
      have hw3 := ex_sql X3 hw2
      have hat1 : atI (natV ns) ((b : Int) + (m : Int)) = some (.int (gN ns (b + m) : Nat)) := natV_at (by omega) (by omega)
      have hat2 : atI (natV ns) (b : Int) = some (.int (gN ns b : Nat)) := natV_at rfl (by omega)
      have gl := gN_lt pw (show b < b + m by omega) (by omega)
      have hO := cut_ov hG pw hbs (by omega) hm em hC
      refine ⟨_, rfl, _, rfl, _, _, rfl, rfl, ⟨(by omega), (by omega)⟩, _, rfl, _, rfl, _, rfl, _, _, rfl, rfl, _, _, _, _, rfl, rfl, hw3, hat1, _, rfl, _, rfl, _, _, _, _, rfl, rfl, hw3, hat2, _, _, rfl, rfl, ?_⟩
      try dsimp only [tNil]
      intro x dx nx nd ne
      have e1 : ((s : Nat) : Int) / ((m : Nat) : Int) = ((s / m : Nat) : Int) := (Int.natCast_ediv _ _).symm
      have e2 : ((gN ns (b + m) : Nat) : Int) - ((gN ns b : Nat) : Int) = ((gN ns (b + m) - gN ns b : Nat) : Int) := by omega
      rw [e1, e2]
      refine ⟨rfl, over_newT nx nd ne (.inl hf) hA hO.1 (by have := nest5 hO.2.2.2 (by omega); omega) fun H4 X4 hS => ⟨rfl, ?_⟩⟩
      exact q x _ H4 (X2.trans (X3.trans X4)) (ex_fresh (X2.trans X3) nx) hS hO
theorem ok_short_of {P : Program} {w : World} {K : PySem.W.Frag} {mg : Str → Option Value} {base : Heap} (T : Env K mg) {d L : Nat} (hL : 70 ≤ L) (r_short_of : Fc P w K mg base L (He.ga K "short_of") [] (sp_short_of K d)) : Fc P w K mg base (L + 2) (He.ga K "short_of") [] (sp_short_of K (d + 1)) := by
  obtain ⟨fd, D, F⟩ := fb_short_of T hL r_short_of
  exact F.all (D.bindsN fun _ _ _ _ _ _ us hl => match us, hl with | [_, _, _, _], _ => rfl)
theorem all_short_of {P : Program} {w : World} {K : PySem.W.Frag} {mg : Str → Option Value} {base : Heap} (T : Env K mg) : ∀ d, Fc P w K mg base (70 + 2 * d) (He.ga K "short_of") [] (sp_short_of K d)
  | 0 => fc_no fun vs H Q E h => by
    obtain ⟨r, p, ns, pap, b, s, _, _, _, _, _, h1, h2, _⟩ := h
    omega
  | d + 1 => ok_short_of T (Nat.le_add_right 70 _) (all_short_of T d)
end
section
def sp_shortest (K : PySem.W.Frag) : Sp := fun vs H Q E => ∃ x r, vs = [x] ∧ MomG K H x r ∧ (∀ ns, r = some ns → ns.length ≤ 40) ∧ (∀ ns, r = some ns → ∀ a ts pap H', Ex H H' → H a = none → SprAt K H' a ts → Good (srtN ns) pap → Cuts (srtN ns) pap 0 ns.length ts → Q (.ref a) H') ∧ (r = none → ∀ H', Ex H H' → E (.ref (He.ga K "NoPiece")) none H')
theorem fb_shortest {P : Program} {w : World} {K : PySem.W.Frag} {mg : Str → Option Value} {base : Heap} (T : Env K mg) : ∃ fd, FunD K "shortest" "shortest" (defArgs s_shortest) (defBody s_shortest) (defScope s_shortest) [] [] (He.ga K "shortest") fd ∧ Fb P w K mg base 90 (He.ga K "shortest") fd ["moments"] (sp_shortest K) := by
  obtain ⟨fd, F⟩ := T.f_shortest
  refine ⟨fd, F, fb_of F sc_shortest (fun vs H Q E h => ?_) (fun cdv A outer s H vs Q E hr h => ?_)⟩
  · obtain ⟨x, r, rfl, _⟩ := h
    rfl
  · obtain ⟨x, r, rfl, hx, hl, q, qe⟩ := h
    refine ⟨_, (pss_cons (ps_set (i := 1) sc_shortest.nd rfl (Or.inl rfl) (c_call (ok_in_rising_order T) (hr.mono (by decide)) T.g_in_rising_order T.k_in_rising_order (takes_of rfl rfl rfl rfl) (pa_cons (pv 0) pa_nil)))
      (pss_one (ps_ret (c_make T.mk_Spread (ok_Spread_init T) (hr.mono (by decide)) T.g_Spread (takes_of rfl rfl rfl rfl) (pa_cons (c_call (ok_shorts_of T (Nat.le_add_right 70 _) (all_short_of T 6)) (hr.mono (by decide)) T.g_shorts_of T.k_shorts_of (takes_of rfl rfl rfl rfl) (pa_cons (pv 1) (pa_cons (c_call (ok_numbers_of T) (hr.mono (by decide)) T.g_numbers_of T.k_numbers_of (takes_of rfl rfl rfl rfl) (pa_cons (pv 1) pa_nil)) (pa_cons pe_int (pa_cons (pe_callB call_len (by rfl) T.n_len (by decide +kernel) (pa_cons (pv 1) pa_nil)) pa_nil))))) pa_nil))))), ?_⟩
    refine ⟨_, rfl, x, r, rfl, hx, fun ns er f H1 X1 nf hf => ?_, fun er H1 X1 => qe er H1 X1⟩
    have pw := srtN_lt (by rw [er] at hx; exact hx.nodup)
    have ll : (srtN ns).length ≤ 40 := by rw [srtN_len]; exact hl ns er
    have ll2 := srtN_len ns
    refine ⟨_, rfl, _, rfl, f, srtN ns, rfl, hf, ll, fun a pap as H2 X2 na hP hG => ?_⟩
    have hf2 := X2 _ _ hf
    refine ⟨_, rfl, _, _, rfl, .inl ⟨_, sq_lst hf2, rfl⟩, f, a, srtN ns, pap, 0, (srtN ns).length, by rw [natV_len]; rfl, sq_lst hf2, hP.at, hG, pw, by omega, by omega, ll, fun g bs ts H3 X3 ng hg hS hC => ?_⟩
    intro y dy ny ndy ney
    have hn : nestL ts ≤ 8 := by
      by_cases c : 1 ≤ (srtN ns).length
      · have := nest5 (hC.2.2.2.2 c) (by omega)
        omega
      · rw [hC.2.2.1 (by omega)]
        exact Nat.zero_le _
    have hm : momsL ts = srtN ns := by rw [hC.2.1, seg_all]
    have hb : sprB ts = true := by
      unfold sprB
      rw [ris_of hC.1 (by rw [hm]; exact pw), decide_eq_true (by rw [hm]; omega)]
      rfl
    refine spread_new ny ndy ney (.inl hg) hS hn hC.1 hb fun H4 X4 hSp => ⟨rfl, ?_⟩
    have X14 := X1.trans (X2.trans X3)
    exact q ns er y ts pap H4 (X14.trans X4) (ex_fresh X14 ny) hSp hG (by rw [← ll2]; exact hC)
theorem ok_shortest {P : Program} {w : World} {K : PySem.W.Frag} {mg : Str → Option Value} {base : Heap} (T : Env K mg) : Fc P w K mg base 90 (He.ga K "shortest") [] (sp_shortest K ) := by
  obtain ⟨fd, D, F⟩ := fb_shortest T
  exact F.all (D.bindsN fun _ _ _ _ _ _ us hl => match us, hl with | [_], _ => rfl)
end
section
/-- a pot: what is left of a cell's digits, and what mixes -/
def Pot (H : Hp) (p : Addr) : Prop := ∃ a b : Int, H p = some (.lst [.int a, .int b]) ∧ 0 ≤ b ∧ b < 4294967296
def sp__law_pot (K : PySem.W.Frag) : Sp := fun vs H Q _ => ∃ (a : Addr) (ns : List Int) (k : Int), vs = [.ref a, .int k] ∧ SqL K H a (ns.map V.int) ∧ 0 ≤ k ∧ k < 1000 ∧ ∀ p H', H p = none → Pot H' p → (∀ b, b ≠ p → H' b = H b) → Q (.ref p) H'
theorem fb__law_pot {P : Program} {w : World} {K : PySem.W.Frag} {mg : Str → Option Value} {base : Heap} (T : Env K mg) : ∃ fd, FunD K "_law_pot" "_law_pot" (defArgs s__law_pot) (defBody s__law_pot) (defScope s__law_pot) [] [] (He.ga K "_law_pot") fd ∧ Fb P w K mg base 1 (He.ga K "_law_pot") fd ["_law_script", "_law_k"] (sp__law_pot K) := by
  obtain ⟨fd, F⟩ := T.f__law_pot
  refine ⟨fd, F, fb_of F sc__law_pot (fun vs H Q E h => ?_) (fun cdv A outer s H vs Q E hr h => ?_)⟩
  · obtain ⟨a, ns, k, rfl, _⟩ := h
    rfl
  · obtain ⟨a, ns, k, rfl, hS, k0, k1, q⟩ := h
    refine ⟨_, (Evl.pss_cut (ps_set (i := 2) sc__law_pot.nd rfl (Or.inl rfl) (pe_ifExp (pt_cmpR op_lt (pv 1) (pe_callB call_len (by rfl) T.n_len (by decide +kernel) (pa_cons (pv 0) pa_nil)) (nomark _)) (pe_ix ix_list (pv 0) (pv 1) (fun _ _ => rfl)) pe_int))
      (pss_one (ps_ret (pe_lst (pa_cons (pe_callB (call_max2 rfl) (by rfl) T.n_max (by decide +kernel) (pa_cons pe_int (pa_cons (pe_op op_sub (pv 2) (pe_op op_pow pe_int pe_int)) pa_nil))) (pa_cons (pe_op op_add (pe_op op_mod (pe_op op_pow (pe_op op_add (pe_op op_mod (pv 2) pe_int) (pe_op op_mul pe_int (pe_op op_add (pv 1) pe_int))) pe_int) pe_int) pe_int) pa_nil)))))), ?_⟩
    refine ⟨fun σ' H' => H' = H ∧ ∃ cell : Int, σ' = [some (.ref a), some (.int k), some (.int cell)], ?_, ?_⟩
    · refine ⟨_, rfl, _, rfl, _, _, rfl, .inl ⟨_, hS, rfl⟩, _, _, rfl, rfl, _, rfl, ite2 (fun c => ?_) (fun c => ?_)⟩
      · have c2 : k < ((ns.map V.int).length : Int) := of_decide_eq_true c
        rw [List.length_map] at c2
        obtain ⟨i, rfl⟩ := Int.eq_ofNat_of_zero_le k0
        have hi : i < ns.length := Int.ofNat_lt.mp c2
        refine ⟨_, rfl, _, rfl, a, _, _, .int ns[i], rfl, rfl, hS, ?_, rfl, ns[i], rfl⟩
        exact atI_nat (by rw [List.getElem?_map, List.getElem?_eq_getElem hi]; rfl)
      · exact ⟨rfl, 0, rfl⟩
    · rintro σ' H' ⟨rfl, cell, rfl⟩
      have m1 := Int.emod_nonneg cell (show (2147483629 : Int) ≠ 0 by decide)
      have m2 := Int.emod_lt_of_pos cell (show (0 : Int) < 2147483629 by decide)
      refine ⟨_, rfl, _, _, rfl, rfl, ⟨(by decide), ⟨(by decide), (by decide)⟩⟩, _, _, rfl, rfl, _, _, rfl, _, rfl, _, _, rfl, rfl, (by omega), _, rfl, _, _, rfl, rfl, _, _, rfl, rfl, (.inl ⟨(by decide), (by decide)⟩), _, _, rfl, rfl, _, _, rfl, rfl, ⟨(by decide), ⟨(by decide), (by omega)⟩⟩, _, _, rfl, rfl, (by omega), _, _, rfl, rfl, (by show 2 ≤ sizeLine; decide), ?_⟩
      intro p hp
      exact q p _ hp ⟨_, _, upd_same, Int.add_nonneg (Int.emod_nonneg _ (by decide)) (by decide), by have := Int.emod_lt_of_pos ((cell % 2147483629 + 40503 * (k + 1)) ^ Int.toNat 3) (show (0 : Int) < 2147483563 by decide); omega⟩ fun b n => upd_ne n
theorem ok__law_pot {P : Program} {w : World} {K : PySem.W.Frag} {mg : Str → Option Value} {base : Heap} (T : Env K mg) : Fc P w K mg base 1 (He.ga K "_law_pot") [] (sp__law_pot K ) := by
  obtain ⟨fd, D, F⟩ := fb__law_pot T
  exact F.all (D.bindsN fun _ _ _ _ _ _ us hl => match us, hl with | [_, _], _ => rfl)
end
section
/-- the pot at p is drawn from: everything else stays -/
def PotOn (H H' : Hp) (p : Addr) : Prop := Pot H' p ∧ ∀ b o, b ≠ p → H b = some o → H' b = some o
theorem PotOn.refl {H : Hp} {p : Addr} (h : Pot H p) : PotOn H H p := ⟨h, fun _ _ _ e => e⟩
theorem PotOn.trans {H H1 H2 : Hp} {p : Addr} (a : PotOn H H1 p) (b : PotOn H1 H2 p) : PotOn H H2 p := ⟨b.1, fun c o n e => b.2 c o n (a.2 c o n e)⟩
def sp__law_draw (K : PySem.W.Frag) : Sp := fun vs H Q _ => ∃ (p : Addr) (n : Int), vs = [.ref p, .int n] ∧ Pot H p ∧ 0 < n ∧ n.toNat < 10 ^ 200 ∧ ∀ (d : Int) H', 0 ≤ d → d < n → PotOn H H' p → Q (.int d) H'
theorem fb__law_draw {P : Program} {w : World} {K : PySem.W.Frag} {mg : Str → Option Value} {base : Heap} (T : Env K mg) : ∃ fd, FunD K "_law_draw" "_law_draw" (defArgs s__law_draw) (defBody s__law_draw) (defScope s__law_draw) [] [] (He.ga K "_law_draw") fd ∧ Fb P w K mg base 1 (He.ga K "_law_draw") fd ["_law_pot_here", "_law_size"] (sp__law_draw K) := by
  obtain ⟨fd, F⟩ := T.f__law_draw
  refine ⟨fd, F, fb_of F sc__law_draw (fun vs H Q E h => ?_) (fun cdv A outer s H vs Q E hr h => ?_)⟩
  · obtain ⟨p, n, rfl, _⟩ := h
    rfl
  · obtain ⟨p, n, rfl, ⟨a, b, hp, b0, b1⟩, n0, n1, q⟩ := h
    refine ⟨_, (pss_cons (ps_if (pt_cmpR op_gt (pe_ix ix_list (pv 0) pe_int (fun _ _ => rfl)) pe_int (nomark _))
      (pss_cons (ps_asg (pe_callB call_divmodW (by rfl) T.n_divmod (by decide +kernel) (pa_cons (pe_ix ix_list (pv 0) pe_int (fun _ _ => rfl)) (pa_cons (pv 1) pa_nil))) (pg_tup (by rfl) (pgs_cons (pg_sub (pv 0) pe_int set_list) (pgs_cons (pg_name (i := 2) sc__law_draw.nd rfl (Or.inl rfl)) pgs_nil))))
      (pss_one (ps_ret (pv 2))))
      pss_nil)
      (pss_cons (ps_asg (pe_op op_mod (pe_op op_add (pe_op op_mul (pe_ix ix_list (pv 0) pe_int (fun _ _ => rfl)) pe_int) pe_int) pe_int) (pg_sub (pv 0) pe_int set_list))
      (pss_one (ps_ret (pe_op op_mod (pe_op op_fdiv (pe_op op_mod (pe_op op_mul (pe_ix ix_list (pv 0) pe_int (fun _ _ => rfl)) (pe_ix ix_list (pv 0) pe_int (fun _ _ => rfl))) pe_int) pe_int) (pv 1)))))), ?_⟩
    refine ⟨_, rfl, p, _, _, .int a, rfl, rfl, sq_lst hp, rfl, _, _, rfl, rfl, _, rfl, ite2 (fun _ => ?_) (fun _ => ?_)⟩
    · refine ⟨_, rfl, p, _, _, .int a, rfl, rfl, sq_lst hp, rfl, _, rfl, a, n, rfl, ⟨n0, PyProof.noPylong_of_log2 (Nat.lt_trans (log_of (show n.natAbs < 10 ^ 200 by omega)) (by decide))⟩, fun t ht => ?_⟩
      have pt : p ≠ t := ne_of_none hp ht
      refine ⟨t, _, rfl, sq_tup upd_same, rfl, _, _, rfl, _, rfl, p, [.int a, .int b], 0, 0, rfl, rfl, (by rw [upd_ne pt]; exact hp), rfl, _, _, rfl, rfl, _, rfl, ?_⟩
      refine q _ _ (Int.emod_nonneg _ (by omega)) (Int.emod_lt_of_pos _ n0) ⟨⟨_, _, upd_same, b0, b1⟩, fun x o nx e => ?_⟩
      rw [upd_ne nx, upd_ne (ne_of_none e ht)]
      exact e
    · refine ⟨_, rfl, p, _, _, .int b, rfl, rfl, sq_lst hp, rfl, _, _, rfl, rfl, .inr (by decide), _, _, rfl, rfl, _, _, rfl, rfl, (by show (0 : Int) < 2147483629; decide), _, rfl, p, _, 1, 1, rfl, rfl, hp, rfl, ?_⟩
      have m1 := Int.emod_nonneg (b * 39373 + 7919) (show (2147483629 : Int) ≠ 0 by decide)
      have m2 := Int.emod_lt_of_pos (b * 39373 + 7919) (show (0 : Int) < 2147483629 by decide)
      refine ⟨_, rfl, p, _, _, .int ((b * 39373 + 7919) % 2147483629), rfl, rfl, sq_lst upd_same, rfl, _, rfl, p, _, _, .int ((b * 39373 + 7919) % 2147483629), rfl, rfl, sq_lst upd_same, rfl, _, _, rfl, rfl, .inl ⟨by omega, by omega⟩, _, _, rfl, rfl, (by show (0 : Int) < 2147483587; decide), _, _, rfl, rfl, ⟨by decide, by decide⟩, _, rfl, _, _, rfl, rfl, n0, ?_⟩
      refine q _ _ (Int.emod_nonneg _ (by omega)) (Int.emod_lt_of_pos _ n0) ⟨⟨_, _, upd_same, m1, by omega⟩, fun x o nx e => ?_⟩
      rw [upd_ne nx]
      exact e
theorem PotOn.ex {H0 H H' : Hp} {p : Addr} (e : Ex H0 H) (n : H0 p = none) (P : PotOn H H' p) : Ex H0 H' := fun b o h => P.2 b o (ne_of_none h n) (e b o h)
theorem pot_upd {H H' : Hp} {p l : Addr} {o : HO} (P : PotOn H H' p) (n : H l = none) (ne : l ≠ p) : PotOn H (upd H' l o) p := by
  obtain ⟨⟨x, y, e, r⟩, k⟩ := P
  refine ⟨⟨x, y, by rw [upd_ne (Ne.symm ne)]; exact e, r⟩, fun b u nb h => ?_⟩
  rw [upd_ne (ne_of_none h n)]
  exact k b u nb h
theorem PotOn.ex2 {H H1 H2 : Hp} {p : Addr} (P : PotOn H H1 p) (e : Ex H1 H2) : PotOn H H2 p := by
  obtain ⟨⟨x, y, h, r⟩, k⟩ := P
  exact ⟨⟨x, y, e _ _ h, r⟩, fun b u nb h => e _ _ (k b u nb h)⟩
theorem at_mem {xs : List V} {i : Int} (h0 : 0 ≤ i) (h1 : i < (xs.length : Nat)) : ∃ x, x ∈ xs ∧ atI xs i = some x := by
  obtain ⟨n, rfl⟩ := Int.eq_ofNat_of_zero_le h0
  have hn : n < xs.length := Int.ofNat_lt.mp h1
  exact ⟨xs[n], List.getElem_mem hn, atI_nat (List.getElem?_eq_getElem hn)⟩
theorem PotOn.fresh {H H' : Hp} {p b : Addr} (P : PotOn H H' p) (n : H' b = none) : H b = none := by
  cases e : H b with
  | none => rfl
  | some o =>
    by_cases hb : b = p
    · obtain ⟨_, _, e2, _⟩ := P.1
      rw [hb, e2] at n
      cases n
    · rw [P.2 b o hb e] at n
      cases n
theorem pot_mono {H H' : Hp} {p : Addr} (h : Pot H p) (e : Ex H H') : Pot H' p := by
  obtain ⟨x, y, h1, h2⟩ := h
  exact ⟨x, y, e _ _ h1, h2⟩
theorem ok__law_draw {P : Program} {w : World} {K : PySem.W.Frag} {mg : Str → Option Value} {base : Heap} (T : Env K mg) : Fc P w K mg base 1 (He.ga K "_law_draw") [] (sp__law_draw K ) := by
  obtain ⟨fd, D, F⟩ := fb__law_draw T
  exact F.all (D.bindsN fun _ _ _ _ _ _ us hl => match us, hl with | [_, _], _ => rfl)
end
section
def sp__law_good (K : PySem.W.Frag) : Sp := fun vs H Q _ => ∃ (p : Addr), vs = [.ref p] ∧ Pot H p ∧ ∀ (f : Addr) (ns : List Nat) H', H f = none → H' f = some (.lst (natV ns)) → ns.Nodup → ns.length ≤ 39 → (∀ n ∈ ns, n < 10 ^ 60) → PotOn H H' p → Q (.ref f) H'
theorem fb__law_good {P : Program} {w : World} {K : PySem.W.Frag} {mg : Str → Option Value} {base : Heap} (T : Env K mg) : ∃ fd, FunD K "_law_good" "_law_good" (defArgs s__law_good) (defBody s__law_good) (defScope s__law_good) [] [] (He.ga K "_law_good") fd ∧ Fb P w K mg base 40 (He.ga K "_law_good") fd ["_law_pot_here"] (sp__law_good K) := by
  obtain ⟨fd, F⟩ := T.f__law_good
  refine ⟨fd, F, fb_of F sc__law_good (fun vs H Q E h => ?_) (fun cdv A outer s H vs Q E hr h => ?_)⟩
  · obtain ⟨p, rfl, _⟩ := h
    rfl
  · obtain ⟨p, rfl, hp, q⟩ := h
    refine ⟨_, (pss_cons (ps_set (i := 1) sc__law_good.nd rfl (Or.inl rfl) (pe_ix ix_list (pe_lst (pa_cons pe_int (pa_cons pe_int (pa_cons pe_int (pa_cons (pe_op op_sub (pe_op op_pow pe_int pe_int) pe_int) pa_nil))))) (c_call (ok__law_draw T) (hr.mono (by decide)) T.g__law_draw T.k__law_draw takes0 (pa_cons (pv 0) (pa_cons pe_int pa_nil))) (fun _ _ => rfl)))
      (pss_cons (ps_set (i := 2) sc__law_good.nd rfl (Or.inl rfl) (pe_lst pa_nil))
      (pss_cons (ps_for (passes_of rfl) rfl (pi_range1 (by rfl) T.n_range (pa_cons (c_call (ok__law_draw T) (hr.mono (by decide)) T.g__law_draw T.k__law_draw takes0 (pa_cons (pv 0) (pa_cons (pe_ix ix_list (pe_lst (pa_cons pe_int (pa_cons pe_int (pa_cons pe_int (pa_cons pe_int pa_nil))))) (c_call (ok__law_draw T) (hr.mono (by decide)) T.g__law_draw T.k__law_draw takes0 (pa_cons (pv 0) (pa_cons pe_int pa_nil))) (fun _ _ => rfl)) pa_nil))) pa_nil)) (pg_name (i := 3) sc__law_good.nd rfl (Or.inl rfl))
      (pss_cons (ps_set (i := 4) sc__law_good.nd rfl (Or.inl rfl) (c_call (ok__law_draw T) (hr.mono (by decide)) T.g__law_draw T.k__law_draw takes0 (pa_cons (pv 0) (pa_cons (pv 1) pa_nil))))
      (pss_one (ps_if (pt_cmpR op_notIn_seq (pv 4) (pv 2) (by rfl))
      (pss_one (ps_expr (pe_bm PySem.F.plainAttrs_list PySem.F.slot_list_append PySem.F.type_list_append mt_append (pv 2) (pa_cons (pv 4) pa_nil))))
      pss_nil))))
      (pss_one (ps_ret (pv 2)))))), ?_⟩
    refine ⟨_, _, rfl, rfl, ⟨(by decide), ⟨(by decide), (by decide)⟩⟩, _, _, rfl, rfl, (by decide), ?_⟩
    intro a1 na1
    have Xa1 := ex_new (o := HO.lst [V.int 90, V.int 90, V.int 1440, V.int (10 ^ Int.toNat 60 - 1)]) na1
    have ha1 : upd H a1 (HO.lst [V.int 90, V.int 90, V.int 1440, V.int (10 ^ Int.toNat 60 - 1)]) a1 = some (HO.lst [V.int 90, V.int 90, V.int 1440, V.int (10 ^ Int.toNat 60 - 1)]) := upd_same
    generalize upd H a1 (HO.lst [V.int 90, V.int 90, V.int 1440, V.int (10 ^ Int.toNat 60 - 1)]) = Ga1 at Xa1 ha1 ⊢
    refine ⟨_, rfl, _, _, rfl, (pot_mono hp Xa1), (by decide), (by decide), ?_⟩
    intro d1 G2 d10 d14 Pd
    have nq : ∀ b G, PotOn H G p → G b = none → b ≠ p := fun b G P nb z => by
      obtain ⟨x, y, e, _⟩ := P.1
      rw [z, e] at nb
      cases nb
    have a1p : a1 ≠ p := nq a1 _ (PotOn.refl hp) na1
    have PGa := (PotOn.refl hp).ex2 Xa1
    obtain ⟨x, hx, ex⟩ := at_mem (xs := [V.int 90, V.int 90, V.int 1440, V.int (10 ^ Int.toNat 60 - 1)]) d10 (by show d1 < 4; exact d14)
    obtain ⟨mm, rfl, mm0, mm1⟩ : ∃ m : Int, x = .int m ∧ 0 < m ∧ m ≤ 10 ^ 60 := by
      simp only [List.mem_cons, List.not_mem_nil, or_false] at hx
      rcases hx with rfl | rfl | rfl | rfl <;> exact ⟨_, rfl, by decide +kernel, by decide +kernel⟩
    have mt : mm.toNat < 10 ^ 200 := Nat.lt_of_le_of_lt (show mm.toNat ≤ 10 ^ 60 by omega) (by decide +kernel)
    refine ⟨a1, _, _, _, rfl, rfl, sq_lst (Pd.2 _ _ a1p ha1), ex, ?_⟩
    have P2 := PGa.trans Pd
    clear PGa Pd ha1 Xa1 hx ex
    refine ⟨(by decide), ?_⟩
    intro a2 na2
    have Xa2 := ex_new (o := HO.lst []) na2
    have ha2 : upd G2 a2 (HO.lst []) a2 = some (HO.lst []) := upd_same
    generalize upd G2 a2 (HO.lst []) = Ga2 at Xa2 ha2 ⊢
    refine ⟨_, rfl, (by decide), ?_⟩
    intro a3 na3
    have Xa3 := ex_new (o := HO.lst [V.int 5, V.int 5, V.int 12, V.int 40]) na3
    have ha3 : upd Ga2 a3 (HO.lst [V.int 5, V.int 5, V.int 12, V.int 40]) a3 = some (HO.lst [V.int 5, V.int 5, V.int 12, V.int 40]) := upd_same
    generalize upd Ga2 a3 (HO.lst [V.int 5, V.int 5, V.int 12, V.int 40]) = Ga3 at Xa3 ha3 ⊢
    refine ⟨_, rfl, _, _, rfl, (pot_mono (pot_mono P2.1 Xa2) Xa3), (by decide), (by decide), ?_⟩
    intro d3 G4 d30 d34 Pd
    have P2a := (P2.ex2 Xa2)
    have P3 := P2a.ex2 Xa3
    have fp : a2 ≠ p := nq a2 _ P2 na2
    have a3p : a3 ≠ p := nq a3 _ P2a na3
    have nfH := P2.fresh na2
    have hf4 := Pd.2 _ _ fp (Xa3 _ _ ha2)
    obtain ⟨x, hx, ex⟩ := at_mem (xs := [V.int 5, V.int 5, V.int 12, V.int 40]) d30 (by show d3 < 4; exact d34)
    obtain ⟨m3, rfl, m30, m31⟩ : ∃ m : Int, x = .int m ∧ 0 < m ∧ m ≤ 40 := by
      simp only [List.mem_cons, List.not_mem_nil, or_false] at hx
      rcases hx with rfl | rfl | rfl | rfl <;> exact ⟨_, rfl, by decide +kernel, by decide +kernel⟩
    have mt3 : m3.toNat < 10 ^ 200 := Nat.lt_of_le_of_lt (show m3.toNat ≤ 40 by omega) (by decide +kernel)
    refine ⟨a3, _, _, _, rfl, rfl, sq_lst (Pd.2 _ _ a3p ha3), ex, p, m3, rfl, Pd.1, m30, mt3, fun many G5 n0 n1 P5 => ?_⟩
    have hf5 := P5.2 _ _ fp hf4
    have P05 : PotOn H G5 p := (P3.trans Pd).trans P5
    clear hf4 ha2 ha3 hx ex Xa2 Xa3 P2 P2a P3 Pd P5 na2 na3
    generalize a2 = f at fp nfH hf5 ⊢
    refine ⟨_, rfl, by omega, by omega, for_range (fun i σ G => PotOn H G p ∧ ∃ (ns : List Nat) (v3 v4 : Option V), G f = some (.lst (natV ns)) ∧ ns.Nodup ∧ ns.length ≤ i ∧ (∀ n ∈ ns, n < 10 ^ 60) ∧ σ = [some (.ref p), some (.int mm), some (.ref f), v3, v4]) ⟨P05, [], none, none, hf5, List.nodup_nil, Nat.le_refl _, (fun _ h => nomatch h), rfl⟩ ?_ ?_⟩
    · rintro i σ G hi ⟨PG, ns, v3, v4, hfG, nD, nl, bd, rfl⟩
      have hpG := PG.1
      refine ⟨_, rfl, _, rfl, p, mm, rfl, hpG, mm0, mt, fun z G2 z0 z1 P2 => ?_⟩
      obtain ⟨z, rfl⟩ := Int.eq_ofNat_of_zero_le z0
      have hf2 := P2.2 _ _ fp hfG
      have PG2 := PG.trans P2
      refine ⟨_, rfl, _, rfl, f, natV ns, rfl, .inl (sq_lst hf2), rfl, flat_nat ns, ?_⟩
      refine ⟨!decide (z ∈ ns), by rw [if_pos rfl, inV_nat], ?_⟩
      by_cases hz : z ∈ ns
      · rw [decide_eq_true hz]
        exact iteF ⟨PG2, ns, _, _, hf2, nD, by omega, bd, rfl⟩
      · rw [decide_eq_false hz]
        refine iteT ?_
        refine ⟨_, rfl, .inl ⟨rfl, _, sq_lst hf2⟩, _, rfl, f, _, _, rfl, rfl, hf2, sz_lt (by rw [natV_len]; omega), ?_⟩
        rw [natV_snoc]
        refine ⟨pot_upd PG2 nfH fp, ns ++ [z], _, _, upd_same, ?_, by rw [List.length_append]; show ns.length + 1 ≤ i + 1; omega, fun n hn => ?_, rfl⟩
        · refine List.nodup_append.mpr ⟨nD, List.nodup_cons.mpr ⟨List.not_mem_nil, List.nodup_nil⟩, fun a ha b hb e => ?_⟩
          rw [List.mem_singleton.mp hb] at e
          exact hz (e ▸ ha)
        · rcases List.mem_append.mp hn with h | h
          · exact bd n h
          · rw [List.mem_singleton.mp h]
            omega
    · rintro σ G ⟨PG, ns, v3, v4, hfG, nD, nl, bd, rfl⟩
      exact ⟨_, rfl, q f ns G nfH hfG nD (by omega) bd PG⟩
theorem ok__law_good {P : Program} {w : World} {K : PySem.W.Frag} {mg : Str → Option Value} {base : Heap} (T : Env K mg) : Fc P w K mg base 40 (He.ga K "_law_good") [] (sp__law_good K ) := by
  obtain ⟨fd, D, F⟩ := fb__law_good T
  exact F.all (D.bindsN fun _ _ _ _ _ _ us hl => match us, hl with | [_], _ => rfl)
end
section
/-- things that are no moments, by what they are themselves -/
inductive OddV (K : PySem.W.Frag) (H : Hp) : V → Prop where
  | flat {x : V} (f : flatV x = true) (m : isM x = false) : OddV K H x
  | lst {a : Addr} {xs : List V} (h : H a = some (.lst xs)) : OddV K H (.ref a)
  | tup {a : Addr} {xs : List V} (h : H a = some (.tup xs)) : OddV K H (.ref a)
  | dK {a : Addr} {kvs : List (Key × V)} (h : H a = some (.dK kvs)) : OddV K H (.ref a)
  | at {a dx : Addr} {fs : List (Str × V)} (h : H a = some (.ins (He.ga K "At") dx fs)) : OddV K H (.ref a)
  | spr {a dx : Addr} {fs : List (Str × V)} (h : H a = some (.ins (He.ga K "Spread") dx fs)) : OddV K H (.ref a)
theorem OddV.stays {K : PySem.W.Frag} {H H' : Hp} {x : V} (h : OddV K H x) (e : Stays H H' x) : OddV K H' x := by
  cases h with
  | flat f m => exact .flat f m
  | lst h => exact .lst (e _ _ rfl h)
  | tup h => exact .tup (e _ _ rfl h)
  | dK h => exact .dK (e _ _ rfl h)
  | «at» h => exact .at (e _ _ rfl h)
  | spr h => exact .spr (e _ _ rfl h)
theorem OddV.mono {K : PySem.W.Frag} {H H' : Hp} {x : V} (h : OddV K H x) (e : Ex H H') : OddV K H' x := h.stays (stays_ex e)
end
section
def sp__law_odd (K : PySem.W.Frag) : Sp := fun vs H Q _ => ∃ (p g : Addr) (ns : List Nat), vs = [.ref p, .ref g] ∧ Pot H p ∧ g ≠ p ∧ H g = some (.lst (natV ns)) ∧ ns.length ≤ 40 ∧ ∀ x H', PotOn H H' p → ((OddV K H' x ∧ x ≠ .ref p) ∨ ∃ n ∈ ns, x = .int (n : Nat)) → Q x H'
theorem fb__law_odd {P : Program} {w : World} {K : PySem.W.Frag} {mg : Str → Option Value} {base : Heap} (T : Env K mg) : ∃ fd, FunD K "_law_odd" "_law_odd" (defArgs s__law_odd) (defBody s__law_odd) (defScope s__law_odd) [] [] (He.ga K "_law_odd") fd ∧ Fb P w K mg base 95 (He.ga K "_law_odd") fd ["_law_pot_here", "_law_good_here"] (sp__law_odd K) := by
  obtain ⟨fd, F⟩ := T.f__law_odd
  refine ⟨fd, F, fb_of F sc__law_odd (fun vs H Q E h => ?_) (fun cdv A outer s H vs Q E hr h => ?_)⟩
  · obtain ⟨p, g, ns, rfl, _⟩ := h
    rfl
  · obtain ⟨p, g, ns, rfl, hp, gp, hg, hl, q⟩ := h
    refine ⟨_, (pss_cons (ps_set (i := 2) sc__law_odd.nd rfl (Or.inl rfl) (c_call (ok__law_draw T) (hr.mono (by decide)) T.g__law_draw T.k__law_draw takes0 (pa_cons (pv 0) (pa_cons pe_int pa_nil))))
      (Evl.pss_cut (ps_if (PW.pt (pw_and (pt_cmpR op_lt (pv 2) pe_int (nomark _)) (pw_and1 (pt_cmpR (op_neE hr.rm.units) (pv 1) (pe_lst pa_nil) (nomark _)))))
      (pss_one (ps_ret (pe_ix ix_list (pv 1) (c_call (ok__law_draw T) (hr.mono (by decide)) T.g__law_draw T.k__law_draw takes0 (pa_cons (pv 0) (pa_cons (pe_callB call_len (by rfl) T.n_len (by decide +kernel) (pa_cons (pv 1) pa_nil)) pa_nil))) (fun _ _ => rfl))))
      pss_nil)
      (pss_cons (ps_if (pt_cmpR op_lt (pv 2) pe_int (nomark _))
      (pss_one (ps_ret (pe_op op_sub (pe_un un_neg pe_int) (c_call (ok__law_draw T) (hr.mono (by decide)) T.g__law_draw T.k__law_draw takes0 (pa_cons (pv 0) (pa_cons (pe_ix ix_list (pe_lst (pa_cons pe_int (pa_cons pe_int (pa_cons (pe_op op_sub (pe_op op_pow pe_int pe_int) pe_int) pa_nil)))) (c_call (ok__law_draw T) (hr.mono (by decide)) T.g__law_draw T.k__law_draw takes0 (pa_cons (pv 0) (pa_cons pe_int pa_nil))) (fun _ _ => rfl)) pa_nil))))))
      pss_nil)
      (pss_one (ps_ret (pe_ix ix_list (pe_lst (pa_cons pe_bl (pa_cons pe_bl (pa_cons pe_non (pa_cons pe_str (pa_cons pe_str (pa_cons (pe_lst pa_nil) (pa_cons (pe_lst (pa_cons pe_int pa_nil)) (pa_cons (pe_tup pa_nil) (pa_cons (pe_tup (pa_cons pe_int pa_nil)) (pa_cons pe_dnewK (pa_cons (pe_disp (pps_cons pe_int pe_int pps_nil) rfl rfl (by simp) (by decide)) (pa_cons (c_make T.mk_At (ok_At_init T) (hr.mono (by decide)) T.g_At takes0 (pa_cons pe_int pa_nil)) (pa_cons (c_make T.mk_Spread (ok_Spread_init T) (hr.mono (by decide)) T.g_Spread takes0 (pa_cons (pe_lst (pa_cons (c_make T.mk_At (ok_At_init T) (hr.mono (by decide)) T.g_At takes0 (pa_cons pe_int pa_nil)) pa_nil)) pa_nil)) (pa_cons pe_str (pa_cons pe_bl (pa_cons pe_non pa_nil))))))))))))))))) (pv 2) (fun _ _ => rfl))))))), ?_⟩
    refine ⟨_, rfl, p, 16, rfl, hp, by decide, by decide, fun way H1 w0 w1 P1 => ?_⟩
    have hg1 := P1.2 _ _ gp hg
    have nq : ∀ b G, PotOn H G p → G b = none → b ≠ p := fun b G P nb z => by
      obtain ⟨x, y, e, _⟩ := P.1
      rw [z, e] at nb
      cases nb
    refine ⟨fun σ G => PotOn H G p ∧ σ = [some (.ref p), some (.ref g), some (.int way)], ?_, ?_⟩
    · refine ⟨_, rfl, _, _, rfl, rfl, _, rfl, ?_⟩
      refine ite2 (fun c => ?_) (fun c => ⟨P1, rfl⟩)
      refine ⟨_, rfl, (by decide), ?_⟩
      intro a1 na1
      have Xa1 := ex_new (o := HO.lst []) na1
      have ha1 : upd H1 a1 (HO.lst []) a1 = some (HO.lst []) := upd_same
      generalize upd H1 a1 (HO.lst []) = Ga1 at Xa1 ha1 ⊢
      refine ⟨_, _, _, rfl, rfl, (sq_lst (Xa1 _ _ hg1)), (sq_lst ha1), _, rfl, ?_⟩
      have Pa := P1.ex2 Xa1
      by_cases c0 : ns = []
      · subst c0
        exact iteF ⟨Pa, rfl⟩
      · have i0 : (natV ns).isEmpty = false := by
          cases ns with
          | nil => exact absurd rfl c0
          | cons x l => rfl
        rw [i0]
        refine iteT ?_
        have ln := List.length_pos_iff.mpr c0
        have hga := Xa1 _ _ hg1
        refine ⟨_, rfl, _, rfl, _, rfl, _, _, rfl, .inl ⟨_, sq_lst hga, rfl⟩, ?_⟩
        rw [natV_len]
        refine ⟨p, _, rfl, Pa.1, by omega, by rw [Int.toNat_natCast]; exact Nat.lt_of_le_of_lt hl (by decide +kernel), fun d G d0 d1 PG => ?_⟩
        obtain ⟨d, rfl⟩ := Int.eq_ofNat_of_zero_le d0
        have dl : d < ns.length := by omega
        have hgG := PG.2 _ _ gp hga
        refine ⟨g, _, _, _, rfl, rfl, sq_lst hgG, atI_nat (natV_get (List.getElem?_eq_getElem dl)), ?_⟩
        exact q _ G (Pa.trans PG) (.inr ⟨_, List.getElem_mem dl, rfl⟩)
    · rintro σ G ⟨PG, rfl⟩
      refine ⟨_, rfl, _, _, rfl, rfl, _, rfl, ?_⟩
      refine ite2 (fun c => ?_) (fun c => ?_)
      · refine ⟨_, rfl, _, rfl, _, _, rfl, rfl, ⟨(by decide), ⟨(by decide), (by decide)⟩⟩, _, _, rfl, rfl, (by decide), ?_⟩
        intro a1 na1
        have Xa1 := ex_new (o := HO.lst [V.int 1, V.int 1440, V.int (10 ^ Int.toNat 60 - 1)]) na1
        have ha1 : upd G a1 (HO.lst [V.int 1, V.int 1440, V.int (10 ^ Int.toNat 60 - 1)]) a1 = some (HO.lst [V.int 1, V.int 1440, V.int (10 ^ Int.toNat 60 - 1)]) := upd_same
        generalize upd G a1 (HO.lst [V.int 1, V.int 1440, V.int (10 ^ Int.toNat 60 - 1)]) = Ga1 at Xa1 ha1 ⊢
        refine ⟨_, rfl, _, _, rfl, (pot_mono PG.1 Xa1), (by decide), (by decide), ?_⟩
        intro d G2 d0 d3 Pd
        have a1p : a1 ≠ p := nq a1 _ PG na1
        obtain ⟨x, hx, ex⟩ := at_mem (xs := [V.int 1, V.int 1440, V.int (10 ^ Int.toNat 60 - 1)]) d0 (by show d < 3; exact d3)
        obtain ⟨mm, rfl, mm0, mm1⟩ : ∃ m : Int, x = .int m ∧ 0 < m ∧ m ≤ 10 ^ 60 := by
          simp only [List.mem_cons, List.not_mem_nil, or_false] at hx
          rcases hx with rfl | rfl | rfl <;> exact ⟨_, rfl, by decide +kernel, by decide +kernel⟩
        have mt : mm.toNat < 10 ^ 200 := Nat.lt_of_le_of_lt (show mm.toNat ≤ 10 ^ 60 by omega) (by decide +kernel)
        refine ⟨a1, _, _, _, rfl, rfl, sq_lst (Pd.2 _ _ a1p ha1), ex, p, mm, rfl, Pd.1, mm0, mt, fun e G3 e0 e1 P3 => ⟨_, _, rfl, rfl, ?_⟩⟩
        refine q _ G3 (((PG.ex2 Xa1).trans Pd).trans P3) (.inl ⟨.flat rfl ?_, fun z => nomatch z⟩)
        exact decide_eq_false (by show ¬ 0 ≤ -1 - e; omega)
      · refine ⟨(by decide), ?_⟩
        intro a1 na1
        have Xa1 := ex_new (o := HO.lst []) na1
        have ha1 : upd G a1 (HO.lst []) a1 = some (HO.lst []) := upd_same
        generalize upd G a1 (HO.lst []) = Ga1 at Xa1 ha1 ⊢
        refine ⟨(by decide), ?_⟩
        intro a2 na2
        have Xa2 := ex_new (o := HO.lst [V.int 7]) na2
        have ha2 : upd Ga1 a2 (HO.lst [V.int 7]) a2 = some (HO.lst [V.int 7]) := upd_same
        generalize upd Ga1 a2 (HO.lst [V.int 7]) = Ga2 at Xa2 ha2 ⊢
        refine ⟨(by decide), ?_⟩
        intro a3 na3
        have Xa3 := ex_new (o := HO.tup []) na3
        have ha3 : upd Ga2 a3 (HO.tup []) a3 = some (HO.tup []) := upd_same
        generalize upd Ga2 a3 (HO.tup []) = Ga3 at Xa3 ha3 ⊢
        refine ⟨(by decide), ?_⟩
        intro a4 na4
        have Xa4 := ex_new (o := HO.tup [V.int 7]) na4
        have ha4 : upd Ga3 a4 (HO.tup [V.int 7]) a4 = some (HO.tup [V.int 7]) := upd_same
        generalize upd Ga3 a4 (HO.tup [V.int 7]) = Ga4 at Xa4 ha4 ⊢
        try dsimp only [tNil]
        intro a5 na5
        have Xa5 := ex_new (o := HO.dK []) na5
        have ha5 : upd Ga4 a5 (HO.dK []) a5 = some (HO.dK []) := upd_same
        generalize upd Ga4 a5 (HO.dK []) = Ga5 at Xa5 ha5 ⊢
        intro a6 na6
        refine ⟨upd_same, [(Sum.inl 7, V.int 7)], rfl, by decide, ?_⟩
        have X56 : Ex Ga5 (upd (upd Ga5 a6 (HO.dK [])) a6 (HO.dK (mergeK [] [(Sum.inl 7, V.int 7)]))) := ex_mut (ex_new na6) na6
        have ha6 : upd (upd Ga5 a6 (HO.dK [])) a6 (HO.dK (mergeK [] [(Sum.inl 7, V.int 7)])) a6 = some (HO.dK (mergeK [] [(Sum.inl 7, V.int 7)])) := upd_same
        generalize upd (upd Ga5 a6 (HO.dK [])) a6 (HO.dK (mergeK [] [(Sum.inl 7, V.int 7)])) = Ga6 at X56 ha6 ⊢
        refine fun x dx nx nd ne => at_new nx nd ne fun G7 X7 hA7 => ⟨rfl, ?_⟩
        refine fun y dy ny nd ne => at_new ny nd ne fun G8 X8 hA8 => ⟨rfl, ?_⟩
        refine ⟨by show 1 ≤ sizeLine; decide, fun l nl => ?_⟩
        have X9 := ex_new (o := HO.lst [V.ref y]) nl
        have hl9 : upd G8 l (HO.lst [V.ref y]) l = some (.lst ([y].map V.ref)) := upd_same
        have hSh : ShsAt K G8 [.at 7] [y] := by
          have h0 : ShsAt K G8 [] [] := by unfold ShsAt; rfl
          exact h0.snoc (t := .at 7) (by unfold ShAt; exact hA8)
        have hSh9 := hSh.mono X9
        generalize upd G8 l (HO.lst [V.ref y]) = G9 at X9 hl9 hSh9 ⊢
        have ok1 : okL_ [Tr.at 7] := okL_one (by unfold Tr.ok; trivial)
        refine fun z dz nz nd ne => spread_new nz nd ne (.inl hl9) hSh9 (by simp [nestL, Tr.nest]) ok1 (by unfold sprB risB; simp [momsL, Tr.moms]) fun G10 X10 hS10 => ⟨rfl, ?_⟩
        refine ⟨by show 16 ≤ sizeLine; decide, fun L nL => ?_⟩
        have X11 := ex_new (o := HO.lst [V.bl true, V.bl false, V.non, V.str (Str.ofString "7:00"), V.str (Str.ofString "7"), V.ref a1, V.ref a2, V.ref a3, V.ref a4, V.ref a5, V.ref a6, V.ref x, V.ref z, V.str (Str.ofString ""), V.bl true, V.non]) nL
        have hL : upd G10 L (HO.lst [V.bl true, V.bl false, V.non, V.str (Str.ofString "7:00"), V.str (Str.ofString "7"), V.ref a1, V.ref a2, V.ref a3, V.ref a4, V.ref a5, V.ref a6, V.ref x, V.ref z, V.str (Str.ofString ""), V.bl true, V.non]) L = some (HO.lst [V.bl true, V.bl false, V.non, V.str (Str.ofString "7:00"), V.str (Str.ofString "7"), V.ref a1, V.ref a2, V.ref a3, V.ref a4, V.ref a5, V.ref a6, V.ref x, V.ref z, V.str (Str.ofString ""), V.bl true, V.non]) := upd_same
        generalize upd G10 L (HO.lst [V.bl true, V.bl false, V.non, V.str (Str.ofString "7:00"), V.str (Str.ofString "7"), V.ref a1, V.ref a2, V.ref a3, V.ref a4, V.ref a5, V.ref a6, V.ref x, V.ref z, V.str (Str.ofString ""), V.bl true, V.non]) = G11 at X11 hL ⊢
        obtain ⟨u, hu, eu⟩ := at_mem (xs := [V.bl true, V.bl false, V.non, V.str (Str.ofString "7:00"), V.str (Str.ofString "7"), V.ref a1, V.ref a2, V.ref a3, V.ref a4, V.ref a5, V.ref a6, V.ref x, V.ref z, V.str (Str.ofString ""), V.bl true, V.non]) w0 (by show way < 16; exact w1)
        have Y9 := (X9.trans X10).trans X11
        have Y8 := X8.trans Y9
        have Y7 := X7.trans Y8
        have Y6 := X56.trans Y7
        have Y5 := Xa5.trans Y6
        have Y4 := Xa4.trans Y5
        have Y3 := Xa3.trans Y4
        have Y2 := Xa2.trans Y3
        have Y1 := Xa1.trans Y2
        refine ⟨_, rfl, L, _, _, _, rfl, rfl, sq_lst hL, eu, q u G11 (PG.ex2 Y1) (.inl ?_)⟩
        have np : ∀ (b : Addr), b ≠ p → V.ref b ≠ V.ref p := fun b h z => h (V.ref.inj z)
        have Z1 := PG.ex2 Xa1
        have Z2 := Z1.ex2 Xa2
        have Z3 := Z2.ex2 Xa3
        have Z4 := Z3.ex2 Xa4
        have Z5 := Z4.ex2 Xa5
        have Z6 := Z5.ex2 X56
        have Z7 := Z6.ex2 X7
        have Z8 := (Z7.ex2 X8).ex2 X9
        obtain ⟨dx7, hA7⟩ := hA7
        obtain ⟨dx8, kp8, hd8, as8, hS10, _⟩ := hS10
        simp only [List.mem_cons, List.not_mem_nil, or_false] at hu
        rcases hu with rfl | rfl | rfl | rfl | rfl | rfl | rfl | rfl | rfl | rfl | rfl | rfl | rfl | rfl | rfl | rfl
        · exact ⟨.flat rfl rfl, fun z => nomatch z⟩
        · exact ⟨.flat rfl rfl, fun z => nomatch z⟩
        · exact ⟨.flat rfl rfl, fun z => nomatch z⟩
        · exact ⟨.flat rfl rfl, fun z => nomatch z⟩
        · exact ⟨.flat rfl rfl, fun z => nomatch z⟩
        · exact ⟨.lst (Y2 _ _ ha1), np _ (nq _ _ PG na1)⟩
        · exact ⟨.lst (Y3 _ _ ha2), np _ (nq _ _ Z1 na2)⟩
        · exact ⟨.tup (Y4 _ _ ha3), np _ (nq _ _ Z2 na3)⟩
        · exact ⟨.tup (Y5 _ _ ha4), np _ (nq _ _ Z3 na4)⟩
        · exact ⟨.dK (Y6 _ _ ha5), np _ (nq _ _ Z4 na5)⟩
        · exact ⟨.dK (Y7 _ _ ha6), np _ (nq _ _ Z5 na6)⟩
        · exact ⟨.at (Y8 _ _ hA7), np _ (nq _ _ Z6 nx)⟩
        · exact ⟨.spr (X11 _ _ hS10), np _ (nq _ _ Z8 nz)⟩
        · exact ⟨.flat rfl rfl, fun z => nomatch z⟩
        · exact ⟨.flat rfl rfl, fun z => nomatch z⟩
        · exact ⟨.flat rfl rfl, fun z => nomatch z⟩
theorem ok__law_odd {P : Program} {w : World} {K : PySem.W.Frag} {mg : Str → Option Value} {base : Heap} (T : Env K mg) : Fc P w K mg base 95 (He.ga K "_law_odd") [] (sp__law_odd K ) := by
  obtain ⟨fd, D, F⟩ := fb__law_odd T
  exact F.all (D.bindsN fun _ _ _ _ _ _ us hl => match us, hl with | [_, _], _ => rfl)
end
section
theorem OddV.cl {K : PySem.W.Frag} {mg : Str → Option Value} (T : Env K mg) {H : Hp} {x : V} (h : OddV K H x) : Cl K H x ∧ isM x = false := by
  cases h with
  | @flat x f m =>
    refine ⟨?_, m⟩
    cases x with
    | non => exact cl_non
    | bl b => exact cl_bl b
    | int i => exact cl_int i
    | str z => exact cl_str z
    | _ => cases f
  | lst h => exact ⟨cl_lst h, rfl⟩
  | tup h => exact ⟨cl_tup h, rfl⟩
  | dK h => exact ⟨cl_dK h, rfl⟩
  | «at» h =>
    exact ⟨⟨_, false, false, ty_ins T.i_At T.c_At h, T.kit_At_int, T.kit_At_bool, rfl⟩, rfl⟩
  | spr h =>
    exact ⟨⟨_, false, false, ty_ins T.i_Spread T.c_Spread h, T.kit_Spread_int, T.kit_Spread_bool, rfl⟩, rfl⟩
theorem mom_bad {K : PySem.W.Frag} {H : Hp} {t : Bool} {a : Addr} {xs : List V} {x : V} (h : H a = some (if t = true then .tup xs else .lst xs)) (hl : xs.length ≤ 10000) (hc : ∀ y ∈ xs, Cl K H y) (hx : x ∈ xs) (hm : isM x = false) : MomG K H (.ref a) none := by
  refine .inl ⟨a, xs, rfl, ?_, hl, hc, ?_⟩
  · cases t
    · exact .inl h
    · exact .inr h
  · unfold momList
    rw [if_neg]
    intro z
    have := List.all_eq_true.mp (Bool.and_eq_true_iff.mp z).1 x hx
    rw [hm] at this
    cases this
theorem mom_twice {K : PySem.W.Frag} {H : Hp} {t : Bool} {a : Addr} {ns : List Nat} (h : H a = some (if t = true then .tup (natV ns) else .lst (natV ns))) (hl : ns.length ≤ 10000) (hn : ¬ ns.Nodup) : MomG K H (.ref a) none := by
  refine .inl ⟨a, natV ns, rfl, ?_, by rw [natV_len]; exact hl, fun y hy => ?_, ?_⟩
  · cases t
    · exact .inl h
    · exact .inr h
  · obtain ⟨n, _, rfl⟩ := List.mem_map.mp hy
    exact cl_int _
  · rw [momList_nat, if_neg hn]
/-- no list, no tuple -/
theorem mom_no {K : PySem.W.Frag} {H : Hp} {x : V} {t : Value} (ty : TyX K H x t) (h1 : PySem.W.kitOne K t (.type "list") = some false) (h2 : PySem.W.kitOne K t (.type "tuple") = some false) : MomG K H x none :=
  .inr ⟨⟨t, ty, kitAny_cons (b := false) h1 (fun _ => kitAny_cons (b := false) h2 (fun _ => kitAny_nil) (by decide)) (by decide)⟩, rfl⟩
theorem inW_ints {K : PySem.W.Frag} {C : Addr} {sp : Sp} {a b : Addr} {ys : List V} {H : Hp} {Q : Bool → Hp → Prop} {dx : Addr} {fs : List (Str × V)} (hb : H b = some (.ins C dx fs)) (hs : SqL K H a ys) (hsp : ∀ (i : Int) (R : VK), R (.bl false) H → sp [.ref b, .int i] H R (fun _ _ _ => False)) (q : Q false H) : ∀ l : List Int, inW (rEqR K C sp) K a ys b (l.map V.int) H Q
  | [] => ⟨hs, q⟩
  | i :: l => by
    refine ⟨hs, .inr ⟨(fun z => nomatch z), b, dx, fs, rfl, hb, .int i, hsp i _ ⟨false, rfl, ?_⟩⟩⟩
    rw [if_neg (by decide)]
    exact inW_ints hb hs hsp q l
def sp__law_bad (K : PySem.W.Frag) : Sp := fun vs H Q _ => ∃ (p g : Addr) (ns : List Nat), vs = [.ref p, .ref g] ∧ Pot H p ∧ g ≠ p ∧ H g = some (.lst (natV ns)) ∧ ns.length ≤ 40 ∧ ns.Nodup ∧ ∀ x H', PotOn H H' p → MomG K H' x none → Q x H'
theorem fb__law_bad {P : Program} {w : World} {K : PySem.W.Frag} {mg : Str → Option Value} {base : Heap} (T : Env K mg) : ∃ fd, FunD K "_law_bad" "_law_bad" (defArgs s__law_bad) (defBody s__law_bad) (defScope s__law_bad) [] [] (He.ga K "_law_bad") fd ∧ Fb P w K mg base 100 (He.ga K "_law_bad") fd ["_law_pot_here", "_law_good_here"] (sp__law_bad K) := by
  obtain ⟨fd, F⟩ := T.f__law_bad
  refine ⟨fd, F, fb_of F sc__law_bad (fun vs H Q E h => ?_) (fun cdv A outer s H vs Q E hr h => ?_)⟩
  · obtain ⟨p, g, ns, rfl, _⟩ := h
    rfl
  · obtain ⟨p, g, ns, rfl, hp, gp, hg, hl, nD, q⟩ := h
    refine ⟨_, (pss_cons (ps_set (i := 2) sc__law_bad.nd rfl (Or.inl rfl) (c_call (ok__law_draw T) (hr.mono (by decide)) T.g__law_draw T.k__law_draw takes0 (pa_cons (pv 0) (pa_cons pe_int pa_nil))))
      (pss_cons (ps_if (pt_cmpR op_eq (pv 2) pe_int (nomark _))
      (pss_one (ps_ret (pe_ix ix_list (pe_lst (pa_cons pe_non (pa_cons pe_int (pa_cons pe_bl (pa_cons pe_str (pa_cons pe_str (pa_cons pe_dnewK (pa_cons (pe_disp (pps_cons pe_int pe_int pps_nil) rfl rfl (by simp) (by decide)) (pa_cons (c_make T.mk_At (ok_At_init T) (hr.mono (by decide)) T.g_At takes0 (pa_cons pe_int pa_nil)) (pa_cons (c_make T.mk_Spread (ok_Spread_init T) (hr.mono (by decide)) T.g_Spread takes0 (pa_cons (pe_lst pa_nil) pa_nil)) (pa_cons pe_int (pa_cons pe_str (pa_cons (pe_un un_neg pe_int) pa_nil))))))))))))) (c_call (ok__law_draw T) (hr.mono (by decide)) T.g__law_draw T.k__law_draw takes0 (pa_cons (pv 0) (pa_cons pe_int pa_nil))) (fun _ _ => rfl))))
      pss_nil)
      (pss_cons (ps_set (i := 3) sc__law_bad.nd rfl (Or.inl rfl) (c_call (ok__law_odd T) (hr.mono (by decide)) T.g__law_odd T.k__law_odd takes0 (pa_cons (pv 0) (pa_cons (pv 1) pa_nil))))
      (pss_cons (ps_set (i := 4) sc__law_bad.nd rfl (Or.inl rfl) (pe_callTy call_list_of (by rfl) T.n_list (by decide +kernel) (pa_cons (pv 1) pa_nil)))
      (pss_cons (ps_set (i := 5) sc__law_bad.nd rfl (Or.inl rfl) (c_call (ok__law_draw T) (hr.mono (by decide)) T.g__law_draw T.k__law_draw takes0 (pa_cons (pv 0) (pa_cons (pe_op op_add (pe_callB call_len (by rfl) T.n_len (by decide +kernel) (pa_cons (pv 4) pa_nil)) pe_int) pa_nil))))
      (Evl.pss_cut (ps_if (PW.pt (pw_and (pt_cmpR op_lt (pv 2) pe_int (nomark _)) (pw_and (pt_cmpR op_lt (pv 5) (pe_callB call_len (by rfl) T.n_len (by decide +kernel) (pa_cons (pv 4) pa_nil)) (nomark _)) (pw_and1 (pt_cmpR (op_or (op_notInP K hr.rm.units) (op_notInO K (rco_RK K T.nb_Spread T.m_Spread_eq (ok_Spread_eq T)) (hr.mono (by decide)))) (pv 3) (pv 4) (by rfl))))))
      (pss_one (ps_asg (pv 3) (pg_sub (pv 4) (pv 5) set_list)))
      (pss_one (ps_expr (pe_bm PySem.F.plainAttrs_list PySem.F.slot_list_insert PySem.F.type_list_insert mt_insert (pv 4) (pa_cons (pv 5) (pa_cons (pv 3) pa_nil))))))
      (Evl.pss_cut (ps_if (pt_cmpR op_eq (pe_op op_mod (pv 2) pe_int) pe_int (nomark _))
      (pss_one (ps_set (i := 4) sc__law_bad.nd rfl (Or.inl rfl) (pe_callTy call_tuple_of (by rfl) T.n_tuple (by decide +kernel) (pa_cons (pv 4) pa_nil))))
      pss_nil)
      (pss_one (ps_ret (pv 4)))))))))), ?_⟩
    refine ⟨_, rfl, p, 5, rfl, hp, by decide, by decide, fun way H1 w0 w1 P1 => ?_⟩
    have hg1 := P1.2 _ _ gp hg
    have nq : ∀ b G, PotOn H G p → G b = none → b ≠ p := fun b G P nb z => by
      obtain ⟨x, y, e, _⟩ := P.1
      rw [z, e] at nb
      cases nb
    refine ⟨_, rfl, rfl, _, rfl, ?_⟩
    rw [vint_dec]
    refine ite2 (fun c => ?_) (fun c => ?_)
    · intro a5 na5
      have Xa5 := ex_new (o := HO.dK []) na5
      have ha5 : upd H1 a5 (HO.dK []) a5 = some (HO.dK []) := upd_same
      generalize upd H1 a5 (HO.dK []) = Ga5 at Xa5 ha5 ⊢
      intro a6 na6
      refine ⟨upd_same, [(Sum.inl 7, V.int 7)], rfl, by decide, ?_⟩
      have X56 : Ex Ga5 (upd (upd Ga5 a6 (HO.dK [])) a6 (HO.dK (mergeK [] [(Sum.inl 7, V.int 7)]))) := ex_mut (ex_new na6) na6
      have ha6 : upd (upd Ga5 a6 (HO.dK [])) a6 (HO.dK (mergeK [] [(Sum.inl 7, V.int 7)])) a6 = some (HO.dK (mergeK [] [(Sum.inl 7, V.int 7)])) := upd_same
      generalize upd (upd Ga5 a6 (HO.dK [])) a6 (HO.dK (mergeK [] [(Sum.inl 7, V.int 7)])) = Ga6 at X56 ha6 ⊢
      refine fun x dx nx nd ne => at_new nx nd ne fun G7 X7 hA7 => ⟨rfl, ?_⟩
      refine ⟨by show 0 ≤ sizeLine; decide, fun l nl => ?_⟩
      have X9 := ex_new (o := HO.lst []) nl
      have hl9 : upd G7 l (HO.lst []) l = some (.lst (([] : List Addr).map V.ref)) := upd_same
      generalize upd G7 l (HO.lst []) = G9 at X9 hl9 ⊢
      have hSh : ShsAt K G9 [] [] := by unfold ShsAt; rfl
      refine fun z dz nz nd ne => spread_new nz nd ne (.inl hl9) hSh (by simp [nestL]) (by unfold okL_; trivial) (by unfold sprB risB; simp [momsL]) fun G10 X10 hS10 => ⟨rfl, ?_⟩
      refine ⟨_, rfl, by show 12 ≤ sizeLine; decide, fun L nL => ?_⟩
      have X11 := ex_new (o := HO.lst [V.non, V.int 7, V.bl true, V.str (Str.ofString "7:00"), V.str (Str.ofString ""), V.ref a5, V.ref a6, V.ref x, V.ref z, V.int 0, V.str (Str.ofString "7"), V.int (-1)]) nL
      have hL : upd G10 L (HO.lst [V.non, V.int 7, V.bl true, V.str (Str.ofString "7:00"), V.str (Str.ofString ""), V.ref a5, V.ref a6, V.ref x, V.ref z, V.int 0, V.str (Str.ofString "7"), V.int (-1)]) L = some (HO.lst [V.non, V.int 7, V.bl true, V.str (Str.ofString "7:00"), V.str (Str.ofString ""), V.ref a5, V.ref a6, V.ref x, V.ref z, V.int 0, V.str (Str.ofString "7"), V.int (-1)]) := upd_same
      have Y10 := ((Xa5.trans X56).trans X7).trans (X9.trans X10)
      have P10 := P1.ex2 Y10
      have Lp := nq L _ P10 nL
      have P11 := P10.ex2 X11
      generalize upd G10 L (HO.lst [V.non, V.int 7, V.bl true, V.str (Str.ofString "7:00"), V.str (Str.ofString ""), V.ref a5, V.ref a6, V.ref x, V.ref z, V.int 0, V.str (Str.ofString "7"), V.int (-1)]) = G11 at X11 hL P11 ⊢
      refine ⟨_, rfl, p, 12, rfl, P11.1, by decide, by decide, fun d G12 d0 d1 P12 => ?_⟩
      have st : ∀ b o, b ≠ p → G11 b = some o → G12 b = some o := fun b o e h => P12.2 b o e h
      have n5 : a5 ≠ p := nq a5 _ P1 na5
      have n6 : a6 ≠ p := nq a6 _ (P1.ex2 Xa5) na6
      have nx7 : x ≠ p := nq x _ (P1.ex2 (Xa5.trans X56)) nx
      have nz10 : z ≠ p := nq z _ (P1.ex2 (((Xa5.trans X56).trans X7).trans X9)) nz
      have k5 := st _ _ n5 (X11 _ _ ((((X56.trans X7).trans X9).trans X10) _ _ ha5))
      have k6 := st _ _ n6 (X11 _ _ (((X7.trans X9).trans X10) _ _ ha6))
      obtain ⟨dy, hA⟩ := hA7
      have k7 := st _ _ nx7 (X11 _ _ ((X9.trans X10) _ _ hA))
      obtain ⟨dz2, kp2, hd2, as2, hS, _⟩ := hS10
      have k8 := st _ _ nz10 (X11 _ _ hS)
      obtain ⟨u, hu, eu⟩ := at_mem (xs := [V.non, V.int 7, V.bl true, V.str (Str.ofString "7:00"), V.str (Str.ofString ""), V.ref a5, V.ref a6, V.ref x, V.ref z, V.int 0, V.str (Str.ofString "7"), V.int (-1)]) d0 (by show d < 12; exact d1)
      refine ⟨L, _, _, _, rfl, rfl, sq_lst (st _ _ Lp hL), eu, q u G12 (P11.trans P12) ?_⟩
      simp only [List.mem_cons, List.not_mem_nil, or_false] at hu
      rcases hu with rfl | rfl | rfl | rfl | rfl | rfl | rfl | rfl | rfl | rfl | rfl | rfl
      · exact mom_no (.base .non) (kit_ty (by decide +kernel)) (kit_ty (by decide +kernel))
      · exact mom_no (.base (.int _)) (kit_ty (by decide +kernel)) (kit_ty (by decide +kernel))
      · exact mom_no (.base (.bl _)) (kit_ty (by decide +kernel)) (kit_ty (by decide +kernel))
      · exact mom_no (.base (.str _)) (kit_ty (by decide +kernel)) (kit_ty (by decide +kernel))
      · exact mom_no (.base (.str _)) (kit_ty (by decide +kernel)) (kit_ty (by decide +kernel))
      · exact mom_no (.base (.dK k5)) (kit_ty (by decide +kernel)) (kit_ty (by decide +kernel))
      · exact mom_no (.base (.dK k6)) (kit_ty (by decide +kernel)) (kit_ty (by decide +kernel))
      · exact mom_no (ty_ins T.i_At T.c_At k7) T.kit_At_list T.kit_At_tuple
      · exact mom_no (ty_ins T.i_Spread T.c_Spread k8) T.kit_Spread_list T.kit_Spread_tuple
      · exact mom_no (.base (.int _)) (kit_ty (by decide +kernel)) (kit_ty (by decide +kernel))
      · exact mom_no (.base (.str _)) (kit_ty (by decide +kernel)) (kit_ty (by decide +kernel))
      · exact mom_no (.base (.int _)) (kit_ty (by decide +kernel)) (kit_ty (by decide +kernel))
    · refine ⟨_, rfl, _, rfl, p, g, ns, rfl, P1.1, gp, hg1, hl, fun x H2 P2 hx => ?_⟩
      have P02 := P1.trans P2
      have hg2 := P2.2 _ _ gp hg1
      refine ⟨_, rfl, _, _, rfl, (.inl (sq_lst hg2)), ?_⟩
      intro a1 na1
      have Xa1 := ex_new (o := HO.lst (natV ns)) na1
      have ha1 : upd H2 a1 (HO.lst (natV ns)) a1 = some (HO.lst (natV ns)) := upd_same
      generalize upd H2 a1 (HO.lst (natV ns)) = Ga1 at Xa1 ha1 ⊢
      refine ⟨_, rfl, _, rfl, _, _, rfl, (.inl ⟨_, ⟨(sq_lst ha1), rfl⟩⟩), _, _, rfl, rfl, _, _, rfl, (pot_mono P02.1 Xa1), (by omega), ?_⟩
      have P2a := P02.ex2 Xa1
      have fp : a1 ≠ p := nq a1 _ P02 na1
      have nf : H a1 = none := P02.fresh na1
      have hx1 : (OddV K Ga1 x ∧ x ≠ .ref p) ∨ ∃ n ∈ ns, x = .int (n : Nat) := hx.imp (fun h => ⟨h.1.mono Xa1, h.2⟩) id
      refine ⟨by rw [natV_len]; exact Nat.lt_of_le_of_lt (show _ ≤ 1000 by omega) (by decide +kernel), fun at_ H3 t0 t1 P3 => ?_⟩
      obtain ⟨at_, rfl⟩ := Int.eq_ofNat_of_zero_le t0
      rw [natV_len] at t1
      have hf3 := P3.2 _ _ fp ha1
      have P03 := P2a.trans P3
      refine ⟨fun σ G => PotOn H G p ∧ ∃ xs : List V, G a1 = some (.lst xs) ∧ xs.length ≤ 41 ∧ (∀ t b G', Ex G G' → G' b = some (if t = true then .tup xs else .lst xs) → MomG K G' (.ref b) none) ∧ σ = [some (.ref p), some (.ref g), some (.int way), some x, some (.ref a1), some (.int (at_ : Nat))], ?_, ?_⟩
      · have hx3 : OddV K H3 x ∨ ∃ n ∈ ns, x = .int (n : Nat) := hx1.imp (fun h => h.1.stays fun b o e hb => P3.2 b o (fun z => h.2 (by rw [e, z])) hb) id
        have cx : Cl K H3 x := by
          rcases hx3 with h | ⟨n, _, rfl⟩
          · exact (h.cl T).1
          · exact cl_int _
        have hz : (natV ns).length < sizeLine := sz_lt (by rw [natV_len]; omega)
        have upE : ∀ o G', Ex (upd H3 a1 o) G' → (∀ y, y = x → (∀ b, y ≠ .ref b) ∨ x ≠ .ref a1) → True := fun _ _ _ _ => trivial
        have xa : x ≠ .ref a1 := fun z => by
          rcases hx1 with ⟨h, _⟩ | ⟨n, _, e⟩
          · subst z
            rcases hx with ⟨h2, _⟩ | ⟨n, _, e⟩
            · cases h2 with
              | flat f _ => cases f
              | lst h => rw [na1] at h; cases h
              | tup h => rw [na1] at h; cases h
              | dK h => rw [na1] at h; cases h
              | «at» h => rw [na1] at h; cases h
              | spr h => rw [na1] at h; cases h
            · cases e
          · rw [e] at z
            cases z
        have cl4 : ∀ o, Cl K (upd H3 a1 o) x := fun o => cx.at fun b u e hb => by
          rw [upd_ne (fun z => xa (by rw [e, z]))]
          exact hb
        have clN : ∀ (G' : Hp) (y : V), y ∈ natV ns → Cl K G' y := fun G' y hy => by
          obtain ⟨n, _, rfl⟩ := List.mem_map.mp hy
          exact cl_int _
        have badM : ∀ (xs : List V) (hm : isM x = false) (hin : x ∈ xs) (hsub : ∀ y ∈ xs, y = x ∨ y ∈ natV ns) (hl41 : xs.length ≤ 41), ∀ t b G', Ex (upd H3 a1 (.lst xs)) G' → G' b = some (if t = true then .tup xs else .lst xs) → MomG K G' (.ref b) none := fun xs hm hin hsub hl41 t b G' X hb =>
          mom_bad hb (by omega) (fun y hy => by
            rcases hsub y hy with rfl | h
            · exact (cl4 _).mono X
            · exact clN G' y h) hin hm
        have al : at_ ≤ ns.length := by omega
        have fin : PotOn H (upd H3 a1 (.lst ((natV ns).take at_ ++ [x] ++ (natV ns).drop at_))) p ∧ ∃ xs : List V, (upd H3 a1 (.lst ((natV ns).take at_ ++ [x] ++ (natV ns).drop at_))) a1 = some (.lst xs) ∧ xs.length ≤ 41 ∧ (∀ t b G', Ex (upd H3 a1 (.lst ((natV ns).take at_ ++ [x] ++ (natV ns).drop at_))) G' → G' b = some (if t = true then .tup xs else .lst xs) → MomG K G' (.ref b) none) ∧ [some (V.ref p), some (.ref g), some (.int way), some x, some (.ref a1), some (.int (at_ : Nat))] = [some (.ref p), some (.ref g), some (.int way), some x, some (.ref a1), some (.int (at_ : Nat))] := by
          have ll : ((natV ns).take at_ ++ [x] ++ (natV ns).drop at_).length ≤ 41 := by
            rw [List.length_append, List.length_append, List.length_take, List.length_drop, natV_len]
            show min at_ ns.length + 1 + (ns.length - at_) ≤ 41
            omega
          refine ⟨pot_upd P03 nf fp, _, upd_same, ll, ?_, rfl⟩
          rcases hx3 with h | ⟨n, hn, rfl⟩
          · refine badM _ (h.cl T).2 (List.mem_append_left _ (List.mem_append_right _ List.mem_cons_self)) (fun y hy => ?_) ll
            rcases List.mem_append.mp hy with hy | hy
            · rcases List.mem_append.mp hy with hy | hy
              · exact .inr (List.mem_of_mem_take hy)
              · exact .inl (List.mem_singleton.mp hy)
            · exact .inr (List.mem_of_mem_drop hy)
          · intro t b G' X hb
            have el : (natV ns).take at_ ++ [V.int (n : Nat)] ++ (natV ns).drop at_ = natV (ns.take at_ ++ [n] ++ ns.drop at_) := by
              unfold natV
              rw [List.map_append, List.map_append, List.map_take, List.map_drop]
              rfl
            rw [el] at hb ll
            refine mom_twice hb (by rw [natV_len] at ll; omega) fun z => ?_
            rw [List.append_assoc] at z
            have hn2 : n ∈ ns.take at_ ++ ns.drop at_ := by rw [List.take_append_drop]; exact hn
            rcases List.mem_append.mp hn2 with h | h
            · exact (List.nodup_append.mp z).2.2 n h n (List.mem_append_left _ List.mem_cons_self) rfl
            · have z2 := (List.nodup_append.mp z).2.1
              exact (List.nodup_append.mp z2).2.2 n List.mem_cons_self n h rfl
        refine ⟨_, rfl, _, _, rfl, rfl, _, rfl, ?_⟩
        have tn : ((at_ : Nat) : Int).toNat = at_ := by omega
        refine ite2 (fun c1 => ?_) (fun c1 => ?_)
        rotate_left
        · refine ⟨_, rfl, .inl ⟨rfl, _, sq_lst hf3⟩, _, rfl, _, rfl, a1, natV ns, (at_ : Nat), x, rfl, rfl, hf3, hz, by omega, by omega, ?_⟩
          rw [tn]
          exact fin
        refine ⟨_, rfl, _, rfl, _, _, rfl, (.inl ⟨_, ⟨(sq_lst hf3), rfl⟩⟩), _, _, rfl, rfl, _, rfl, ?_⟩
        try dsimp only [tNil]
        refine ite2 (fun c2 => ?_) (fun c2 => ?_)
        rotate_left
        · refine ⟨_, rfl, .inl ⟨rfl, _, sq_lst hf3⟩, _, rfl, _, rfl, a1, natV ns, (at_ : Nat), x, rfl, rfl, hf3, hz, by omega, by omega, ?_⟩
          rw [tn]
          exact fin
        have at2 : at_ < ns.length := by
          have := of_decide_eq_true c2
          rw [natV_len] at this
          omega
        have fl : ∀ z ∈ natV ns, flatV z = true := fun z hz => by
          obtain ⟨n, _, rfl⟩ := List.mem_map.mp hz
          rfl
        have key : ∀ R : VK, (∀ b, (b = true → OddV K H3 x) → R (.bl b) H3) → rOr (rInP K true) (rNotInO (rEqR K (He.ga K "Spread") (sp_Spread_eq K)) K) x (.ref a1) H3 R := by
          intro R hR
          have pure : ∀ e : V → Bool, (∀ z ∈ natV ns, EqP K H3 z x (e z)) → OddV K H3 x → rOr (rInP K true) (rNotInO (rEqR K (He.ga K "Spread") (sp_Spread_eq K)) K) x (.ref a1) H3 R := fun e he ho => .inl ⟨a1, natV ns, e, rfl, .inl (sq_lst hf3), he, hR _ fun _ => ho⟩
          rcases hx3 with h | ⟨n, hn, rfl⟩
          · have h' := h
            cases h with
            | flat f m => exact pure (fun z => eqV z x) (fun z hz => .inl ⟨fl z hz, f, rfl⟩) h'
            | lst h => exact pure (fun _ => false) (fun z hz => .inr (.inl ⟨.FL (sq_lst h) (fl z hz), rfl⟩)) h'
            | tup h => exact pure (fun _ => false) (fun z hz => .inr (.inl ⟨.FT (sq_tup h) (fl z hz), rfl⟩)) h'
            | dK h => exact pure (fun _ => false) (fun z hz => .inr (.inl ⟨.FD h (fl z hz), rfl⟩)) h'
            | «at» h =>
              refine pure (fun _ => false) (fun z hz => .inr (.inl ⟨.R h T.nq_At ?_, rfl⟩)) h'
              obtain ⟨n, _, rfl⟩ := List.mem_map.mp hz
              exact .int _
            | @spr b dx fs h =>
              refine .inr ⟨b, a1, natV ns, rfl, rfl, ?_⟩
              have hs := sq_lst (K := K) hf3
              rw [nat_int ns] at hs ⊢
              exact inW_ints h hs (fun i R2 q2 => ⟨b, _, rfl, .inr ⟨_, .base (.int i), T.kit_int_Spread, q2⟩⟩) (hR _ fun _ => h') _
          · refine .inl ⟨a1, natV ns, fun z => eqV z (.int (n : Nat)), rfl, .inl (sq_lst hf3), fun z hz => .inl ⟨fl z hz, rfl, rfl⟩, ?_⟩
            have e : (natV ns).any (fun z => eqV z (.int (n : Nat))) = true := List.any_eq_true.mpr ⟨_, List.mem_map.mpr ⟨n, hn, rfl⟩, by show (((n : Nat) : Int) == ((n : Nat) : Int)) = true; exact beq_self_eq_true _⟩
            rw [if_pos rfl, e]
            exact hR false fun z => nomatch z
        refine ⟨_, rfl, _, rfl, key _ fun b hb => ⟨b, rfl, ?_⟩⟩
        cases b with
        | false =>
          refine iteF ⟨_, rfl, .inl ⟨rfl, _, sq_lst hf3⟩, _, rfl, _, rfl, a1, natV ns, (at_ : Nat), x, rfl, rfl, hf3, hz, by omega, by omega, ?_⟩
          rw [tn]
          exact fin
        | true =>
          have ho := hb rfl
          have ixn : ixN (natV ns).length ((at_ : Nat) : Int) = some at_ := by
            rw [natV_len]
            unfold ixN
            rw [if_pos (by omega), if_pos (by omega), Int.toNat_natCast]
          refine iteT ⟨_, rfl, _, rfl, _, rfl, a1, natV ns, _, at_, rfl, rfl, hf3, ixn, ?_⟩
          refine ⟨pot_upd P03 nf fp, (natV ns).set at_ x, upd_same, by rw [List.length_set, natV_len]; omega, ?_, rfl⟩
          exact badM _ (ho.cl T).2 (List.mem_of_getElem? (List.getElem?_set_self (by rw [natV_len]; exact at2))) (fun y hy => (List.mem_or_eq_of_mem_set hy).symm) (by rw [List.length_set, natV_len]; omega)
      · rintro σ G ⟨PG, xs, hxs, lx, hm, rfl⟩
        refine ⟨fun σ G => PotOn H G p ∧ ∃ b : Addr, MomG K G (.ref b) none ∧ σ = [some (.ref p), some (.ref g), some (.int way), some x, some (.ref b), some (.int (at_ : Nat))], ?_, ?_⟩
        · refine ⟨_, rfl, _, _, rfl, rfl, (by omega), rfl, _, rfl, ?_⟩
          try dsimp only [tNil]
          rw [vint_dec]
          refine ite2 (fun c => ?_) (fun c => ?_)
          · exact ⟨_, rfl, _, _, rfl, .inl ⟨sq_lst hxs, fun l nl => ⟨PG.ex2 (ex_new nl), l, hm true l _ (ex_new nl) upd_same, rfl⟩⟩⟩
          · exact ⟨PG, a1, hm false a1 G (.refl _) hxs, rfl⟩
        · rintro σ G ⟨PG, b, hb, rfl⟩
          exact ⟨_, rfl, q _ G PG hb⟩
theorem ok__law_bad {P : Program} {w : World} {K : PySem.W.Frag} {mg : Str → Option Value} {base : Heap} (T : Env K mg) : Fc P w K mg base 100 (He.ga K "_law_bad") [] (sp__law_bad K ) := by
  obtain ⟨fd, D, F⟩ := fb__law_bad T
  exact F.all (D.bindsN fun _ _ _ _ _ _ us hl => match us, hl with | [_, _], _ => rfl)
end
section
def sp__law_kinds (K : PySem.W.Frag) : SpP := fun p vs H Q _ => ∃ (a : Addr), vs = [.ref a] ∧ p.1 = a ∧ Zc (.ref (He.ga K "NoPiece")) none p.2 ∧ (∃ vs, p.2.data = .fields vs) ∧ ∀ f H', Ex H H' → H f = none → H' f = some (.lst [.bl true, .bl true, .bl true, .bl false, .bl false]) → Q (.ref f) H'
theorem fb__law_kinds {P : Program} {w : World} {K : PySem.W.Frag} {mg : Str → Option Value} {base : Heap} (T : Env K mg) : ∃ fd, FunD K "_law_kinds" "_law_kinds" (defArgs s__law_kinds) (defBody s__law_kinds) (defScope s__law_kinds) [] [] (He.ga K "_law_kinds") fd ∧ FbP P w K mg base 1 (He.ga K "_law_kinds") fd ["_law_e"] (sp__law_kinds K) := by
  obtain ⟨fd, F⟩ := T.f__law_kinds
  refine ⟨fd, F, fbP_of F sc__law_kinds (fun p vs H Q E h => ?_) (fun cdv A outer s H vs Q E p hr h => ?_)⟩
  · obtain ⟨a, rfl, _⟩ := h
    rfl
  · obtain ⟨b, oe⟩ := p
    obtain ⟨a, rfl, e, hz, hf, q⟩ := h
    dsimp only at e hz hf
    subst e
    have hp : (b, oe) ∈ [(b, oe)] := List.mem_singleton.mpr rfl
    refine ⟨_, (pss_cons (ps_set (i := 1) sc__law_kinds.nd rfl (Or.inl rfl) (pe_lst (pa_cons (pe_callB (call_isP K hp hz hf) (by rfl) T.n_isinstance (by decide +kernel) (pa_cons (pv 0) (pa_cons (pe_glob (v := .ref _) (by rfl) T.g_NoPiece rfl) pa_nil))) (pa_cons (pe_callB (call_isP K hp hz hf) (by rfl) T.n_isinstance (by decide +kernel) (pa_cons (pv 0) (pa_cons (pe_glob (v := .ref _) (by rfl) T.g_GoingError rfl) pa_nil))) (pa_cons (pe_callB (call_isP K hp hz hf) (by rfl) T.n_isinstance (by decide +kernel) (pa_cons (pv 0) (pa_cons (pe_bltn (v := .ty "ValueError") (by rfl) T.n_ValueError (by decide +kernel) rfl) pa_nil))) pa_nil)))))
      (pss_cons (ps_expr (pe_bm PySem.F.plainAttrs_list PySem.F.slot_list_append PySem.F.type_list_append mt_append (pv 1) (pa_cons (pe_callB (call_isPT K hp hz hf) (by rfl) T.n_isinstance (by decide +kernel) (pa_cons (pv 0) (pa_cons (pe_tup (pa_cons (pe_glob (v := .ref _) (by rfl) T.g_NoTime rfl) (pa_cons (pe_glob (v := .ref _) (by rfl) T.g_NoDays rfl) (pa_cons (pe_glob (v := .ref _) (by rfl) T.g_NoCard rfl) (pa_cons (pe_glob (v := .ref _) (by rfl) T.g_NoName rfl) (pa_cons (pe_glob (v := .ref _) (by rfl) T.g_NoRow rfl) (pa_cons (pe_glob (v := .ref _) (by rfl) T.g_NoText rfl) (pa_cons (pe_glob (v := .ref _) (by rfl) T.g_NoLine rfl) (pa_cons (pe_glob (v := .ref _) (by rfl) T.g_NoGoing rfl) pa_nil))))))))) pa_nil))) pa_nil)))
      (pss_cons (ps_expr (pe_bm PySem.F.plainAttrs_list PySem.F.slot_list_append PySem.F.type_list_append mt_append (pv 1) (pa_cons (pe_callB (call_isPT K hp hz hf) (by rfl) T.n_isinstance (by decide +kernel) (pa_cons (pv 0) (pa_cons (pe_tup (pa_cons (pe_glob (v := .ref _) (by rfl) T.g_Needed rfl) (pa_cons (pe_glob (v := .ref _) (by rfl) T.g_Taken rfl) (pa_cons (pe_glob (v := .ref _) (by rfl) T.g_Round rfl) (pa_cons (pe_glob (v := .ref _) (by rfl) T.g_TooMuch rfl) (pa_cons (pe_bltn (v := .ty "LookupError") (by rfl) T.n_LookupError (by decide +kernel) rfl) (pa_cons (pe_bltn (v := .ty "RuntimeError") (by rfl) T.n_RuntimeError (by decide +kernel) rfl) pa_nil))))))) pa_nil))) pa_nil)))
      (pss_one (ps_ret (pv 1)))))), ?_⟩
    refine ⟨_, rfl, _, _, _, true, rfl, T.xc_NoPiece, .inl rfl, rfl, .own _, T.kit_NoPiece_NoPiece, ?_⟩
    refine ⟨_, rfl, _, _, _, true, rfl, T.xc_NoPiece, .inl rfl, rfl, .own _, T.kit_NoPiece_GoingError, ?_⟩
    refine ⟨_, rfl, _, _, _, true, rfl, T.xc_NoPiece, .inl rfl, rfl, .ty _, T.kit_NoPiece_ValueError, ?_⟩
    refine ⟨(by decide), ?_⟩
    intro a1 na1
    have Xa1 := ex_new (o := HO.lst [V.bl true, V.bl true, V.bl true]) na1
    have ha1 : upd H a1 (HO.lst [V.bl true, V.bl true, V.bl true]) a1 = some (HO.lst [V.bl true, V.bl true, V.bl true]) := upd_same
    generalize upd H a1 (HO.lst [V.bl true, V.bl true, V.bl true]) = Ga1 at Xa1 ha1 ⊢
    refine ⟨_, rfl, (.inl ⟨rfl, ⟨_, (sq_lst ha1)⟩⟩), _, rfl, (by show 8 ≤ sizeLine; decide), ?_⟩
    intro a2 na2
    have Xa2 := ex_new (o := HO.tup   [V.ref (He.ga K (Str.ofString "NoTime")), V.ref (He.ga K (Str.ofString "NoDays")),     V.ref (He.ga K (Str.ofString "NoCard")), V.ref (He.ga K (Str.ofString "NoName")),     V.ref (He.ga K (Str.ofString "NoRow")), V.ref (He.ga K (Str.ofString "NoText")),     V.ref (He.ga K (Str.ofString "NoLine")), V.ref (He.ga K (Str.ofString "NoGoing"))]) na2
    have ha2 : upd Ga1 a2 (HO.tup   [V.ref (He.ga K (Str.ofString "NoTime")), V.ref (He.ga K (Str.ofString "NoDays")),     V.ref (He.ga K (Str.ofString "NoCard")), V.ref (He.ga K (Str.ofString "NoName")),     V.ref (He.ga K (Str.ofString "NoRow")), V.ref (He.ga K (Str.ofString "NoText")),     V.ref (He.ga K (Str.ofString "NoLine")), V.ref (He.ga K (Str.ofString "NoGoing"))]) a2 = some (HO.tup   [V.ref (He.ga K (Str.ofString "NoTime")), V.ref (He.ga K (Str.ofString "NoDays")),     V.ref (He.ga K (Str.ofString "NoCard")), V.ref (He.ga K (Str.ofString "NoName")),     V.ref (He.ga K (Str.ofString "NoRow")), V.ref (He.ga K (Str.ofString "NoText")),     V.ref (He.ga K (Str.ofString "NoLine")), V.ref (He.ga K (Str.ofString "NoGoing"))]) := upd_same
    generalize upd Ga1 a2 (HO.tup   [V.ref (He.ga K (Str.ofString "NoTime")), V.ref (He.ga K (Str.ofString "NoDays")),     V.ref (He.ga K (Str.ofString "NoCard")), V.ref (He.ga K (Str.ofString "NoName")),     V.ref (He.ga K (Str.ofString "NoRow")), V.ref (He.ga K (Str.ofString "NoText")),     V.ref (He.ga K (Str.ofString "NoLine")), V.ref (He.ga K (Str.ofString "NoGoing"))]) = Ga2 at Xa2 ha2 ⊢
    refine ⟨_, a2, _, _, false, rfl, T.xc_NoPiece, .inl rfl, rfl, ha2, (.cons (.own _) (.cons (.own _) (.cons (.own _) (.cons (.own _) (.cons (.own _) (.cons (.own _) (.cons (.own _) (.cons (.own _) .nil)))))))), kitAny_cons T.kit_NoPiece_NoTime (fun _ => kitAny_cons T.kit_NoPiece_NoDays (fun _ => kitAny_cons T.kit_NoPiece_NoCard (fun _ => kitAny_cons T.kit_NoPiece_NoName (fun _ => kitAny_cons T.kit_NoPiece_NoRow (fun _ => kitAny_cons T.kit_NoPiece_NoText (fun _ => kitAny_cons T.kit_NoPiece_NoLine (fun _ => kitAny_cons T.kit_NoPiece_NoGoing (fun _ => kitAny_nil) (by decide)) (by decide)) (by decide)) (by decide)) (by decide)) (by decide)) (by decide)) (by decide), ?_⟩
    refine ⟨a1, _, _, rfl, rfl, Xa2 _ _ ha1, by show 3 < sizeLine; exact sz_lt (by decide), ?_⟩
    have X2 : Ex H (upd Ga2 a1 (.lst ([V.bl true, V.bl true, V.bl true] ++ [V.bl false]))) := ex_mut (Xa1.trans Xa2) na1
    have h12 : upd Ga2 a1 (.lst ([V.bl true, V.bl true, V.bl true] ++ [V.bl false])) a1 = some (.lst [V.bl true, V.bl true, V.bl true, V.bl false]) := upd_same
    generalize upd Ga2 a1 (.lst ([V.bl true, V.bl true, V.bl true] ++ [V.bl false])) = G2 at X2 h12 ⊢
    refine ⟨_, rfl, (.inl ⟨rfl, ⟨_, (sq_lst h12)⟩⟩), _, rfl, (by show 6 ≤ sizeLine; decide), ?_⟩
    intro a3 na3
    have Xa3 := ex_new (o := HO.tup   [V.ref (He.ga K (Str.ofString "Needed")), V.ref (He.ga K (Str.ofString "Taken")),     V.ref (He.ga K (Str.ofString "Round")), V.ref (He.ga K (Str.ofString "TooMuch")), V.ty "LookupError",     V.ty "RuntimeError"]) na3
    have ha3 : upd G2 a3 (HO.tup   [V.ref (He.ga K (Str.ofString "Needed")), V.ref (He.ga K (Str.ofString "Taken")),     V.ref (He.ga K (Str.ofString "Round")), V.ref (He.ga K (Str.ofString "TooMuch")), V.ty "LookupError",     V.ty "RuntimeError"]) a3 = some (HO.tup   [V.ref (He.ga K (Str.ofString "Needed")), V.ref (He.ga K (Str.ofString "Taken")),     V.ref (He.ga K (Str.ofString "Round")), V.ref (He.ga K (Str.ofString "TooMuch")), V.ty "LookupError",     V.ty "RuntimeError"]) := upd_same
    generalize upd G2 a3 (HO.tup   [V.ref (He.ga K (Str.ofString "Needed")), V.ref (He.ga K (Str.ofString "Taken")),     V.ref (He.ga K (Str.ofString "Round")), V.ref (He.ga K (Str.ofString "TooMuch")), V.ty "LookupError",     V.ty "RuntimeError"]) = Ga3 at Xa3 ha3 ⊢
    refine ⟨_, a3, _, _, false, rfl, T.xc_NoPiece, .inl rfl, rfl, ha3, (.cons (.own _) (.cons (.own _) (.cons (.own _) (.cons (.own _) (.cons (.ty _) (.cons (.ty _) .nil)))))), kitAny_cons T.kit_NoPiece_Needed (fun _ => kitAny_cons T.kit_NoPiece_Taken (fun _ => kitAny_cons T.kit_NoPiece_Round (fun _ => kitAny_cons T.kit_NoPiece_TooMuch (fun _ => kitAny_cons T.kit_NoPiece_LookupError (fun _ => kitAny_cons T.kit_NoPiece_RuntimeError (fun _ => kitAny_nil) (by decide)) (by decide)) (by decide)) (by decide)) (by decide)) (by decide), ?_⟩
    refine ⟨a1, _, _, rfl, rfl, Xa3 _ _ h12, by show 4 < sizeLine; exact sz_lt (by decide), ?_⟩
    exact ⟨_, rfl, q a1 _ (ex_mut (X2.trans Xa3) na1) na1 upd_same⟩
theorem ok__law_kinds {P : Program} {w : World} {K : PySem.W.Frag} {mg : Str → Option Value} {base : Heap} (T : Env K mg) : FcP P w K mg base 1 (He.ga K "_law_kinds") (sp__law_kinds K) := by
  obtain ⟨fd, D, F⟩ := fb__law_kinds T
  exact F.all (D.bindsN fun _ _ _ _ _ _ us hl => match us, hl with | [_], _ => rfl)
end
section
def sp__law_asked (K : PySem.W.Frag) : Sp := fun vs H Q _ => ∃ (wy : Int) (x : V), vs = [.int wy, x] ∧ 0 ≤ wy ∧ wy < 4 ∧ MomG K H x none ∧ ∀ f H', Ex H H' → H' f = some (.lst [.bl true, .bl true, .bl true, .bl false, .bl false]) → Q (.ref f) H'
theorem fb__law_asked {P : Program} {w : World} {K : PySem.W.Frag} {mg : Str → Option Value} {base : Heap} (T : Env K mg) : ∃ fd, FunD K "_law_asked" "_law_asked" (defArgs s__law_asked) (defBody s__law_asked) (defScope s__law_asked) [] [] (He.ga K "_law_asked") fd ∧ Fb P w K mg base 91 (He.ga K "_law_asked") fd ["_law_way", "_law_thing"] (sp__law_asked K) := by
  obtain ⟨fd, F⟩ := T.f__law_asked
  refine ⟨fd, F, fb_of F sc__law_asked (fun vs H Q E h => ?_) (fun cdv A outer s H vs Q E hr h => ?_)⟩
  · obtain ⟨wy, x, rfl, _⟩ := h
    rfl
  · obtain ⟨wy, x, rfl, w0, w4, hx, q⟩ := h
    refine ⟨_, (pss_cons (ps_set (i := 2) sc__law_asked.nd rfl (Or.inl rfl) (pe_lst pa_nil))
      (pss_cons (ps_try_fst (i := 3) rfl rfl sc__law_asked.nd rfl rfl ⟨by rfl, by decide, .inl T.g_GoingError⟩ (fun W pn xe tk po => (pss_one (ps_if (pt_cmpR op_eq (pv 0) pe_int (nomark _))
      (pss_one (ps_expr (c_call (ok_shortest T) (hr.mono (by decide)) T.g_shortest T.k_shortest tk (pa_cons (pv 1) pa_nil))))
      (pss_one (ps_if (pt_cmpR op_eq (pv 0) pe_int (nomark _))
      (pss_one (ps_expr (c_call (ok_paper_of T) (hr.mono (by decide)) T.g_paper_of T.k_paper_of tk (pa_cons (pv 1) pa_nil))))
      (pss_one (ps_expr (c_call (ok_is_paper T) (hr.mono (by decide)) T.g_is_paper T.k_is_paper tk (pa_cons (pv 1) (pa_cons (pe_ix (ix_listK K) (pe_lst (pa_cons (pe_lst pa_nil) (pa_cons (pe_lst (pa_cons (pe_lst (pa_cons pe_int pa_nil)) pa_nil)) (pa_cons (pe_lst pa_nil) pa_nil)))) (pe_op op_sub (pv 0) pe_int) (fun _ _ => rfl)) pa_nil)))))))))) (fun a oe cls d pn hz hf => (pss_one (ps_set (i := 2) sc__law_asked.nd rfl (Or.inl rfl) (c_callP (ok__law_kinds T) (roomM (hr.mono (by decide))) List.mem_cons_self hz hf T.g__law_kinds T.k__law_kinds takes0 (pa_cons (pv 3) pa_nil))))))
      (pss_one (ps_ret (pv 2))))), ?_⟩
    refine ⟨(by decide), ?_⟩
    intro a1 na1
    have Xa1 := ex_new (o := HO.lst []) na1
    have ha1 : upd H a1 (HO.lst []) a1 = some (HO.lst []) := upd_same
    generalize upd H a1 (HO.lst []) = Ga1 at Xa1 ha1 ⊢
    refine ⟨_, rfl, rfl, _, rfl, ?_⟩
    try dsimp only [tNil]
    have X1 := Xa1
    rw [vint_dec]
    refine ite2 (fun c => ?_) (fun c => ?_)
    · refine ⟨_, rfl, x, none, rfl, hx.mono X1, (fun ns e => nomatch e), (fun ns e => nomatch e), fun _ H2 X2 => ⟨T.exm_NoPiece_GoingError, fun y ny => ?_⟩⟩
      refine ⟨_, rfl, fun oe hz hf => ⟨_, rfl, rfl, hz, hf, fun f H3 X3 nf h3 => ⟨_, rfl, ?_⟩⟩⟩
      exact q f _ ((X1.trans X2).trans X3) h3
    · have X1 := Xa1
      refine ⟨_, rfl, rfl, _, rfl, ?_⟩
      rw [vint_dec]
      refine ite2 (fun c => ?_) (fun c2 => ?_)
      · refine ⟨_, rfl, x, none, rfl, hx.mono X1, (fun ns e => nomatch e), (fun ns e => nomatch e), fun _ H2 X2 => ⟨T.exm_NoPiece_GoingError, fun y ny => ?_⟩⟩
        refine ⟨_, rfl, fun oe hz hf => ⟨_, rfl, rfl, hz, hf, fun f H3 X3 nf h3 => ⟨_, rfl, ?_⟩⟩⟩
        exact q f _ ((X1.trans X2).trans X3) h3
      · refine ⟨_, rfl, (by decide), ?_⟩
        intro a2 na2
        have Xa2 := ex_new (o := HO.lst []) na2
        have ha2 : upd Ga1 a2 (HO.lst []) a2 = some (HO.lst []) := upd_same
        generalize upd Ga1 a2 (HO.lst []) = Ga2 at Xa2 ha2 ⊢
        refine ⟨(by decide), ?_⟩
        intro a3 na3
        have Xa3 := ex_new (o := HO.lst [V.int 1]) na3
        have ha3 : upd Ga2 a3 (HO.lst [V.int 1]) a3 = some (HO.lst [V.int 1]) := upd_same
        generalize upd Ga2 a3 (HO.lst [V.int 1]) = Ga3 at Xa3 ha3 ⊢
        refine ⟨(by show 1 ≤ sizeLine; decide), ?_⟩
        intro a4 na4
        have Xa4 := ex_new (o := HO.lst [V.ref a3]) na4
        have ha4 : upd Ga3 a4 (HO.lst [V.ref a3]) a4 = some (HO.lst [V.ref a3]) := upd_same
        generalize upd Ga3 a4 (HO.lst [V.ref a3]) = Ga4 at Xa4 ha4 ⊢
        refine ⟨(by decide), ?_⟩
        intro a5 na5
        have Xa5 := ex_new (o := HO.lst []) na5
        have ha5 : upd Ga4 a5 (HO.lst []) a5 = some (HO.lst []) := upd_same
        generalize upd Ga4 a5 (HO.lst []) = Ga5 at Xa5 ha5 ⊢
        refine ⟨(by show 3 ≤ sizeLine; decide), ?_⟩
        intro a6 na6
        have Xa6 := ex_new (o := HO.lst [V.ref a2, V.ref a4, V.ref a5]) na6
        have ha6 : upd Ga5 a6 (HO.lst [V.ref a2, V.ref a4, V.ref a5]) a6 = some (HO.lst [V.ref a2, V.ref a4, V.ref a5]) := upd_same
        generalize upd Ga5 a6 (HO.lst [V.ref a2, V.ref a4, V.ref a5]) = Ga6 at Xa6 ha6 ⊢
        refine ⟨_, rfl, _, _, rfl, rfl, ?_⟩
        have n0 : ¬ wy = 0 := fun z => c (decide_eq_true z)
        have n1 : ¬ wy = 1 := fun z => c2 (decide_eq_true z)
        obtain ⟨z, hz, ez⟩ := at_mem (xs := [V.ref a2, V.ref a4, V.ref a5]) (i := wy - 2) (by omega) (by show wy - 2 < 3; omega)
        obtain ⟨r, rfl⟩ : ∃ r, z = .ref r := by
          simp only [List.mem_cons, List.not_mem_nil, or_false] at hz
          rcases hz with rfl | rfl | rfl <;> exact ⟨_, rfl⟩
        have X6 := ((((X1.trans Xa2).trans Xa3).trans Xa4).trans Xa5).trans Xa6
        refine ⟨a6, _, _, _, rfl, rfl, sq_lst ha6, ez, x, none, r, [], rfl, hx.mono X6, (fun z => absurd rfl z), (fun ns e => nomatch e), (fun ns e => nomatch e), fun _ H2 X2 => ⟨T.exm_NoPiece_GoingError, fun y ny => ?_⟩⟩
        refine ⟨_, rfl, fun oe hz hf => ⟨_, rfl, rfl, hz, hf, fun f H3 X3 nf h3 => ⟨_, rfl, ?_⟩⟩⟩
        exact q f _ ((X6.trans X2).trans X3) h3
theorem ok__law_asked {P : Program} {w : World} {K : PySem.W.Frag} {mg : Str → Option Value} {base : Heap} (T : Env K mg) : Fc P w K mg base 91 (He.ga K "_law_asked") [] (sp__law_asked K ) := by
  obtain ⟨fd, D, F⟩ := fb__law_asked T
  exact F.all (D.bindsN fun _ _ _ _ _ _ us hl => match us, hl with | [_, _], _ => rfl)
end
section
def OkP (pap : List (List Int)) : Prop := pap.length ≤ 41 ∧ (∀ r ∈ pap, r.length ≤ 41) ∧ smallP (10 ^ 51) pap
def cellB (t : Bool) (xs : List V) : HO := if t = true then .tup xs else .lst xs
def PapV (t : Bool) (H : Hp) (a : Addr) (pap : List (List Int)) (as : List Addr) : Prop := H a = some (cellB t (as.map V.ref)) ∧ as.length = pap.length ∧ ∀ (i : Nat) (b : Addr), as[i]? = some b → H b = some (cellB t ((pap.getD i []).map V.int))
theorem PapV.mono {t : Bool} {H H' : Hp} {a : Addr} {pap : List (List Int)} {as : List Addr} (h : PapV t H a pap as) (e : Ex H H') : PapV t H' a pap as := ⟨e _ _ h.1, h.2.1, fun i b hi => e _ _ (h.2.2 i b hi)⟩
theorem PapL.v {N : Addr → Prop} {H : Hp} {a : Addr} {pap : List (List Int)} {as : List Addr} (h : PapL N H a pap as) : PapV false H a pap as := ⟨h.1, h.2.1, fun i b hi => (h.2.2.2 i b hi).2.2⟩
theorem sq_cell {K : PySem.W.Frag} {H : Hp} {a : Addr} {xs : List V} : ∀ {t : Bool}, H a = some (cellB t xs) → SqS K H a xs
  | false, h => .inl (sq_lst h)
  | true, h => .inr (sq_tup h)
theorem PapV.at {K : PySem.W.Frag} {t : Bool} {H : Hp} {a : Addr} {pap : List (List Int)} {as : List Addr} (h : PapV t H a pap as) : PapAt K H a pap := by
  obtain ⟨h1, h2, h3⟩ := h
  refine ⟨as, sq_cell h1, h2, fun i b r hi hr => ?_⟩
  have := h3 i b hi
  rw [List.getD_eq_getElem?_getD, hr] at this
  exact sq_cell this
def seqD (t : Bool) (ds : List PyData) : PyData := if t = true then .tuple ds else .list ds
def papD (t : Bool) (pap : List (List Int)) : PyData := seqD t (pap.map fun r => seqD t (r.map .int))
theorem dp_cell {K : PySem.W.Frag} {H : Hp} {a : Addr} {xs : List V} {ds : List PyData} (d : DpAll K H xs ds) : ∀ {t : Bool}, H a = some (cellB t xs) → Dp K H (.ref a) (seqD t ds)
  | false, h => .lst (sq_lst h) d
  | true, h => .tup (sq_tup h) d
theorem dp_rows {K : PySem.W.Frag} {t : Bool} {H : Hp} : ∀ {pap : List (List Int)} {as : List Addr}, as.length = pap.length → (∀ (i : Nat) (b : Addr), as[i]? = some b → H b = some (cellB t ((pap.getD i []).map V.int))) → DpAll K H (as.map V.ref) (pap.map fun r => seqD t (r.map .int))
  | [], [], _, _ => .nil
  | [], _ :: _, h, _ => by cases h
  | _ :: _, [], h, _ => by cases h
  | r :: pap, a :: as, h, k => .cons (dp_cell (dpAll_ints K H r) (k 0 a rfl)) (dp_rows (Nat.succ.inj h) fun i b hi => k (i + 1) b hi)
theorem PapV.dp {K : PySem.W.Frag} {t : Bool} {H : Hp} {a : Addr} {pap : List (List Int)} {as : List Addr} (h : PapV t H a pap as) : Dp K H (.ref a) (papD t pap) := dp_cell (dp_rows h.2.1 h.2.2) h.1
theorem okI_51 {x : Int} (h : x.natAbs ≤ 10 ^ 51) : okI x = true := decide_eq_true (Nat.lt_of_le_of_lt h (by decide +kernel))
theorem okD_seq (t : Bool) (ds : List PyData) : okD (seqD t ds) = okL ds := by cases t <;> rfl
theorem szD_seq (t : Bool) (ds : List PyData) : szD (seqD t ds) = szL ds + 3 := by cases t <;> rfl
theorem depth_seq (t : Bool) (ds : List PyData) : (seqD t ds).depth = PyData.depthAll ds + 1 := by cases t <;> rfl
theorem rows_ok (t : Bool) : ∀ {pap : List (List Int)}, smallP (10 ^ 51) pap → okL (pap.map fun r => seqD t (r.map .int)) = true
  | [], _ => rfl
  | r :: pap, h => by
    show (okD (seqD t (r.map .int)) && okL (pap.map fun r => seqD t (r.map .int))) = true
    rw [rows_ok t fun s hs => h s (List.mem_cons_of_mem _ hs), okD_seq, ints_ok r fun x hx => okI_51 (h r List.mem_cons_self x hx)]
    rfl
theorem rows_sz (t : Bool) : ∀ {pap : List (List Int)}, (∀ r ∈ pap, r.length ≤ 41) → szL (pap.map fun r => seqD t (r.map .int)) ≤ pap.length * 80000
  | [], _ => Nat.zero_le _
  | r :: pap, h => by
    have ih := rows_sz t (pap := pap) fun s hs => h s (List.mem_cons_of_mem _ hs)
    have hr := h r List.mem_cons_self
    have e : szL ((r :: pap).map fun r => seqD t (r.map .int)) = szD (seqD t (r.map .int)) + 2 + szL (pap.map fun r => seqD t (r.map .int)) := rfl
    rw [e, szD_seq, ints_sz, List.length_cons]
    omega
theorem rows_depth (t : Bool) : ∀ (pap : List (List Int)), PyData.depthAll (pap.map fun r => seqD t (r.map .int)) ≤ 1
  | [] => Nat.zero_le _
  | r :: pap => by
    have e : PyData.depthAll ((r :: pap).map fun r => seqD t (r.map .int)) = max (seqD t (r.map .int)).depth (PyData.depthAll (pap.map fun r => seqD t (r.map .int))) := rfl
    rw [e, depth_seq, ints_depth]
    exact Nat.max_le.mpr ⟨Nat.le_refl _, rows_depth t pap⟩
theorem papD_ok {t : Bool} {pap : List (List Int)} (h : OkP pap) : okD (papD t pap) = true ∧ szD (papD t pap) ≤ 4000000 ∧ (papD t pap).depth ≤ 2 := by
  unfold papD
  refine ⟨by rw [okD_seq]; exact rows_ok t h.2.2, ?_, ?_⟩
  · rw [szD_seq]
    have := rows_sz t h.2.1
    have := h.1
    omega
  · rw [depth_seq]
    have := rows_depth t pap
    omega
theorem rr_pap {K : PySem.W.Frag} {t : Bool} {H : Hp} {a : Addr} {pap : List (List Int)} {as : List Addr} {Q : VK} (h : PapV t H a pap as) (hO : OkP pap) (q : Q (.str (papD t pap).shown) H) : rRepr K [.ref a] H Q := by
  obtain ⟨k1, k2, k3⟩ := papD_ok (t := t) hO
  exact rr_data h.dp k1 (by omega) (by omega) q
end
section
def sp_law (K : PySem.W.Frag) : Sp := fun vs H Q _ => ∃ (a : Addr) (ns : List Int), vs = [.ref a] ∧ SqL K H a (ns.map V.int) ∧ ns.length ≤ 63 ∧ ∀ H', Q (.bl true) H'
theorem ok_law {P : Program} {w : World} {K : PySem.W.Frag} {mg : Str → Option Value} {base : Heap} (T : Env K mg) {fd : FuncData} (F : FunD K "law" "law" (defArgs s_law) (defBody s_law) (defScope s_law) [] [] (He.ga K "law") fd) : Fb P w K mg base 101 (He.ga K "law") fd ["_law_script"] (sp_law K) := by
  refine fb_of F sc_law (fun vs H Q E h => ?_) (fun cdv A outer s H vs Q E hr h => ?_)
  · obtain ⟨a, ns, rfl, _⟩ := h
    rfl
  · obtain ⟨a, ns, rfl, hS, hl, q⟩ := h
    refine ⟨_, (pss_cons (ps_for (passes_of rfl) rfl (pi_range1 (by rfl) T.n_range (pa_cons (pe_callB (call_max2 rfl) (by rfl) T.n_max (by decide +kernel) (pa_cons pe_int (pa_cons (pe_callB (call_min2 rfl) (by rfl) T.n_min (by decide +kernel) (pa_cons (pe_callB call_len (by rfl) T.n_len (by decide +kernel) (pa_cons (pv 0) pa_nil)) (pa_cons pe_int pa_nil))) pa_nil))) pa_nil)) (pg_name (i := 1) sc_law.nd rfl (Or.inl rfl))
      (pss_cons (ps_set (i := 2) sc_law.nd rfl (Or.inl rfl) (c_call (ok__law_pot T) (hr.mono (by decide)) T.g__law_pot T.k__law_pot takes0 (pa_cons (pv 0) (pa_cons (pv 1) pa_nil))))
      (pss_cons (ps_set (i := 3) sc_law.nd rfl (Or.inl rfl) (c_call (ok__law_good T) (hr.mono (by decide)) T.g__law_good T.k__law_good takes0 (pa_cons (pv 2) pa_nil)))
      (pss_cons (ps_set (i := 4) sc_law.nd rfl (Or.inl rfl) (c_call (ok__law_bad T) (hr.mono (by decide)) T.g__law_bad T.k__law_bad takes0 (pa_cons (pv 2) (pa_cons (pv 3) pa_nil))))
      (pss_cons (ps_set (i := 5) sc_law.nd rfl (Or.inl rfl) (c_call (ok_paper_of T) (hr.mono (by decide)) T.g_paper_of T.k_paper_of takes0 (pa_cons (pv 3) pa_nil)))
      (pss_cons (ps_set (i := 6) sc_law.nd rfl (Or.inl rfl) (pe_callB (call_repr hr) (by rfl) T.n_repr (by decide +kernel) (pa_cons (pv 5) pa_nil)))
      (Evl.pss_cut (ps_for (passes_of rfl) rfl (pi_range1 (by rfl) T.n_range (pa_cons pe_int pa_nil)) (pg_name (i := 7) sc_law.nd rfl (Or.inl rfl))
      (pss_one (ps_if (pt_cmpR (op_neD hr.rm.units) (c_call (ok__law_asked T) (hr.mono (by decide)) T.g__law_asked T.k__law_asked takes0 (pa_cons (pv 7) (pa_cons (pv 4) pa_nil))) (pe_lst (pa_cons pe_bl (pa_cons pe_bl (pa_cons pe_bl (pa_cons pe_bl (pa_cons pe_bl pa_nil)))))) (nomark _))
      (pss_one (ps_ret pe_bl))
      pss_nil)))
      (pss_cons (ps_set (i := 8) sc_law.nd rfl (Or.inl rfl) (c_call (ok_shortest T) (hr.mono (by decide)) T.g_shortest T.k_shortest takes0 (pa_cons (pv 3) pa_nil)))
      (pss_one (ps_if (PW.pt (pw_or (pt_cmpR (op_neD hr.rm.units) (c_meth0 (pv 8) T.c_Spread T.m_Spread_moments (ok_Spread_moments T) (hr.mono (by decide)) takes0) (pe_callB (cr_sortedA K) (by rfl) T.n_sorted (by decide +kernel) (pa_cons (pv 3) pa_nil)) (nomark _)) (pw_or (pt_cmpR op_ne (pe_callB (call_repr hr) (by rfl) T.n_repr (by decide +kernel) (pa_cons (c_call (ok_paper_of T) (hr.mono (by decide)) T.g_paper_of T.k_paper_of takes0 (pa_cons (pv 3) pa_nil)) pa_nil)) (pv 6) (nomark _)) (pw_or1 (pt_cmpR op_notBl (c_call (ok_is_paper T) (hr.mono (by decide)) T.g_is_paper T.k_is_paper takes0 (pa_cons (pv 3) (pa_cons (pv 5) pa_nil))) pe_bl (nomark _))))))
      (pss_one (ps_ret pe_bl))
      pss_nil))))))))))
      (pss_one (ps_ret pe_bl))), ?_⟩
    refine ⟨_, rfl, _, _, rfl, .inl ⟨_, hS, rfl⟩, _, _, rfl, _, _, rfl, _, rfl, (turns_lo 10 _ (by decide)), (turns_hi 10 _ (by decide)), for_range (fun i σ H' => Ex H H' ∧ ∃ v : Nat → Option V, σ = [some (.ref a), v 1, v 2, v 3, v 4, v 5, v 6, v 7, v 8]) ⟨.refl H, fun _ => none, rfl⟩ ?_ ?_⟩
    · rintro i σ H1 hi ⟨X1, v, rfl⟩
      have i1 : i < 1000 := turns_lt 10 _ (by decide) hi
      refine ⟨_, rfl, _, rfl, a, ns, _, rfl, ex_sql X1 hS, by omega, by omega, fun p H2 np P2 K2 => ?_⟩
      have X2 : Ex H H2 := fun b o e => by rw [K2 b (ne_of_none (X1 b o e) np)]; exact X1 b o e
      have hp0 : H p = none := ex_fresh X1 np
      refine ⟨_, rfl, p, rfl, P2, fun g ms H3 ng hg nD nl bd P3 => ?_⟩
      have nq : ∀ b G, PotOn H2 G p → G b = none → b ≠ p := fun b G P nb z => by
        obtain ⟨x, y, e, _⟩ := P.1
        rw [z, e] at nb
        cases nb
      have gp : g ≠ p := nq g _ (PotOn.refl P2) ng
      refine ⟨_, rfl, _, rfl, p, g, ms, rfl, P3.1, gp, hg, by omega, nD, fun x H4 P4 hx => ?_⟩
      have P24 := P3.trans P4
      have hg4 := P4.2 _ _ gp hg
      refine ⟨_, rfl, _, some ms, rfl, momG_nat (.inl hg4) (by omega) nD, fun ns e => by cases e; omega, fun ns e u pap us H5 X5 nu hu hG => ?_, fun e => nomatch e⟩
      cases e
      have ls := srtN_len ms
      obtain ⟨gl, gr, gs⟩ := good_rows hG (by omega)
      have hO : OkP pap := ⟨by omega, fun r hr => by have := gr r hr; omega, smallP_le gs (by decide)⟩
      obtain ⟨S, hS_⟩ : ∃ S, S = (papD false pap).shown := ⟨_, rfl⟩
      refine ⟨_, rfl, rr_pap hu.v hO ?_⟩
      rw [← hS_]
      have X5' : Ex H H5 := (PotOn.ex X2 hp0 P24).trans X5
      have hx5 := hx.mono X5
      have hg5 := X5 _ _ hg4
      clear X5 hx hg4 P4 hg P24 P3
      refine ⟨fun σ G => Ex H5 G ∧ ∃ v6 v7, σ = [some (.ref a), some (.int (0 + (i : Nat))), some (.ref p), some (.ref g), some x, some (.ref u), some (.str S), v6, v7], ?_, ?_⟩
      · refine ⟨_, rfl, by decide, by decide, for_range (fun j σ G => Ex H5 G ∧ ∃ v6 v7, σ = [some (.ref a), some (.int (0 + (i : Nat))), some (.ref p), some (.ref g), some x, some (.ref u), some (.str S), v6, v7]) ⟨.refl _, _, _, rfl⟩ ?_ ?_⟩
        · rintro j σ G hj ⟨XG, v6, v7, rfl⟩
          have e0 : (0 : Int) + (j : Int) = (j : Int) := by omega
          rw [e0]
          have j4 : j < 4 := hj
          refine ⟨_, rfl, _, rfl, (j : Nat), x, rfl, by omega, by omega, hx5.mono XG, fun f G2 XF hf => ?_⟩
          refine ⟨(by decide), ?_⟩
          intro a1 na1
          have Xa1 := ex_new (o := HO.lst [V.bl true, V.bl true, V.bl true, V.bl false, V.bl false]) na1
          have ha1 : upd G2 a1 (HO.lst [V.bl true, V.bl true, V.bl true, V.bl false, V.bl false]) a1 = some (HO.lst [V.bl true, V.bl true, V.bl true, V.bl false, V.bl false]) := upd_same
          generalize upd G2 a1 (HO.lst [V.bl true, V.bl true, V.bl true, V.bl false, V.bl false]) = Ga1 at Xa1 ha1 ⊢
          refine ⟨.list [.bool true, .bool true, .bool true, .bool false, .bool false], .list [.bool true, .bool true, .bool true, .bool false, .bool false], .lst (sq_lst (Xa1 _ _ hf)) (.cons (.bl _) (.cons (.bl _) (.cons (.bl _) (.cons (.bl _) (.cons (.bl _) .nil))))), .lst (sq_lst ha1) (.cons (.bl _) (.cons (.bl _) (.cons (.bl _) (.cons (.bl _) (.cons (.bl _) .nil))))), rfl, rfl, _, rfl, ?_⟩
          exact iteF ⟨(XG.trans XF).trans Xa1, _, _, rfl⟩
        · rintro σ G ⟨XG, v6, v7, rfl⟩
          exact ⟨XG, _, _, rfl⟩
      · rintro σ G ⟨XG, v6, v7, rfl⟩
        have hgG := XG _ _ hg5
        refine ⟨_, rfl, _, some ms, rfl, momG_nat (.inl hgG) (by omega) nD, fun ns e => by cases e; omega, fun ns e y ts qap G1 Y1 ny hSp hG2 hC => ?_, fun e => nomatch e⟩
        cases e
        have hm : momsL ts = srtN ms := by rw [hC.2.1, ← ls, seg_all]
        obtain ⟨dx2, kp, hd, as2, hx2, _⟩ := id hSp
        refine ⟨_, rfl, y, dx2, _, rfl, hx2, rfl, y, ts, rfl, hSp, fun m1 nm1 => ?_⟩
        have Y2 := ex_new (o := .lst (natV (momsL ts))) nm1
        have hm1 : upd G1 m1 (.lst (natV (momsL ts))) m1 = some (.lst (natV (momsL ts))) := upd_same
        have hg2 := Y2 _ _ (Y1 _ _ hgG)
        generalize upd G1 m1 (.lst (natV (momsL ts))) = G2 at Y2 hm1 hg2 ⊢
        refine ⟨_, rfl, g, ms.map (fun n : Nat => (n : Int)), rfl, .inl (by rw [← nat_int]; exact sq_lst hg2), fun o no => ?_⟩
        rw [natV_srt]
        have Y3 := ex_new (o := .lst (natV (srtN ms))) no
        have ho3 : upd G2 o (.lst (natV (srtN ms))) o = some (.lst (natV (srtN ms))) := upd_same
        generalize upd G2 o (.lst (natV (srtN ms))) = G3 at Y3 ho3 ⊢
        have hg3 := Y3 _ _ hg2
        refine ⟨_, _, .lst (sq_lst (Y3 _ _ hm1)) (dp_nat K _ _), .lst (sq_lst ho3) (dp_nat K _ _), shaped_nat _, shaped_nat _, _, rfl, ?_⟩
        have e1 : PyData.eqv (.list (natD (momsL ts))) (.list (natD (srtN ms))) = true := by
          show PyData.eqvAll (natD (momsL ts)) (natD (srtN ms)) = true
          rw [eqv_natD, decide_eq_true hm]
        rw [e1]
        refine iteF ?_
        have hu3 := hu.mono (XG.trans (Y1.trans (Y2.trans Y3)))
        refine ⟨_, rfl, _, some ms, rfl, momG_nat (.inl hg3) (by omega) nD, fun ns e => by cases e; omega, fun ns e u2 pap2 us2 G4 Y4 nu4 hu4 hG4 => ?_, fun e => nomatch e⟩
        cases e
        have ep : pap2 = pap := good_uniq hG4 hG
        rw [ep] at hu4
        refine rr_pap hu4.v hO ?_
        rw [← hS_]
        refine ⟨_, rfl, rfl, _, rfl, ?_⟩
        rw [decide_eq_true rfl]
        refine iteF ?_
        have hg4' := Y4 _ _ hg3
        have hu5 := hu3.mono Y4
        refine ⟨_, rfl, _, rfl, _, some ms, u, pap, rfl, momG_nat (.inl hg4') (by omega) nD, fun _ => ⟨hu5.at, by omega, fun r hr => by have := gr r hr; omega⟩, fun ns e => by cases e; omega, fun ns e G5 Y5 => ?_, fun e => nomatch e⟩
        cases e
        rw [good_paper hG]
        refine ⟨_, _, rfl, rfl, _, rfl, ((((((X5'.trans XG).trans Y1).trans Y2).trans Y3).trans Y4).trans Y5), ?_⟩
        exact ⟨fun n => ([some (V.ref a), some (V.int (0 + (i : Nat))), some (V.ref p), some (V.ref g), some x, some (V.ref u), some (V.str S), v6, some (V.ref y)].getD n none), rfl⟩
    · rintro σ H1 ⟨_, _, rfl⟩
      exact q _
end
end Toy
namespace Toy
open PySem PySem.Spec PyProof.Rows L2 L3
def xf1 : List Fx := [fun K => (He.Fa.glo "is_minute").ok K,
  fun K => (He.Fa.glo "in_rising_order").ok K,
  fun K => (He.Fa.glo "is_over").ok K,
  fun K => (He.Fa.glo "first_parts").ok K,
  fun K => (He.Fa.glo "most_number").ok K,
  fun K => (He.Fa.glo "numbers_of").ok K,
  fun K => (He.Fa.glo "paper_of").ok K,
  fun K => (He.Fa.glo "has_shape").ok K,
  fun K => (He.Fa.glo "is_paper").ok K,
  fun K => (He.Fa.glo "is_whole").ok K,
  fun K => (He.Fa.glo "is_moment").ok K,
  fun K => (He.Fa.glo "want_moment").ok K,
  fun K => (He.Fa.glo "clock_of").ok K,
  fun K => (He.Fa.glo "show_moment").ok K,
  fun K => (He.Fa.glo "is_number").ok K,
  fun K => (He.Fa.glo "all_rising").ok K,
  fun K => (He.Fa.glo "shorts_in").ok K,
  fun K => (He.Fa.glo "row_moments").ok K,
  fun K => (He.Fa.glo "row_many").ok K,
  fun K => (He.Fa.glo "row_pieces").ok K,
  fun K => (He.Fa.glo "row_text").ok K,
  fun K => (He.Fa.glo "first_size").ok K,
  fun K => (He.Fa.glo "over_part").ok K,
  fun K => (He.Fa.glo "short_of").ok K,
  fun K => (He.Fa.glo "shorts_of").ok K,
  fun K => (He.Fa.glo "shortest").ok K,
  fun K => (He.Fa.glo "_law_pot").ok K,
  fun K => (He.Fa.glo "_law_draw").ok K,
  fun K => (He.Fa.glo "_law_good").ok K,
  fun K => (He.Fa.glo "_law_odd").ok K,
  fun K => (He.Fa.glo "_law_bad").ok K,
  fun K => (He.Fa.glo "_law_kinds").ok K,
  fun K => (He.Fa.glo "_law_asked").ok K,
  fun K => (He.Fa.glo "law").ok K,
  fun K => (He.Fa.int "HOUR" (60)).ok K,
  fun K => (He.Fa.int "DAY" (1440)).ok K,
  fun K => (He.Fa.str "COLON" ":").ok K,
  fun K => (He.Fa.str "BLANK" " ").ok K,
  fun K => (He.Fa.int "MOST_MOMENTS" (1440)).ok K,
  fun K => (He.Fa.int "MOST_NESTED" (8)).ok K,
  fun K => (He.Fa.str "NO_PARTS" "-").ok K,
  fun K => (He.Fa.free "LookupError").ok K,
  fun K => (He.Fa.free "RuntimeError").ok K,
  fun K => (He.Fa.free "ValueError").ok K,
  fun K => (He.Fa.free "all").ok K,
  fun K => (He.Fa.free "any").ok K,
  fun K => (He.Fa.free "bool").ok K,
  fun K => (He.Fa.free "divmod").ok K,
  fun K => (He.Fa.free "enumerate").ok K,
  fun K => (He.Fa.free "int").ok K,
  fun K => (He.Fa.free "isinstance").ok K,
  fun K => (He.Fa.free "len").ok K,
  fun K => (He.Fa.free "list").ok K,
  fun K => (He.Fa.free "max").ok K,
  fun K => (He.Fa.free "min").ok K,
  fun K => (He.Fa.free "range").ok K,
  fun K => (He.Fa.free "repr").ok K,
  fun K => (He.Fa.free "sorted").ok K,
  fun K => (He.Fa.free "str").ok K,
  fun K => (He.Fa.free "sum").ok K,
  fun K => (He.Fa.free "tuple").ok K,
  fun K => (He.Fa.free "zip").ok K,
  fun K => (He.Fa.glo "GoingError").ok K,
  exoB bmV "ValueError.__new__" "GoingError",
  fun K => (He.Fa.glo "LackError").ok K,
  exoB bmL "LookupError.__new__" "LackError",
  fun K => (He.Fa.glo "BookError").ok K,
  exoB bmR "RuntimeError.__new__" "BookError",
  fun K => (He.Fa.glo "NoTime").ok K,
  exoB bmV "ValueError.__new__" "NoTime",
  fun K => (He.Fa.glo "NoPiece").ok K,
  exoB bmV "ValueError.__new__" "NoPiece",
  fun K => (He.Fa.glo "NoDays").ok K,
  exoB bmV "ValueError.__new__" "NoDays",
  fun K => (He.Fa.glo "NoCard").ok K,
  exoB bmV "ValueError.__new__" "NoCard",
  fun K => (He.Fa.glo "NoName").ok K,
  exoB bmV "ValueError.__new__" "NoName",
  fun K => (He.Fa.glo "NoRow").ok K,
  exoB bmV "ValueError.__new__" "NoRow",
  fun K => (He.Fa.glo "NoText").ok K,
  fun K => (He.Fa.glo "NoLine").ok K,
  fun K => (He.Fa.glo "NoGoing").ok K,
  fun K => (He.Fa.glo "Needed").ok K,
  fun K => (He.Fa.glo "Taken").ok K,
  fun K => (He.Fa.glo "Round").ok K,
  fun K => (He.Fa.glo "TooMuch").ok K,
  exoB bmR "RuntimeError.__new__" "TooMuch",
  fun K => (He.Fa.glo "Short").ok K,
  fun K => (He.Fa.glo "At").ok K,
  fun K => (He.Fa.glo "Over").ok K,
  fun K => (He.Fa.glo "Spread").ok K,
  sysB,
  fun K => (He.Fa.cls "Short").ok K,
  insB "Short",
  fun K => (He.Fa.meth "Short" "moments").ok K,
  fun K => (He.Fa.meth "Short" "pieces").ok K,
  fun K => (He.Fa.meth "Short" "begins").ok K,
  fun K => (He.Fa.meth "Short" "ends").ok K,
  fun K => (He.Fa.meth "Short" "means_many").ok K,
  fun K => (He.Fa.meth "Short" "nested").ok K,
  kitF "Short" "Short" true,
  kitF "Short" "Spread" false,
  kitFT "Short" "int" false,
  kitFT "Short" "bool" false,
  kitFT "Short" "list" false,
  kitFT "Short" "tuple" false]
def xf2 : List Fx := [kitFT "Short" "ValueError" false,
  kitFT "Short" "LookupError" false,
  kitFT "Short" "RuntimeError" false,
  fun K => (He.Fa.cls "At").ok K,
  insB "At",
  fun K => (He.Fa.noat "At" "moment").ok K,
  fun K => (He.Fa.meth "At" "__init__").ok K,
  fun K => (He.Fa.meth "At" "moments").ok K,
  fun K => (He.Fa.meth "At" "pieces").ok K,
  fun K => (He.Fa.meth "At" "begins").ok K,
  fun K => (He.Fa.meth "At" "ends").ok K,
  fun K => (He.Fa.meth "At" "means_many").ok K,
  fun K => (He.Fa.meth "At" "nested").ok K,
  fun K => (He.Fa.meth "At" "__str__").ok K,
  fun K => (He.Fa.mkr "At").ok K,
  kitF "At" "Short" true,
  kitF "At" "Spread" false,
  kitFT "At" "int" false,
  kitFT "At" "bool" false,
  kitFT "At" "list" false,
  kitFT "At" "tuple" false,
  kitFT "At" "ValueError" false,
  kitFT "At" "LookupError" false,
  kitFT "At" "RuntimeError" false,
  fun K => (He.Fa.cls "Over").ok K,
  insB "Over",
  fun K => (He.Fa.noat "Over" "kept").ok K,
  fun K => (He.Fa.noat "Over" "many").ok K,
  fun K => (He.Fa.noat "Over" "step").ok K,
  fun K => (He.Fa.meth "Over" "__init__").ok K,
  fun K => (He.Fa.meth "Over" "parts").ok K,
  fun K => (He.Fa.meth "Over" "moments").ok K,
  fun K => (He.Fa.meth "Over" "pieces").ok K,
  fun K => (He.Fa.meth "Over" "begins").ok K,
  fun K => (He.Fa.meth "Over" "ends").ok K,
  fun K => (He.Fa.meth "Over" "means_many").ok K,
  fun K => (He.Fa.meth "Over" "nested").ok K,
  fun K => (He.Fa.meth "Over" "__str__").ok K,
  fun K => (He.Fa.mkr "Over").ok K,
  kitF "Over" "Short" true,
  kitF "Over" "Spread" false,
  kitFT "Over" "int" false,
  kitFT "Over" "bool" false,
  kitFT "Over" "list" false,
  kitFT "Over" "tuple" false,
  kitFT "Over" "ValueError" false,
  kitFT "Over" "LookupError" false,
  kitFT "Over" "RuntimeError" false,
  fun K => (He.Fa.cls "Spread").ok K,
  insB "Spread",
  fun K => (He.Fa.noat "Spread" "kept").ok K,
  fun K => (He.Fa.noat "Spread" "held").ok K,
  fun K => (He.Fa.meth "Spread" "__init__").ok K,
  fun K => (He.Fa.meth "Spread" "parts").ok K,
  fun K => (He.Fa.meth "Spread" "moments").ok K,
  fun K => (He.Fa.meth "Spread" "pieces").ok K,
  fun K => (He.Fa.meth "Spread" "__eq__").ok K,
  fun K => (He.Fa.meth "Spread" "__len__").ok K,
  fun K => (He.Fa.meth "Spread" "__str__").ok K,
  fun K => (He.Fa.meth "Spread" "__repr__").ok K,
  fun K => (He.Fa.mkr "Spread").ok K,
  noBaseF "Spread",
  kitF "Spread" "Short" false,
  kitF "Spread" "Spread" true,
  kitFT "Spread" "int" false,
  kitFT "Spread" "bool" false,
  kitFT "Spread" "list" false,
  kitFT "Spread" "tuple" false,
  kitFT "Spread" "ValueError" false,
  kitFT "Spread" "LookupError" false,
  kitFT "Spread" "RuntimeError" false,
  kitBF "int" "Short" false,
  kitBF "bool" "Short" false,
  kitBF "str" "Short" false,
  kitBF "NoneType" "Short" false,
  kitBF "list" "Short" false,
  kitBF "tuple" "Short" false,
  kitBF "dict" "Short" false,
  kitBF "int" "Spread" false,
  kitBF "bool" "Spread" false,
  kitBF "str" "Spread" false,
  kitBF "NoneType" "Spread" false,
  kitBF "list" "Spread" false,
  kitBF "tuple" "Spread" false,
  kitBF "dict" "Spread" false,
  noEqF "At",
  exm1F "NoPiece" "GoingError" true,
  excCB "NoPiece",
  kitF "NoPiece" "GoingError" true,
  kitF "NoPiece" "LackError" false,
  kitF "NoPiece" "BookError" false,
  kitF "NoPiece" "NoTime" false,
  kitF "NoPiece" "NoPiece" true,
  kitF "NoPiece" "NoDays" false,
  kitF "NoPiece" "NoCard" false,
  kitF "NoPiece" "NoName" false,
  kitF "NoPiece" "NoRow" false,
  kitF "NoPiece" "NoText" false,
  kitF "NoPiece" "NoLine" false,
  kitF "NoPiece" "NoGoing" false,
  kitF "NoPiece" "Needed" false,
  kitF "NoPiece" "Taken" false,
  kitF "NoPiece" "Round" false,
  kitF "NoPiece" "TooMuch" false,
  kitFT "NoPiece" "ValueError" true,
  kitFT "NoPiece" "LookupError" false,
  kitFT "NoPiece" "RuntimeError" false,
  exm3F "NoPiece" ["GoingError", "LackError", "BookError"]]
def xf : List Fx := xf1 ++ xf2
def d_NoText_init : He.DefD := ⟨("NoText", some "__init__"), "__init__", "NoText.__init__", defArgs s_NoText_init, defBody s_NoText_init, defScope s_NoText_init, [], []⟩
def d_NoLine_init : He.DefD := ⟨("NoLine", some "__init__"), "__init__", "NoLine.__init__", defArgs s_NoLine_init, defBody s_NoLine_init, defScope s_NoLine_init, [], []⟩
def d_NoGoing_init : He.DefD := ⟨("NoGoing", some "__init__"), "__init__", "NoGoing.__init__", defArgs s_NoGoing_init, defBody s_NoGoing_init, defScope s_NoGoing_init, [], []⟩
def d_Needed_init : He.DefD := ⟨("Needed", some "__init__"), "__init__", "Needed.__init__", defArgs s_Needed_init, defBody s_Needed_init, defScope s_Needed_init, [], []⟩
def d_Taken_init : He.DefD := ⟨("Taken", some "__init__"), "__init__", "Taken.__init__", defArgs s_Taken_init, defBody s_Taken_init, defScope s_Taken_init, [], []⟩
def d_Round_init : He.DefD := ⟨("Round", some "__init__"), "__init__", "Round.__init__", defArgs s_Round_init, defBody s_Round_init, defScope s_Round_init, [], []⟩
def d_is_minute : He.DefD := ⟨("is_minute", none), "is_minute", "is_minute", defArgs s_is_minute, defBody s_is_minute, defScope s_is_minute, [], []⟩
def d_in_rising_order : He.DefD := ⟨("in_rising_order", none), "in_rising_order", "in_rising_order", defArgs s_in_rising_order, defBody s_in_rising_order, defScope s_in_rising_order, [], []⟩
def d_is_over : He.DefD := ⟨("is_over", none), "is_over", "is_over", defArgs s_is_over, defBody s_is_over, defScope s_is_over, [], []⟩
def d_first_parts : He.DefD := ⟨("first_parts", none), "first_parts", "first_parts", defArgs s_first_parts, defBody s_first_parts, defScope s_first_parts, [], []⟩
def d_most_number : He.DefD := ⟨("most_number", none), "most_number", "most_number", defArgs s_most_number, defBody s_most_number, defScope s_most_number, [], []⟩
def d_numbers_of : He.DefD := ⟨("numbers_of", none), "numbers_of", "numbers_of", defArgs s_numbers_of, defBody s_numbers_of, defScope s_numbers_of, [], []⟩
def d_paper_of : He.DefD := ⟨("paper_of", none), "paper_of", "paper_of", defArgs s_paper_of, defBody s_paper_of, defScope s_paper_of, [], []⟩
def d_has_shape : He.DefD := ⟨("has_shape", none), "has_shape", "has_shape", defArgs s_has_shape, defBody s_has_shape, defScope s_has_shape, [], []⟩
def d_is_paper : He.DefD := ⟨("is_paper", none), "is_paper", "is_paper", defArgs s_is_paper, defBody s_is_paper, defScope s_is_paper, [], []⟩
def d_is_whole : He.DefD := ⟨("is_whole", none), "is_whole", "is_whole", defArgs s_is_whole, defBody s_is_whole, defScope s_is_whole, [], []⟩
def d_is_moment : He.DefD := ⟨("is_moment", none), "is_moment", "is_moment", defArgs s_is_moment, defBody s_is_moment, defScope s_is_moment, [], []⟩
def d_want_moment : He.DefD := ⟨("want_moment", none), "want_moment", "want_moment", defArgs s_want_moment, defBody s_want_moment, defScope s_want_moment, [], []⟩
def d_clock_of : He.DefD := ⟨("clock_of", none), "clock_of", "clock_of", defArgs s_clock_of, defBody s_clock_of, defScope s_clock_of, [], []⟩
def d_show_moment : He.DefD := ⟨("show_moment", none), "show_moment", "show_moment", defArgs s_show_moment, defBody s_show_moment, defScope s_show_moment, [], []⟩
def d_is_number : He.DefD := ⟨("is_number", none), "is_number", "is_number", defArgs s_is_number, defBody s_is_number, defScope s_is_number, [], []⟩
def d_Short_moments : He.DefD := ⟨("Short", some "moments"), "moments", "Short.moments", defArgs s_Short_moments, defBody s_Short_moments, defScope s_Short_moments, [], []⟩
def d_Short_pieces : He.DefD := ⟨("Short", some "pieces"), "pieces", "Short.pieces", defArgs s_Short_pieces, defBody s_Short_pieces, defScope s_Short_pieces, [], []⟩
def d_Short_begins : He.DefD := ⟨("Short", some "begins"), "begins", "Short.begins", defArgs s_Short_begins, defBody s_Short_begins, defScope s_Short_begins, [], []⟩
def d_Short_ends : He.DefD := ⟨("Short", some "ends"), "ends", "Short.ends", defArgs s_Short_ends, defBody s_Short_ends, defScope s_Short_ends, [], []⟩
def d_Short_means_many : He.DefD := ⟨("Short", some "means_many"), "means_many", "Short.means_many", defArgs s_Short_means_many, defBody s_Short_means_many, defScope s_Short_means_many, [], []⟩
def d_Short_nested : He.DefD := ⟨("Short", some "nested"), "nested", "Short.nested", defArgs s_Short_nested, defBody s_Short_nested, defScope s_Short_nested, [], []⟩
def d_all_rising : He.DefD := ⟨("all_rising", none), "all_rising", "all_rising", defArgs s_all_rising, defBody s_all_rising, defScope s_all_rising, [], []⟩
def d_shorts_in : He.DefD := ⟨("shorts_in", none), "shorts_in", "shorts_in", defArgs s_shorts_in, defBody s_shorts_in, defScope s_shorts_in, [], []⟩
def d_row_moments : He.DefD := ⟨("row_moments", none), "row_moments", "row_moments", defArgs s_row_moments, defBody s_row_moments, defScope s_row_moments, [], []⟩
def d_row_many : He.DefD := ⟨("row_many", none), "row_many", "row_many", defArgs s_row_many, defBody s_row_many, defScope s_row_many, [], []⟩
def d_row_pieces : He.DefD := ⟨("row_pieces", none), "row_pieces", "row_pieces", defArgs s_row_pieces, defBody s_row_pieces, defScope s_row_pieces, [], []⟩
def d_row_text : He.DefD := ⟨("row_text", none), "row_text", "row_text", defArgs s_row_text, defBody s_row_text, defScope s_row_text, [], []⟩
def d_At_init : He.DefD := ⟨("At", some "__init__"), "__init__", "At.__init__", defArgs s_At_init, defBody s_At_init, defScope s_At_init, [], []⟩
def d_At_moments : He.DefD := ⟨("At", some "moments"), "moments", "At.moments", defArgs s_At_moments, defBody s_At_moments, defScope s_At_moments, [], []⟩
def d_At_pieces : He.DefD := ⟨("At", some "pieces"), "pieces", "At.pieces", defArgs s_At_pieces, defBody s_At_pieces, defScope s_At_pieces, [], []⟩
def d_At_begins : He.DefD := ⟨("At", some "begins"), "begins", "At.begins", defArgs s_At_begins, defBody s_At_begins, defScope s_At_begins, [], []⟩
def d_At_ends : He.DefD := ⟨("At", some "ends"), "ends", "At.ends", defArgs s_At_ends, defBody s_At_ends, defScope s_At_ends, [], []⟩
def d_At_means_many : He.DefD := ⟨("At", some "means_many"), "means_many", "At.means_many", defArgs s_At_means_many, defBody s_At_means_many, defScope s_At_means_many, [], []⟩
def d_At_nested : He.DefD := ⟨("At", some "nested"), "nested", "At.nested", defArgs s_At_nested, defBody s_At_nested, defScope s_At_nested, [], []⟩
def d_At_str : He.DefD := ⟨("At", some "__str__"), "__str__", "At.__str__", defArgs s_At_str, defBody s_At_str, defScope s_At_str, [], []⟩
def d_Over_init : He.DefD := ⟨("Over", some "__init__"), "__init__", "Over.__init__", defArgs s_Over_init, defBody s_Over_init, defScope s_Over_init, [.int (2), .int (60)], []⟩
def d_Over_parts : He.DefD := ⟨("Over", some "parts"), "parts", "Over.parts", defArgs s_Over_parts, defBody s_Over_parts, defScope s_Over_parts, [], []⟩
def d_Over_moments : He.DefD := ⟨("Over", some "moments"), "moments", "Over.moments", defArgs s_Over_moments, defBody s_Over_moments, defScope s_Over_moments, [], []⟩
def d_Over_pieces : He.DefD := ⟨("Over", some "pieces"), "pieces", "Over.pieces", defArgs s_Over_pieces, defBody s_Over_pieces, defScope s_Over_pieces, [], []⟩
def d_Over_begins : He.DefD := ⟨("Over", some "begins"), "begins", "Over.begins", defArgs s_Over_begins, defBody s_Over_begins, defScope s_Over_begins, [], []⟩
def d_Over_ends : He.DefD := ⟨("Over", some "ends"), "ends", "Over.ends", defArgs s_Over_ends, defBody s_Over_ends, defScope s_Over_ends, [], []⟩
def d_Over_means_many : He.DefD := ⟨("Over", some "means_many"), "means_many", "Over.means_many", defArgs s_Over_means_many, defBody s_Over_means_many, defScope s_Over_means_many, [], []⟩
def d_Over_nested : He.DefD := ⟨("Over", some "nested"), "nested", "Over.nested", defArgs s_Over_nested, defBody s_Over_nested, defScope s_Over_nested, [], []⟩
def d_Over_str : He.DefD := ⟨("Over", some "__str__"), "__str__", "Over.__str__", defArgs s_Over_str, defBody s_Over_str, defScope s_Over_str, [], []⟩
def d_Spread_init : He.DefD := ⟨("Spread", some "__init__"), "__init__", "Spread.__init__", defArgs s_Spread_init, defBody s_Spread_init, defScope s_Spread_init, [], []⟩
def d_Spread_parts : He.DefD := ⟨("Spread", some "parts"), "parts", "Spread.parts", defArgs s_Spread_parts, defBody s_Spread_parts, defScope s_Spread_parts, [], []⟩
def d_Spread_moments : He.DefD := ⟨("Spread", some "moments"), "moments", "Spread.moments", defArgs s_Spread_moments, defBody s_Spread_moments, defScope s_Spread_moments, [], []⟩
def d_Spread_pieces : He.DefD := ⟨("Spread", some "pieces"), "pieces", "Spread.pieces", defArgs s_Spread_pieces, defBody s_Spread_pieces, defScope s_Spread_pieces, [], []⟩
def d_Spread_eq : He.DefD := ⟨("Spread", some "__eq__"), "__eq__", "Spread.__eq__", defArgs s_Spread_eq, defBody s_Spread_eq, defScope s_Spread_eq, [], []⟩
def d_Spread_len : He.DefD := ⟨("Spread", some "__len__"), "__len__", "Spread.__len__", defArgs s_Spread_len, defBody s_Spread_len, defScope s_Spread_len, [], []⟩
def d_Spread_str : He.DefD := ⟨("Spread", some "__str__"), "__str__", "Spread.__str__", defArgs s_Spread_str, defBody s_Spread_str, defScope s_Spread_str, [], []⟩
def d_Spread_repr : He.DefD := ⟨("Spread", some "__repr__"), "__repr__", "Spread.__repr__", defArgs s_Spread_repr, defBody s_Spread_repr, defScope s_Spread_repr, [], []⟩
def d_first_size : He.DefD := ⟨("first_size", none), "first_size", "first_size", defArgs s_first_size, defBody s_first_size, defScope s_first_size, [], []⟩
def d_over_part : He.DefD := ⟨("over_part", none), "over_part", "over_part", defArgs s_over_part, defBody s_over_part, defScope s_over_part, [], []⟩
def d_short_of : He.DefD := ⟨("short_of", none), "short_of", "short_of", defArgs s_short_of, defBody s_short_of, defScope s_short_of, [], []⟩
def d_shorts_of : He.DefD := ⟨("shorts_of", none), "shorts_of", "shorts_of", defArgs s_shorts_of, defBody s_shorts_of, defScope s_shorts_of, [], []⟩
def d_shortest : He.DefD := ⟨("shortest", none), "shortest", "shortest", defArgs s_shortest, defBody s_shortest, defScope s_shortest, [], []⟩
def d__law_pot : He.DefD := ⟨("_law_pot", none), "_law_pot", "_law_pot", defArgs s__law_pot, defBody s__law_pot, defScope s__law_pot, [], []⟩
def d__law_draw : He.DefD := ⟨("_law_draw", none), "_law_draw", "_law_draw", defArgs s__law_draw, defBody s__law_draw, defScope s__law_draw, [], []⟩
def d__law_good : He.DefD := ⟨("_law_good", none), "_law_good", "_law_good", defArgs s__law_good, defBody s__law_good, defScope s__law_good, [], []⟩
def d__law_odd : He.DefD := ⟨("_law_odd", none), "_law_odd", "_law_odd", defArgs s__law_odd, defBody s__law_odd, defScope s__law_odd, [], []⟩
def d__law_bad : He.DefD := ⟨("_law_bad", none), "_law_bad", "_law_bad", defArgs s__law_bad, defBody s__law_bad, defScope s__law_bad, [], []⟩
def d__law_kinds : He.DefD := ⟨("_law_kinds", none), "_law_kinds", "_law_kinds", defArgs s__law_kinds, defBody s__law_kinds, defScope s__law_kinds, [], []⟩
def d__law_asked : He.DefD := ⟨("_law_asked", none), "_law_asked", "_law_asked", defArgs s__law_asked, defBody s__law_asked, defScope s__law_asked, [], []⟩
def d_law : He.DefD := ⟨("law", none), "law", "law", defArgs s_law, defBody s_law, defScope s_law, [], []⟩
def fn : List He.DefD := [d_NoText_init, d_NoLine_init, d_NoGoing_init, d_Needed_init, d_Taken_init, d_Round_init, d_is_minute, d_in_rising_order, d_is_over, d_first_parts, d_most_number, d_numbers_of, d_paper_of, d_has_shape, d_is_paper, d_is_whole, d_is_moment, d_want_moment, d_clock_of, d_show_moment, d_is_number, d_Short_moments, d_Short_pieces, d_Short_begins, d_Short_ends, d_Short_means_many, d_Short_nested, d_all_rising, d_shorts_in, d_row_moments, d_row_many, d_row_pieces, d_row_text, d_At_init, d_At_moments, d_At_pieces, d_At_begins, d_At_ends, d_At_means_many, d_At_nested, d_At_str, d_Over_init, d_Over_parts, d_Over_moments, d_Over_pieces, d_Over_begins, d_Over_ends, d_Over_means_many, d_Over_nested, d_Over_str, d_Spread_init, d_Spread_parts, d_Spread_moments, d_Spread_pieces, d_Spread_eq, d_Spread_len, d_Spread_str, d_Spread_repr, d_first_size, d_over_part, d_short_of, d_shorts_of, d_shortest, d__law_pot, d__law_draw, d__law_good, d__law_odd, d__law_bad, d__law_kinds, d__law_asked, d_law]
abbrev R : PySem.W.OpenRow := PySem.W.OpenLaw.row PySem.Challenge.rw_shortgoings_k37_what_is_no_list
def adr0 : List Addr := [3, 396, 638, 570, 498, 569, 395, 75, 637, 497, 24, 23, 50, 37, 446, 515, 586, 63, 87, 99, 111, 123, 142, 161, 180, 199, 218, 237, 249, 49]
def adr1 : List Addr := [74, 358, 365, 372, 379, 386, 393, 453, 460, 467, 474, 481, 488, 495, 522, 527, 534, 541, 548, 555, 560, 567, 593, 600, 607, 614, 621, 628, 635, 1]
def adr2 : List Addr := [258, 263, 268, 273, 278, 283, 290, 295, 302, 309, 316, 323, 330, 337, 344, 405, 410, 417, 422, 427, 432, 649, 654, 661, 668, 675, 682, 689, 696, 703]
def adr3 : List Addr := [710, 717, 724, 731, 36, 62, 86, 98, 110, 122, 141, 160, 179, 198, 217, 236, 248, 257, 262, 267, 272, 277, 282, 289, 294, 301, 308, 315, 322, 329]
def adr4 : List Addr := [336, 343, 404, 409, 416, 421, 426, 431, 648, 653, 660, 667, 674, 681, 688, 695, 702, 709, 716, 723, 730, 139, 158, 177, 196, 215, 234, 138, 157, 176]
def adr5 : List Addr := [195, 214, 233, 357, 364, 371, 378, 385, 392, 445, 452, 459, 466, 473, 480, 487, 494, 514, 508, 521, 526, 533, 540, 547, 554, 559, 566, 585, 592, 599]
def adr6 : List Addr := [606, 613, 620, 627, 634]
def adr : List Addr := adr0 ++ adr1 ++ adr2 ++ adr3 ++ adr4 ++ adr5 ++ adr6
abbrev hk : PySem.W.Hook := hookA adr xf fn
def ob (s : PySem.W.SharedT) : He.AlD := obsA adr xf fn (HandSHeadRun.getT s)
theorem ob_eq (s : PySem.W.SharedT) : ob s = hk.obs s.abs := obsA_eq (HandSHeadRun.getT_eq s)
def ns0 : List PySem.Str := ["GoingError", "LackError", "BookError", "NoTime", "NoPiece", "NoDays", "NoCard", "NoName", "NoRow", "NoText", "NoLine", "NoGoing", "Needed", "Taken", "Round", "TooMuch", "is_minute", "in_rising_order", "is_over", "first_parts", "most_number", "numbers_of", "paper_of", "has_shape", "is_paper", "HOUR", "DAY", "COLON", "BLANK", "is_whole"]
def ns1 : List PySem.Str := ["is_moment", "want_moment", "clock_of", "show_moment", "MOST_MOMENTS", "MOST_NESTED", "NO_PARTS", "is_number", "Short", "all_rising", "shorts_in", "row_moments", "row_many", "row_pieces", "row_text", "At", "Over", "Spread", "first_size", "over_part", "short_of", "shorts_of", "shortest", "_law_pot", "_law_draw", "_law_good", "_law_odd", "_law_bad", "_law_kinds", "_law_asked"]
def nss : List PySem.Str := ns0 ++ ns1
theorem run_a (w : World) : HandSHeadRun.RunA R (PySem.W.view R.prog [67]) 8000 nss w := by
  intro os
  kernel_rfl
theorem run_b (w : World) : HandSHeadRun.RunB R 8000 (fun s => xf1.all fun p => p (He.frG (HandSHeadRun.getT s) adr)) w := by
  intro os
  kernel_rfl
theorem run_c (w : World) : HandSHeadRun.RunB R 8000 (fun s => xf2.all fun p => p (He.frG (HandSHeadRun.getT s) adr)) w := by
  intro os
  kernel_rfl
theorem run_d (w : World) : ∀ os : OsState, (HandSHeadRun.endR R 8000 w os).map (fun s => (fn.all fun d => d.ok (He.frG (HandSHeadRun.getT s) adr), fn.map fun d => He.fnW (He.frG (HandSHeadRun.getT s) adr) d.at_)) = some (true, fn.map He.DefD.val) := by
  intro os
  kernel_rfl
theorem run (w : World) : HandSHeadRun.RunEq R (PySem.W.view R.prog [67]) hk ob 8000 nss w := HandSHeadRun.runEq_of (run_a w) (runC_of rfl (run_b w) (run_c w) (run_d w))
theorem env_of {K : PySem.W.Frag} {h : Heap} {mg : Str → Option Value} (X : K.In h) (G : h.Ns mainGlobals mg) (c : SaysX xf fn K) : Env K mg :=
  ⟨He.glo_ok X G (c.fact 0 (f := fun K => (He.Fa.glo "is_minute").ok K) rfl),
  He.glo_ok X G (c.fact 1 (f := fun K => (He.Fa.glo "in_rising_order").ok K) rfl),
  He.glo_ok X G (c.fact 2 (f := fun K => (He.Fa.glo "is_over").ok K) rfl),
  He.glo_ok X G (c.fact 3 (f := fun K => (He.Fa.glo "first_parts").ok K) rfl),
  He.glo_ok X G (c.fact 4 (f := fun K => (He.Fa.glo "most_number").ok K) rfl),
  He.glo_ok X G (c.fact 5 (f := fun K => (He.Fa.glo "numbers_of").ok K) rfl),
  He.glo_ok X G (c.fact 6 (f := fun K => (He.Fa.glo "paper_of").ok K) rfl),
  He.glo_ok X G (c.fact 7 (f := fun K => (He.Fa.glo "has_shape").ok K) rfl),
  He.glo_ok X G (c.fact 8 (f := fun K => (He.Fa.glo "is_paper").ok K) rfl),
  He.glo_ok X G (c.fact 9 (f := fun K => (He.Fa.glo "is_whole").ok K) rfl),
  He.glo_ok X G (c.fact 10 (f := fun K => (He.Fa.glo "is_moment").ok K) rfl),
  He.glo_ok X G (c.fact 11 (f := fun K => (He.Fa.glo "want_moment").ok K) rfl),
  He.glo_ok X G (c.fact 12 (f := fun K => (He.Fa.glo "clock_of").ok K) rfl),
  He.glo_ok X G (c.fact 13 (f := fun K => (He.Fa.glo "show_moment").ok K) rfl),
  He.glo_ok X G (c.fact 14 (f := fun K => (He.Fa.glo "is_number").ok K) rfl),
  He.glo_ok X G (c.fact 15 (f := fun K => (He.Fa.glo "all_rising").ok K) rfl),
  He.glo_ok X G (c.fact 16 (f := fun K => (He.Fa.glo "shorts_in").ok K) rfl),
  He.glo_ok X G (c.fact 17 (f := fun K => (He.Fa.glo "row_moments").ok K) rfl),
  He.glo_ok X G (c.fact 18 (f := fun K => (He.Fa.glo "row_many").ok K) rfl),
  He.glo_ok X G (c.fact 19 (f := fun K => (He.Fa.glo "row_pieces").ok K) rfl),
  He.glo_ok X G (c.fact 20 (f := fun K => (He.Fa.glo "row_text").ok K) rfl),
  He.glo_ok X G (c.fact 21 (f := fun K => (He.Fa.glo "first_size").ok K) rfl),
  He.glo_ok X G (c.fact 22 (f := fun K => (He.Fa.glo "over_part").ok K) rfl),
  He.glo_ok X G (c.fact 23 (f := fun K => (He.Fa.glo "short_of").ok K) rfl),
  He.glo_ok X G (c.fact 24 (f := fun K => (He.Fa.glo "shorts_of").ok K) rfl),
  He.glo_ok X G (c.fact 25 (f := fun K => (He.Fa.glo "shortest").ok K) rfl),
  He.glo_ok X G (c.fact 26 (f := fun K => (He.Fa.glo "_law_pot").ok K) rfl),
  He.glo_ok X G (c.fact 27 (f := fun K => (He.Fa.glo "_law_draw").ok K) rfl),
  He.glo_ok X G (c.fact 28 (f := fun K => (He.Fa.glo "_law_good").ok K) rfl),
  He.glo_ok X G (c.fact 29 (f := fun K => (He.Fa.glo "_law_odd").ok K) rfl),
  He.glo_ok X G (c.fact 30 (f := fun K => (He.Fa.glo "_law_bad").ok K) rfl),
  He.glo_ok X G (c.fact 31 (f := fun K => (He.Fa.glo "_law_kinds").ok K) rfl),
  He.glo_ok X G (c.fact 32 (f := fun K => (He.Fa.glo "_law_asked").ok K) rfl),
  He.glo_ok X G (c.fact 33 (f := fun K => (He.Fa.glo "law").ok K) rfl),
  gint_of X G (c.fact 34 (f := fun K => (He.Fa.int "HOUR" (60)).ok K) rfl),
  gint_of X G (c.fact 35 (f := fun K => (He.Fa.int "DAY" (1440)).ok K) rfl),
  gstr_of X G (c.fact 36 (f := fun K => (He.Fa.str "COLON" ":").ok K) rfl),
  gstr_of X G (c.fact 37 (f := fun K => (He.Fa.str "BLANK" " ").ok K) rfl),
  gint_of X G (c.fact 38 (f := fun K => (He.Fa.int "MOST_MOMENTS" (1440)).ok K) rfl),
  gint_of X G (c.fact 39 (f := fun K => (He.Fa.int "MOST_NESTED" (8)).ok K) rfl),
  gstr_of X G (c.fact 40 (f := fun K => (He.Fa.str "NO_PARTS" "-").ok K) rfl),
  He.free_ok X G (c.fact 41 (f := fun K => (He.Fa.free "LookupError").ok K) rfl),
  He.free_ok X G (c.fact 42 (f := fun K => (He.Fa.free "RuntimeError").ok K) rfl),
  He.free_ok X G (c.fact 43 (f := fun K => (He.Fa.free "ValueError").ok K) rfl),
  He.free_ok X G (c.fact 44 (f := fun K => (He.Fa.free "all").ok K) rfl),
  He.free_ok X G (c.fact 45 (f := fun K => (He.Fa.free "any").ok K) rfl),
  He.free_ok X G (c.fact 46 (f := fun K => (He.Fa.free "bool").ok K) rfl),
  He.free_ok X G (c.fact 47 (f := fun K => (He.Fa.free "divmod").ok K) rfl),
  He.free_ok X G (c.fact 48 (f := fun K => (He.Fa.free "enumerate").ok K) rfl),
  He.free_ok X G (c.fact 49 (f := fun K => (He.Fa.free "int").ok K) rfl),
  He.free_ok X G (c.fact 50 (f := fun K => (He.Fa.free "isinstance").ok K) rfl),
  He.free_ok X G (c.fact 51 (f := fun K => (He.Fa.free "len").ok K) rfl),
  He.free_ok X G (c.fact 52 (f := fun K => (He.Fa.free "list").ok K) rfl),
  He.free_ok X G (c.fact 53 (f := fun K => (He.Fa.free "max").ok K) rfl),
  He.free_ok X G (c.fact 54 (f := fun K => (He.Fa.free "min").ok K) rfl),
  He.free_ok X G (c.fact 55 (f := fun K => (He.Fa.free "range").ok K) rfl),
  He.free_ok X G (c.fact 56 (f := fun K => (He.Fa.free "repr").ok K) rfl),
  He.free_ok X G (c.fact 57 (f := fun K => (He.Fa.free "sorted").ok K) rfl),
  He.free_ok X G (c.fact 58 (f := fun K => (He.Fa.free "str").ok K) rfl),
  He.free_ok X G (c.fact 59 (f := fun K => (He.Fa.free "sum").ok K) rfl),
  He.free_ok X G (c.fact 60 (f := fun K => (He.Fa.free "tuple").ok K) rfl),
  He.free_ok X G (c.fact 61 (f := fun K => (He.Fa.free "zip").ok K) rfl),
  He.glo_ok X G (c.fact 62 (f := fun K => (He.Fa.glo "GoingError").ok K) rfl),
  exo_of (c.fact 63 (f := exoB bmV "ValueError.__new__" "GoingError") rfl),
  He.glo_ok X G (c.fact 64 (f := fun K => (He.Fa.glo "LackError").ok K) rfl),
  exo_of (c.fact 65 (f := exoB bmL "LookupError.__new__" "LackError") rfl),
  He.glo_ok X G (c.fact 66 (f := fun K => (He.Fa.glo "BookError").ok K) rfl),
  exo_of (c.fact 67 (f := exoB bmR "RuntimeError.__new__" "BookError") rfl),
  He.glo_ok X G (c.fact 68 (f := fun K => (He.Fa.glo "NoTime").ok K) rfl),
  exo_of (c.fact 69 (f := exoB bmV "ValueError.__new__" "NoTime") rfl),
  He.glo_ok X G (c.fact 70 (f := fun K => (He.Fa.glo "NoPiece").ok K) rfl),
  exo_of (c.fact 71 (f := exoB bmV "ValueError.__new__" "NoPiece") rfl),
  He.glo_ok X G (c.fact 72 (f := fun K => (He.Fa.glo "NoDays").ok K) rfl),
  exo_of (c.fact 73 (f := exoB bmV "ValueError.__new__" "NoDays") rfl),
  He.glo_ok X G (c.fact 74 (f := fun K => (He.Fa.glo "NoCard").ok K) rfl),
  exo_of (c.fact 75 (f := exoB bmV "ValueError.__new__" "NoCard") rfl),
  He.glo_ok X G (c.fact 76 (f := fun K => (He.Fa.glo "NoName").ok K) rfl),
  exo_of (c.fact 77 (f := exoB bmV "ValueError.__new__" "NoName") rfl),
  He.glo_ok X G (c.fact 78 (f := fun K => (He.Fa.glo "NoRow").ok K) rfl),
  exo_of (c.fact 79 (f := exoB bmV "ValueError.__new__" "NoRow") rfl),
  He.glo_ok X G (c.fact 80 (f := fun K => (He.Fa.glo "NoText").ok K) rfl),
  He.glo_ok X G (c.fact 81 (f := fun K => (He.Fa.glo "NoLine").ok K) rfl),
  He.glo_ok X G (c.fact 82 (f := fun K => (He.Fa.glo "NoGoing").ok K) rfl),
  He.glo_ok X G (c.fact 83 (f := fun K => (He.Fa.glo "Needed").ok K) rfl),
  He.glo_ok X G (c.fact 84 (f := fun K => (He.Fa.glo "Taken").ok K) rfl),
  He.glo_ok X G (c.fact 85 (f := fun K => (He.Fa.glo "Round").ok K) rfl),
  He.glo_ok X G (c.fact 86 (f := fun K => (He.Fa.glo "TooMuch").ok K) rfl),
  exo_of (c.fact 87 (f := exoB bmR "RuntimeError.__new__" "TooMuch") rfl),
  He.glo_ok X G (c.fact 88 (f := fun K => (He.Fa.glo "Short").ok K) rfl),
  He.glo_ok X G (c.fact 89 (f := fun K => (He.Fa.glo "At").ok K) rfl),
  He.glo_ok X G (c.fact 90 (f := fun K => (He.Fa.glo "Over").ok K) rfl),
  He.glo_ok X G (c.fact 91 (f := fun K => (He.Fa.glo "Spread").ok K) rfl),
  sys_of (c.fact 92 (f := sysB) rfl),
  He.cls_ok (c.fact 93 (f := fun K => (He.Fa.cls "Short").ok K) rfl),
  insC_of (c.fact 94 (f := insB "Short") rfl),
  He.meth_ok (c.fact 95 (f := fun K => (He.Fa.meth "Short" "moments").ok K) rfl),
  He.meth_ok (c.fact 96 (f := fun K => (He.Fa.meth "Short" "pieces").ok K) rfl),
  He.meth_ok (c.fact 97 (f := fun K => (He.Fa.meth "Short" "begins").ok K) rfl),
  He.meth_ok (c.fact 98 (f := fun K => (He.Fa.meth "Short" "ends").ok K) rfl),
  He.meth_ok (c.fact 99 (f := fun K => (He.Fa.meth "Short" "means_many").ok K) rfl),
  He.meth_ok (c.fact 100 (f := fun K => (He.Fa.meth "Short" "nested").ok K) rfl),
  of_decide_eq_true (c.fact 101 (f := kitF "Short" "Short" true) rfl),
  of_decide_eq_true (c.fact 102 (f := kitF "Short" "Spread" false) rfl),
  of_decide_eq_true (c.fact 103 (f := kitFT "Short" "int" false) rfl),
  of_decide_eq_true (c.fact 104 (f := kitFT "Short" "bool" false) rfl),
  of_decide_eq_true (c.fact 105 (f := kitFT "Short" "list" false) rfl),
  of_decide_eq_true (c.fact 106 (f := kitFT "Short" "tuple" false) rfl),
  of_decide_eq_true (c.fact 107 (f := kitFT "Short" "ValueError" false) rfl),
  of_decide_eq_true (c.fact 108 (f := kitFT "Short" "LookupError" false) rfl),
  of_decide_eq_true (c.fact 109 (f := kitFT "Short" "RuntimeError" false) rfl),
  He.cls_ok (c.fact 110 (f := fun K => (He.Fa.cls "At").ok K) rfl),
  insC_of (c.fact 111 (f := insB "At") rfl),
  He.noat_ok (c.fact 112 (f := fun K => (He.Fa.noat "At" "moment").ok K) rfl),
  He.meth_ok (c.fact 113 (f := fun K => (He.Fa.meth "At" "__init__").ok K) rfl),
  He.meth_ok (c.fact 114 (f := fun K => (He.Fa.meth "At" "moments").ok K) rfl),
  He.meth_ok (c.fact 115 (f := fun K => (He.Fa.meth "At" "pieces").ok K) rfl),
  He.meth_ok (c.fact 116 (f := fun K => (He.Fa.meth "At" "begins").ok K) rfl),
  He.meth_ok (c.fact 117 (f := fun K => (He.Fa.meth "At" "ends").ok K) rfl),
  He.meth_ok (c.fact 118 (f := fun K => (He.Fa.meth "At" "means_many").ok K) rfl),
  He.meth_ok (c.fact 119 (f := fun K => (He.Fa.meth "At" "nested").ok K) rfl),
  He.meth_ok (c.fact 120 (f := fun K => (He.Fa.meth "At" "__str__").ok K) rfl),
  He.mkr_ok (c.fact 121 (f := fun K => (He.Fa.mkr "At").ok K) rfl),
  of_decide_eq_true (c.fact 122 (f := kitF "At" "Short" true) rfl),
  of_decide_eq_true (c.fact 123 (f := kitF "At" "Spread" false) rfl),
  of_decide_eq_true (c.fact 124 (f := kitFT "At" "int" false) rfl),
  of_decide_eq_true (c.fact 125 (f := kitFT "At" "bool" false) rfl),
  of_decide_eq_true (c.fact 126 (f := kitFT "At" "list" false) rfl),
  of_decide_eq_true (c.fact 127 (f := kitFT "At" "tuple" false) rfl),
  of_decide_eq_true (c.fact 128 (f := kitFT "At" "ValueError" false) rfl),
  of_decide_eq_true (c.fact 129 (f := kitFT "At" "LookupError" false) rfl),
  of_decide_eq_true (c.fact 130 (f := kitFT "At" "RuntimeError" false) rfl),
  He.cls_ok (c.fact 131 (f := fun K => (He.Fa.cls "Over").ok K) rfl),
  insC_of (c.fact 132 (f := insB "Over") rfl),
  He.noat_ok (c.fact 133 (f := fun K => (He.Fa.noat "Over" "kept").ok K) rfl),
  He.noat_ok (c.fact 134 (f := fun K => (He.Fa.noat "Over" "many").ok K) rfl),
  He.noat_ok (c.fact 135 (f := fun K => (He.Fa.noat "Over" "step").ok K) rfl),
  He.meth_ok (c.fact 136 (f := fun K => (He.Fa.meth "Over" "__init__").ok K) rfl),
  He.meth_ok (c.fact 137 (f := fun K => (He.Fa.meth "Over" "parts").ok K) rfl),
  He.meth_ok (c.fact 138 (f := fun K => (He.Fa.meth "Over" "moments").ok K) rfl),
  He.meth_ok (c.fact 139 (f := fun K => (He.Fa.meth "Over" "pieces").ok K) rfl),
  He.meth_ok (c.fact 140 (f := fun K => (He.Fa.meth "Over" "begins").ok K) rfl),
  He.meth_ok (c.fact 141 (f := fun K => (He.Fa.meth "Over" "ends").ok K) rfl),
  He.meth_ok (c.fact 142 (f := fun K => (He.Fa.meth "Over" "means_many").ok K) rfl),
  He.meth_ok (c.fact 143 (f := fun K => (He.Fa.meth "Over" "nested").ok K) rfl),
  He.meth_ok (c.fact 144 (f := fun K => (He.Fa.meth "Over" "__str__").ok K) rfl),
  He.mkr_ok (c.fact 145 (f := fun K => (He.Fa.mkr "Over").ok K) rfl),
  of_decide_eq_true (c.fact 146 (f := kitF "Over" "Short" true) rfl),
  of_decide_eq_true (c.fact 147 (f := kitF "Over" "Spread" false) rfl),
  of_decide_eq_true (c.fact 148 (f := kitFT "Over" "int" false) rfl),
  of_decide_eq_true (c.fact 149 (f := kitFT "Over" "bool" false) rfl),
  of_decide_eq_true (c.fact 150 (f := kitFT "Over" "list" false) rfl),
  of_decide_eq_true (c.fact 151 (f := kitFT "Over" "tuple" false) rfl),
  of_decide_eq_true (c.fact 152 (f := kitFT "Over" "ValueError" false) rfl),
  of_decide_eq_true (c.fact 153 (f := kitFT "Over" "LookupError" false) rfl),
  of_decide_eq_true (c.fact 154 (f := kitFT "Over" "RuntimeError" false) rfl),
  He.cls_ok (c.fact 155 (f := fun K => (He.Fa.cls "Spread").ok K) rfl),
  insC_of (c.fact 156 (f := insB "Spread") rfl),
  He.noat_ok (c.fact 157 (f := fun K => (He.Fa.noat "Spread" "kept").ok K) rfl),
  He.noat_ok (c.fact 158 (f := fun K => (He.Fa.noat "Spread" "held").ok K) rfl),
  He.meth_ok (c.fact 159 (f := fun K => (He.Fa.meth "Spread" "__init__").ok K) rfl),
  He.meth_ok (c.fact 160 (f := fun K => (He.Fa.meth "Spread" "parts").ok K) rfl),
  He.meth_ok (c.fact 161 (f := fun K => (He.Fa.meth "Spread" "moments").ok K) rfl),
  He.meth_ok (c.fact 162 (f := fun K => (He.Fa.meth "Spread" "pieces").ok K) rfl),
  He.meth_ok (c.fact 163 (f := fun K => (He.Fa.meth "Spread" "__eq__").ok K) rfl),
  He.meth_ok (c.fact 164 (f := fun K => (He.Fa.meth "Spread" "__len__").ok K) rfl),
  He.meth_ok (c.fact 165 (f := fun K => (He.Fa.meth "Spread" "__str__").ok K) rfl),
  He.meth_ok (c.fact 166 (f := fun K => (He.Fa.meth "Spread" "__repr__").ok K) rfl),
  He.mkr_ok (c.fact 167 (f := fun K => (He.Fa.mkr "Spread").ok K) rfl),
  noBase_of (c.fact 168 (f := noBaseF "Spread") rfl),
  of_decide_eq_true (c.fact 169 (f := kitF "Spread" "Short" false) rfl),
  of_decide_eq_true (c.fact 170 (f := kitF "Spread" "Spread" true) rfl),
  of_decide_eq_true (c.fact 171 (f := kitFT "Spread" "int" false) rfl),
  of_decide_eq_true (c.fact 172 (f := kitFT "Spread" "bool" false) rfl),
  of_decide_eq_true (c.fact 173 (f := kitFT "Spread" "list" false) rfl),
  of_decide_eq_true (c.fact 174 (f := kitFT "Spread" "tuple" false) rfl),
  of_decide_eq_true (c.fact 175 (f := kitFT "Spread" "ValueError" false) rfl),
  of_decide_eq_true (c.fact 176 (f := kitFT "Spread" "LookupError" false) rfl),
  of_decide_eq_true (c.fact 177 (f := kitFT "Spread" "RuntimeError" false) rfl),
  of_decide_eq_true (c.fact 178 (f := kitBF "int" "Short" false) rfl),
  of_decide_eq_true (c.fact 179 (f := kitBF "bool" "Short" false) rfl),
  of_decide_eq_true (c.fact 180 (f := kitBF "str" "Short" false) rfl),
  of_decide_eq_true (c.fact 181 (f := kitBF "NoneType" "Short" false) rfl),
  of_decide_eq_true (c.fact 182 (f := kitBF "list" "Short" false) rfl),
  of_decide_eq_true (c.fact 183 (f := kitBF "tuple" "Short" false) rfl),
  of_decide_eq_true (c.fact 184 (f := kitBF "dict" "Short" false) rfl),
  of_decide_eq_true (c.fact 185 (f := kitBF "int" "Spread" false) rfl),
  of_decide_eq_true (c.fact 186 (f := kitBF "bool" "Spread" false) rfl),
  of_decide_eq_true (c.fact 187 (f := kitBF "str" "Spread" false) rfl),
  of_decide_eq_true (c.fact 188 (f := kitBF "NoneType" "Spread" false) rfl),
  of_decide_eq_true (c.fact 189 (f := kitBF "list" "Spread" false) rfl),
  of_decide_eq_true (c.fact 190 (f := kitBF "tuple" "Spread" false) rfl),
  of_decide_eq_true (c.fact 191 (f := kitBF "dict" "Spread" false) rfl),
  noEq_of (c.fact 192 (f := noEqF "At") rfl),
  of_decide_eq_true (c.fact 193 (f := exm1F "NoPiece" "GoingError" true) rfl),
  excC_of (c.fact 194 (f := excCB "NoPiece") rfl),
  of_decide_eq_true (c.fact 195 (f := kitF "NoPiece" "GoingError" true) rfl),
  of_decide_eq_true (c.fact 196 (f := kitF "NoPiece" "LackError" false) rfl),
  of_decide_eq_true (c.fact 197 (f := kitF "NoPiece" "BookError" false) rfl),
  of_decide_eq_true (c.fact 198 (f := kitF "NoPiece" "NoTime" false) rfl),
  of_decide_eq_true (c.fact 199 (f := kitF "NoPiece" "NoPiece" true) rfl),
  of_decide_eq_true (c.fact 200 (f := kitF "NoPiece" "NoDays" false) rfl),
  of_decide_eq_true (c.fact 201 (f := kitF "NoPiece" "NoCard" false) rfl),
  of_decide_eq_true (c.fact 202 (f := kitF "NoPiece" "NoName" false) rfl),
  of_decide_eq_true (c.fact 203 (f := kitF "NoPiece" "NoRow" false) rfl),
  of_decide_eq_true (c.fact 204 (f := kitF "NoPiece" "NoText" false) rfl),
  of_decide_eq_true (c.fact 205 (f := kitF "NoPiece" "NoLine" false) rfl),
  of_decide_eq_true (c.fact 206 (f := kitF "NoPiece" "NoGoing" false) rfl),
  of_decide_eq_true (c.fact 207 (f := kitF "NoPiece" "Needed" false) rfl),
  of_decide_eq_true (c.fact 208 (f := kitF "NoPiece" "Taken" false) rfl),
  of_decide_eq_true (c.fact 209 (f := kitF "NoPiece" "Round" false) rfl),
  of_decide_eq_true (c.fact 210 (f := kitF "NoPiece" "TooMuch" false) rfl),
  of_decide_eq_true (c.fact 211 (f := kitFT "NoPiece" "ValueError" true) rfl),
  of_decide_eq_true (c.fact 212 (f := kitFT "NoPiece" "LookupError" false) rfl),
  of_decide_eq_true (c.fact 213 (f := kitFT "NoPiece" "RuntimeError" false) rfl),
  of_decide_eq_true (c.fact 214 (f := exm3F "NoPiece" ["GoingError", "LackError", "BookError"]) rfl),
  c.def_ 0 (d := d_NoText_init) rfl,
  c.def_ 1 (d := d_NoLine_init) rfl,
  c.def_ 2 (d := d_NoGoing_init) rfl,
  c.def_ 3 (d := d_Needed_init) rfl,
  c.def_ 4 (d := d_Taken_init) rfl,
  c.def_ 5 (d := d_Round_init) rfl,
  c.def_ 6 (d := d_is_minute) rfl,
  c.def_ 7 (d := d_in_rising_order) rfl,
  c.def_ 8 (d := d_is_over) rfl,
  c.def_ 9 (d := d_first_parts) rfl,
  c.def_ 10 (d := d_most_number) rfl,
  c.def_ 11 (d := d_numbers_of) rfl,
  c.def_ 12 (d := d_paper_of) rfl,
  c.def_ 13 (d := d_has_shape) rfl,
  c.def_ 14 (d := d_is_paper) rfl,
  c.def_ 15 (d := d_is_whole) rfl,
  c.def_ 16 (d := d_is_moment) rfl,
  c.def_ 17 (d := d_want_moment) rfl,
  c.def_ 18 (d := d_clock_of) rfl,
  c.def_ 19 (d := d_show_moment) rfl,
  c.def_ 20 (d := d_is_number) rfl,
  c.def_ 21 (d := d_Short_moments) rfl,
  c.def_ 22 (d := d_Short_pieces) rfl,
  c.def_ 23 (d := d_Short_begins) rfl,
  c.def_ 24 (d := d_Short_ends) rfl,
  c.def_ 25 (d := d_Short_means_many) rfl,
  c.def_ 26 (d := d_Short_nested) rfl,
  c.def_ 27 (d := d_all_rising) rfl,
  c.def_ 28 (d := d_shorts_in) rfl,
  c.def_ 29 (d := d_row_moments) rfl,
  c.def_ 30 (d := d_row_many) rfl,
  c.def_ 31 (d := d_row_pieces) rfl,
  c.def_ 32 (d := d_row_text) rfl,
  c.def_ 33 (d := d_At_init) rfl,
  c.def_ 34 (d := d_At_moments) rfl,
  c.def_ 35 (d := d_At_pieces) rfl,
  c.def_ 36 (d := d_At_begins) rfl,
  c.def_ 37 (d := d_At_ends) rfl,
  c.def_ 38 (d := d_At_means_many) rfl,
  c.def_ 39 (d := d_At_nested) rfl,
  c.def_ 40 (d := d_At_str) rfl,
  c.def_ 41 (d := d_Over_init) rfl,
  c.def_ 42 (d := d_Over_parts) rfl,
  c.def_ 43 (d := d_Over_moments) rfl,
  c.def_ 44 (d := d_Over_pieces) rfl,
  c.def_ 45 (d := d_Over_begins) rfl,
  c.def_ 46 (d := d_Over_ends) rfl,
  c.def_ 47 (d := d_Over_means_many) rfl,
  c.def_ 48 (d := d_Over_nested) rfl,
  c.def_ 49 (d := d_Over_str) rfl,
  c.def_ 50 (d := d_Spread_init) rfl,
  c.def_ 51 (d := d_Spread_parts) rfl,
  c.def_ 52 (d := d_Spread_moments) rfl,
  c.def_ 53 (d := d_Spread_pieces) rfl,
  c.def_ 54 (d := d_Spread_eq) rfl,
  c.def_ 55 (d := d_Spread_len) rfl,
  c.def_ 56 (d := d_Spread_str) rfl,
  c.def_ 57 (d := d_Spread_repr) rfl,
  c.def_ 58 (d := d_first_size) rfl,
  c.def_ 59 (d := d_over_part) rfl,
  c.def_ 60 (d := d_short_of) rfl,
  c.def_ 61 (d := d_shorts_of) rfl,
  c.def_ 62 (d := d_shortest) rfl,
  c.def_ 63 (d := d__law_pot) rfl,
  c.def_ 64 (d := d__law_draw) rfl,
  c.def_ 65 (d := d__law_good) rfl,
  c.def_ 66 (d := d__law_odd) rfl,
  c.def_ 67 (d := d__law_bad) rfl,
  c.def_ 68 (d := d__law_kinds) rfl,
  c.def_ 69 (d := d__law_asked) rfl,
  c.def_ 70 (d := d_law) rfl⟩
end Toy
open PySem PySem.W PySem.Calls PyProof.Rows
set_option maxRecDepth 100000 in
set_option maxHeartbeats 0 in
theorem PySem.Challenge.cw_shortgoings_k37_what_is_no_list_holds : PySem.Challenge.rw_shortgoings_k37_what_is_no_list.Holds := by
  w_on; o_law
  refine HandSHeadRun.head_any (r := OpenLaw.row PySem.Challenge.rw_shortgoings_k37_what_is_no_list) (q := view (OpenLaw.row PySem.Challenge.rw_shortgoings_k37_what_is_no_list).prog [67]) (H := Toy.hk) (ob := Toy.ob) (M := 8000) (loose := Toy.nss) (d := HandSHeadRun.topDef (OpenLaw.row PySem.Challenge.rw_shortgoings_k37_what_is_no_list).prog 67) (kwd := []) Toy.ob_eq
    (by kernel_rfl) (fun s => by kernel_rfl) Toy.run (by kernel_rfl) (by kernel_rfl) (by kernel_rfl) (by rfl) (by first | assumption | decide +kernel) (by decide +kernel) ⟨rfl, rfl, rfl, rfl, rfl, by decide +kernel⟩ ?hw ?hc
  case hw => w_witness2
  case hc =>
    refine L3.walk_end (l := PySem.Challenge.rw_shortgoings_k37_what_is_no_list) (n := 63) (k := 101) (x := "_law_script") rfl (by decide) (by kernel_rfl) (L3.rm_caller.mono (by decide)) ?F
    intro w mg fa h Y G hmg0
    obtain ⟨K, KX, c⟩ := Y
    have hmg : mg ("law" : PySem.Str) = some (.ref fa) := by
      have e : (HandSHeadRun.topDef (OpenLaw.row PySem.Challenge.rw_shortgoings_k37_what_is_no_list).prog 67).name = ("law" : PySem.Str) := by kernel_rfl
      rw [← e]
      exact hmg0
    have T := Toy.env_of KX G c
    have e := hmg.symm.trans T.g_law
    cases e
    obtain ⟨fd, F⟩ := T.f_law
    have b := L2.FunD.bindsA (ps := ["_law_script"]) F fun _ _ _ _ _ _ us hl => match us, hl with | [_], _ => rfl
    exact ⟨K, fd, Toy.sp_law K, KX, fun s v => b s [v] rfl, fun H a ns hl hS => ⟨a, ns, rfl, hS, hl, fun _ => rfl⟩, fun base _ _ => Toy.ok_law T F⟩
