import PyProof.Rows.All
import Wide.All
import OpenK.AllK
import Wide.FinOn
import PyProof.EqAt
import PyProof.EqKinds
import PyProof.TupleCall
import HandS.ForMost
import HandS.ForExc
import HandS.Defaults
import HandS.MakeKwOnly
import HandS.WideBits
import HandS.IsInst
import HandS.Flow
import HandS.Style
import HandS.Evl
import HandS.StrMore
import HandS.TupAny
import HandS.SortInts
import HandS.RaiseMore
import HandS.Zip
import HandS.Head0
import HandS.Head1
import HandS.Head2
import HandS.HeadEnd
import HandS.HeadHook1
import HandS.HeadHook2
import HandS.Walk
import PyProof.Rows.StrJoinRep
import PyProof.StrLawsLast
import HandS.Codes
import HandS.ExcIs
import KE.KTryMore
import KE.KFmtOwn
import PyProof.InstSpecial
import HandS.TryOnly
import HandS.FStr
import HandS.Conv
import HandS.SetFor
import HandS.Strs
import HandS.OwnEq
import HandS.Deep
import HandS.RaiseFrom
import HandS.SuiteRaise
import HandS.Exc
import KE.GoesMore
import HandS.HotCalls
import HandS.ExcField
import HandS.More
import HandS.SetTxt0
import PySem.Challenge.RW_shortgoings_k51_goings_made
set_option Elab.async false
set_option linter.all false
set_option maxRecDepth 100000
set_option maxHeartbeats 4000000
namespace L3
open PySem PySem.Spec PyProof.Rows L2
structure Rm (k : Nat) (A : Around) : Prop where
  rm : Room k A
  gd : A.guards = some []
theorem Rm.mono {j k : Nat} {A : Around} (r : Rm k A) (h : j ≤ k) : Rm j A := ⟨r.rm.mono h, r.gd⟩
theorem Rm.deeper {k : Nat} {A : Around} (r : Rm (k + 1) A) (env : Env) : Rm k (A.deeper env) := ⟨r.rm.deeper env, r.gd⟩
theorem make_guards {A : Around} {C : Addr} {us : List Value} {kw : List (Str × Value)} : (A.under (.builtin "type.__call__" ⟨.ref C :: us, kw⟩)).guards = A.guards := by
  have e : Code.guards (.builtin "type.__call__" ⟨.ref C :: us, kw⟩) = [] := by
    first | rfl | simp [Code.guards, Code.isGuard, guardIds]
  show pushGuards (Code.guards (.builtin "type.__call__" ⟨.ref C :: us, kw⟩)) A.guards = A.guards
  rw [e]
  cases A.guards <;> rfl
theorem Rm.make {k : Nat} {A : Around} (r : Rm (k + 1) A) (C : Addr) (us : List Value) (kw : List (Str × Value)) : Rm k (A.under (.builtin "type.__call__" ⟨.ref C :: us, kw⟩)) :=
  ⟨r.rm.make C us kw, make_guards.trans r.gd⟩
structure Fb (P : Program) (w : World) (K : PySem.W.Frag) (mg : Str → Option Value) (base : Heap) (k : Nat) (f : Addr) (fd : FuncData) (ps : List Str) (sp : Sp) : Prop where
  len : ∀ vs H Q E, sp vs H Q E → vs.length = ps.length
  run : ∀ (A : Around) (outer : List Env) (s : Shared) (H : Hp) (args : Args) (us : List Value) (vs : List V) (Q : VK) (E : XK), Rm k A → Env0 P w K mg base A outer s H → BindsTo s fd args (ps.zip us) → Vals vs us → sp vs H Q E →
    codeAny (model P w) A (.call (.ref f) args) (CR (L2.CX P w) outer P w H s Q E) s
section
variable {P : Program} {w : World} {K : PySem.W.Frag} {mg : Str → Option Value} {base : Heap} {x qual : Str} {params : Arguments} {body : List Stmt} {scope : Scope} {dvs : List V} {kws : List (Str × V)} {f : Addr} {fd : FuncData} {k : Nat} {ps N : List Str} {sp : Sp}
theorem fb_of (F : FunD K x qual params body scope dvs kws f fd) (S : FnScope N ps scope) (len : ∀ vs H Q E, sp vs H Q E → vs.length = ps.length)
    (hbody : ∀ (cdv : Value) (A : Around) (outer : List Env) (s : Shared) (H : Hp) (vs : List V) (Q : VK) (E : XK), Rm k (A.deeper (envOfC qual scope s.heap.objs.size f cdv)) → sp vs H Q E →
      ∃ t, PSs (cxOf (L2.CX P w) P w K mg base N qual scope f cdv A outer s H E) body t ∧ t { nx := fun _ H' => Q .non H', rt := Q } (start N vs) H) : Fb P w K mg base (k + 1) f fd ps sp := by
  obtain ⟨oc, od, dV, kV, doc, pm, an, cdv, ct, osl, rfl, lk, hcd, _, _⟩ := F.ex
  refine ⟨len, fun A outer s H args us vs Q E hr e0 hb r hsp => ?_⟩
  have hl := len _ _ _ _ hsp
  have KX : K.In s.heap := e0.mod.kin.keeps fun b o e => (e0.bs b o e).1
  have lim : s.heap.NoLimit := e0.mod.nolimit.keeps fun b o e => (e0.bs b o e).1
  have hkind : ∀ y ∈ ps.zip us, scope.names.lookup y.1 = some .local ∨ (scope.names.lookup y.1 = some .cell ∧ ((cellsFrom (s.heap.objs.size + 1) scope.names []).lookup y.1).isSome = true) := fun ⟨n, v⟩ hy => by
    rcases S.par n (List.of_mem_zip hy).1 with q | q
    · exact .inl q
    · exact .inr ⟨q, PySem.W.cellsFrom_some _ _ _ (.inl q)⟩
  refine codeAny_call_function hr.rm.depth (KX _ _ lk) rfl S.co S.gen rfl (PySem.W.codeRec_of KX hcd) (hb _ _ _ _ ?_)
  refine wpAny_newFunctionEnv_cells S.kind hkind fun env he s1 x => ?_
  subst he
  refine ⟨lim.keeps x.toInCall.keep, codeAny_func ?_⟩
  obtain ⟨t, ht, hq⟩ := hbody cdv A outer s H vs Q E (hr.deeper _) hsp
  have I : Inv (cxOf (L2.CX P w) P w K mg base N qual scope f cdv A outer s H E) [] (start N vs) H s1 := inv_start S hr.rm.hd e0 hl r x
  refine wpAny_mono (ht.run [] s1 (start N vs) H _ I hq) (fun fl s' hs => ?_) fun e s' hs => hs
  have fin : ∀ {σ' : L2.St} {H' : Hp} {v : V} {u : Value}, Inv (cxOf (L2.CX P w) P w K mg base N qual scope f cdv A outer s H E) [] σ' H' s' → RelV v u → Q v H' → CE outer P w H s Q u s' :=
    fun {σ' H' v u} J rv q => ⟨v, H', J.os, J.bare, J.base, J.hok, rv, q⟩
  cases fl with
  | ret u =>
    obtain ⟨v, σ', H', J, rv, q⟩ := hs
    exact fin J rv q
  | next =>
    obtain ⟨σ', H', J, q⟩ := hs
    exact fin (v := V.non) (u := Value.none) J rfl q
  | brk =>
    obtain ⟨_, _, _, q⟩ := hs
    exact False.elim q
  | cont =>
    obtain ⟨_, _, _, q⟩ := hs
    exact False.elim q
theorem Fb.mono {j : Nat} (F : Fb P w K mg base j f fd ps sp) (h : j ≤ k) : Fb P w K mg base k f fd ps sp := ⟨F.len, fun A outer s H args us vs Q E hr => F.run A outer s H args us vs Q E (hr.mono h)⟩
theorem Fb.imp {sp' : Sp} (F : Fb P w K mg base k f fd ps sp) (h : ∀ vs H Q E, sp' vs H Q E → sp vs H Q E) : Fb P w K mg base k f fd ps sp' :=
  ⟨fun vs H Q E q => F.len vs H Q E (h _ _ _ _ q), fun A outer s H args us vs Q E hr he hb hv hs => F.run A outer s H args us vs Q E hr he hb hv (h _ _ _ _ hs)⟩
def Fc (P : Program) (w : World) (K : PySem.W.Frag) (mg : Str → Option Value) (base : Heap) (k : Nat) (f : Addr) (ks : List Str) (sp : Sp) : Prop :=
  ∀ (A : Around) (outer : List Env) (s : Shared) (H : Hp) (us ws : List Value) (vs : List V) (Q : VK) (E : XK), Rm k A → Env0 P w K mg base A outer s H → Vals vs (us ++ ws) → ws.length = ks.length → sp vs H Q E →
    codeAny (model P w) A (.call (.ref f) ⟨us, ks.zip ws⟩) (CR (L2.CX P w) outer P w H s Q E) s
theorem Fc.mono {j : Nat} {ks : List Str} (F : Fc P w K mg base j f ks sp) (h : j ≤ k) : Fc P w K mg base k f ks sp := fun A outer s H us ws vs Q E hr => F A outer s H us ws vs Q E (hr.mono h)
theorem Fc.imp {sp' : Sp} {ks : List Str} (F : Fc P w K mg base k f ks sp) (h : ∀ vs H Q E, sp' vs H Q E → sp vs H Q E) : Fc P w K mg base k f ks sp' :=
  fun A outer s H us ws vs Q E hr he hv hl hs => F A outer s H us ws vs Q E hr he hv hl (h _ _ _ _ hs)
/-- every parameter is given by place -/
theorem Fb.all (F : Fb P w K mg base k f fd ps sp) (hb : Binds K fd ps []) : Fc P w K mg base k f [] sp := fun A outer s H us ws vs Q E hr e0 r hl h => by
  cases ws with
  | cons w ws => cases hl
  | nil =>
    rw [List.append_nil] at r
    have KX : K.In s.heap := e0.mod.kin.keeps fun b o e => (e0.bs b o e).1
    have l2 : us.length = ps.length := by rw [← r.length]; exact F.len _ _ _ _ h
    have b := hb s us KX (by rw [List.append_nil]; exact l2)
    rw [List.append_nil] at b
    exact F.run A outer s H ⟨us, []⟩ us vs Q E hr e0 b r h
/-- some by place, some by name, some left out: g puts the given ones and the defaults into the parameters' order -/
theorem Fb.shape (D : FunD K x qual params body scope dvs kws f fd) (F : Fb P w K mg base k f fd ps sp) (n : Nat) (ks : List Str) (g : {α : Type} → List α → List α → List α) (hd : dvs ≠ [])
    (hrel : ∀ {vs ds : List V} {us its : List Value}, Vals vs us → Vals ds its → Vals (g vs ds) (g us its))
    (h : ∀ (T : Addr) (kV doc pm : Value) (an : Option Addr) (cdv ct : Value) (us ws its : List Value), us.length = n → ws.length = ks.length → its.length = dvs.length →
      ∃ k, bindArgs (PySem.W.fnOf x qual params body scope (.ref T) kV doc pm an cdv ct) ⟨us, ks.zip ws⟩ = seqItems? (.ref T) >>= k ∧ k (some its.toArray) = pure (ps.zip (g (us ++ ws) its))) :
    Fc P w K mg base k f ks (fun vs H Q E => vs.length = n + ks.length ∧ sp (g vs dvs) H Q E) := by
  obtain ⟨oc, od, dV, kV, doc, pm, an, cdv, ct, osl, rfl, lk, hcd, hD, hK⟩ := D.ex
  rcases hD with ⟨e, _⟩ | ⟨_, T, o, its, m, rfl, lT, oT, rT⟩
  · exact absurd e hd
  · intro A outer s H us ws vs Q E hr e0 r hl hsp
    have KX : K.In s.heap := e0.mod.kin.keeps fun b o e => (e0.bs b o e).1
    have l1 : its.length = dvs.length := rT.length.symm
    have l2 : us.length = n := by
      have e := r.length
      rw [hsp.1, List.length_append, hl] at e
      omega
    obtain ⟨k, e1, e2⟩ := h T kV doc pm an cdv ct us ws its l2 hl l1
    refine F.run A outer s H ⟨us, ks.zip ws⟩ (g (us ++ ws) its) (g vs dvs) Q E hr e0 (BindsTo.of_looks fun M => ?_) (hrel r rT) hsp.2
    rw [e1]
    exact looks_items KX lT oT (.of_pure e2)
/-- all parameters given, some by name, no defaults -/
theorem Fb.names (D : FunD K x qual params body scope [] kws f fd) (F : Fb P w K mg base k f fd ps sp) (n : Nat) (ks : List Str) (g : {α : Type} → List α → List α)
    (hrel : ∀ {vs : List V} {us : List Value}, Vals vs us → Vals (g vs) (g us))
    (h : ∀ (kV doc pm : Value) (an : Option Addr) (cdv ct : Value) (us ws : List Value), us.length = n → ws.length = ks.length →
      bindArgs (PySem.W.fnOf x qual params body scope .none kV doc pm an cdv ct) ⟨us, ks.zip ws⟩ = pure (ps.zip (g (us ++ ws)))) :
    Fc P w K mg base k f ks (fun vs H Q E => vs.length = n + ks.length ∧ sp (g vs) H Q E) := by
  obtain ⟨oc, od, dV, kV, doc, pm, an, cdv, ct, osl, rfl, lk, hcd, hD, hK⟩ := D.ex
  rcases hD with ⟨_, rfl⟩ | ⟨e, _⟩
  · intro A outer s H us ws vs Q E hr e0 r hl hsp
    have l2 : us.length = n := by
      have e := r.length
      rw [hsp.1, List.length_append, hl] at e
      omega
    exact F.run A outer s H ⟨us, ks.zip ws⟩ (g (us ++ ws)) (g vs) Q E hr e0 (.of_eq (h kV doc pm an cdv ct us ws l2 hl)) (hrel r) hsp.2
  · exact absurd rfl e
end
def tFc (sp : Sp) (W : WX) (t : TA) : TE := fun σ H Q => t σ H fun vs H1 => sp vs H1 Q (WE W σ)
section
variable {X : Cx} {k : Nat} {f C : Addr} {ks : List Str} {sp : Sp} {W : WX} {x m : Str} {p pos apos : Pos} {e o : Expr} {es : List Expr} {kws : List Keyword} {ta : TE} {t tk : TA}
theorem run_fc {pins : List (Addr × Obj)} {σ : L2.St} {H : Hp} {s : Shared} {Q : VK} {us ws : List Value} {vs : List V} (F : Fc X.prog X.w X.K X.mg X.base k f ks sp) (hr : Rm k X.A) (hx : Takes X W)
    (I : Inv X pins σ H s) (r : Vals vs (us ++ ws)) (hl : ws.length = ks.length) (h : sp vs H Q (WE W σ)) : wpAny (model X.prog X.w) X.A (call (.ref f) us (ks.zip ws)) (EP X pins σ Q) X.xe s := by
  refine wpAny_call (codeAny_mono (F X.A X.stack s H us ws vs Q (WE W σ) hr I.env0 r hl h) fun r s' hq => ?_)
  cases r with
  | error e => exact passAt hx σ pins H s e s' I hq
  | ok fl =>
    cases fl with
    | ret u => exact I.after hq
    | next => exact False.elim hq
    | brk => exact False.elim hq
    | cont => exact False.elim hq
/-- f(e, ..) -/
theorem c_call (F : Fc X.prog X.w X.K X.mg X.base k f [] sp) (hr : Rm k X.A) (hm : X.mg x = some (.ref f)) (hk : PySem.W.keepIn X.K (.ref f) = true) (hx : Takes X W)
    (ha : PA X (e :: es) t) (hg : Gl X x := by rfl) (hdb : (x == ("__debug__" : Str)) = false := by decide) (he : starEach (e :: es) X.env = (false, eval e X.env) :: starEach es X.env := by rfl) (hpl : (backTo pos (starEach es X.env)).any (·.1) = false := by rfl) :
    PE X (.Call (.Name x p) (e :: es) [] pos) (tFc sp W t) := by
  refine ⟨fun pins s σ H Q I h => ?_⟩
  refine wpAny_Call_Name_kw (ld_glob I hg hm ?_ hdb)
  refine PySem.W.callWith_K (h₀ := X.base) I.ok.mod.kin hk (thn (ha.run pos pins s σ H _ I h) fun us s1 ⟨vs, H1, I1, r, q⟩ => ⟨I1.kIn, ?_⟩) he hpl
  exact run_fc (ws := []) F hr hx I1 (by rw [List.append_nil]; exact r) rfl q
end
@[irreducible] def rRepr (K : PySem.W.Frag) : List V → Hp → VK → Prop := fun xs H Q => ∃ (a : Addr) (d : PyData), xs = [.ref a] ∧ Dp K H (.ref a) d ∧ d.hasDict = false ∧ d.showable = true ∧ d.depth ≤ 60 ∧ d.shown.length ≤ sizeLine ∧ Q (.str d.shown) H
theorem call_repr {X : Cx} {k : Nat} (hr : Rm k X.A) : CallR X (.builtin "repr") (rRepr X.K) := by
  intro pins s σ H xs us Q I r h
  unfold rRepr at h
  obtain ⟨a, d, rfl, hd, hnd, hs, hdp, hsz, q⟩ := h
  cases r with
  | cons r1 r2 =>
    cases r2
    obtain ⟨as, rd⟩ := Dp.reads I d (.ref a) _ hd r1
    obtain rfl : _ = Value.ref a := r1
    refine repr_of_reads' rd hs (PyData.noDict_hsm hnd) hr.gd (by have := hr.rm.un; omega) (fun _ _ e => e) (fun h' u tk hk => ?_) hsz
    exact ⟨.str d.shown, H, I.kept hk, ⟨u, rfl⟩, q⟩
theorem rm_caller : Rm 230 callerA := ⟨⟨rfl, by decide, by decide⟩, rfl⟩
section
variable {P : Program} {w : World} {K : PySem.W.Frag} {mg mb : Str → Option Value} {k : Nat} {fa a : Addr} {fd : FuncData} {x : Str} {sp : Sp} {s₁ : Shared} {vs : List Value} {ns : List Int}
/-- the law's call over one abstract heap, in which at most the script is tracked -/
theorem law_core (H : Hp) (KX : K.In s₁.heap) (hns : s₁.heap.Ns mainGlobals mg) (hb : s₁.heap.Ns builtinsNs mb) (hbb : ∀ x : Str, x ≠ "__name__" → mb x = bootBuiltins x) (hlim : s₁.heap.NoLimit) (hg : s₁.gens = #[])
    (ha : s₁.heap.get? a = some { cls := .type "list", data := .seq vs.toArray }) (hr : Rm k callerA)
    (F : ∀ base : Heap, K.In base → base.Ns mainGlobals mg → Fb P w K mg base k fa fd [x] sp) (hbind : ∀ (s : Shared) (u : Value), BindsTo s fd ⟨[u], []⟩ [(x, u)])
    (hO : Only H) (hsp : sp [.ref a] H (fun v _ => v = .bl true) fun _ _ _ => False) (hok : HOk P w H s₁.heap) (hA : ∀ b, H b ≠ none → b = a) (hK : H a ≠ none → K.lookup a = none) :
    codeAny (model P w) callerA (.call (.ref fa) ⟨[.ref a], []⟩) (fun r s' => r = .ok (.ret (.bool true)) ∧ OldK s₁.heap s'.heap ∧ s'.os = s₁.os ∧ AllBare s'.gens) s₁ := by
  have isA : ∀ {b : Addr} {u : HO}, H b = some u → b = a := fun {b u} q => hA b (fun z => nomatch (q.symm.trans z))
  have free : ∀ {b : Addr} {o : Obj} {es : Array DictEntry} {ep : Nat}, s₁.heap.get? b = some o → o.data = .dict es ep → H b = none := fun {b o es ep} e d => by
    cases q : H b with
    | none => rfl
    | some u =>
      have eb := isA q
      subst eb
      rw [ha] at e
      cases e
      cases (show Data.seq vs.toArray _ = Data.dict es ep from d)
  have nsK : ∀ {b : Addr} {m : Str → Option Value}, s₁.heap.Ns b m → (hidT s₁.heap H).Ns b m := fun {b m} ⟨o, es, ep, e, d, r⟩ => ⟨o, es, ep, hidT_get e (free e d), d, r⟩
  have inK : K.In (hidT s₁.heap H) := fun b o e => hidT_get (KX b o e) (by
    cases q : H b with
    | none => rfl
    | some u =>
      have eb := isA q
      subst eb
      rw [hK (fun z => nomatch (q.symm.trans z))] at e
      cases e)
  have hM : Mod K mg (hidT s₁.heap H) := ⟨inK, nsK hns, ⟨mb, nsK hb, hbb⟩, let ⟨mc, h1, h2⟩ := hlim; ⟨mc, nsK h1, h2⟩⟩
  have e0 : Env0 P w K mg (hidT s₁.heap H) callerA [] s₁ H := ⟨rfl, hM, fun b o e => of_hidT e, Nat.le_of_eq (hidT_size _ _), trivial, (fun b z => nomatch (show b ∈ ([] : List Addr) from z)), hok, .of_eq hg⟩
  refine codeAny_mono ((F _ inK (nsK hns)).run callerA [] s₁ H ⟨[.ref a], []⟩ [.ref a] [.ref a] _ _ hr e0 (hbind s₁ (.ref a)) (.cons rfl .nil) hsp) fun r s' h => ?_
  cases r with
  | error e =>
    obtain ⟨_, _, _, _, _, _, _, _, _, _, _, _, z⟩ := h
    exact z.elim
  | ok fl =>
    cases fl with
    | next => exact h.elim
    | brk => exact h.elim
    | cont => exact h.elim
    | ret u =>
      obtain ⟨v, H', os, bare, un, hok2, rv, rfl⟩ := h
      obtain rfl : u = Value.bool true := rv
      refine ⟨rfl, OldK.of_keep fun b o e => ?_, os, bare⟩
      cases q : H b with
      | none => exact un.keep b o e q (fun z => nomatch (show b ∈ ([] : List Addr) from z)) (fun z => nomatch z)
      | some u =>
        rcases hO b with z | ⟨ob, xs, z⟩
        · exact nomatch (q.symm.trans z)
        · have e1 := (hok b _ z).1
          have e2 := (hok2 b _ (un.frzs b ob _ z)).1
          rw [e] at e1
          cases e1
          exact e2
theorem law_end (KX : K.In s₁.heap) (hns : s₁.heap.Ns mainGlobals mg) (hb : s₁.heap.Ns builtinsNs mb) (hbb : ∀ x : Str, x ≠ "__name__" → mb x = bootBuiltins x) (hlim : s₁.heap.NoLimit) (hg : s₁.gens = #[])
    (ha : s₁.heap.get? a = some { cls := .type "list", data := .seq vs.toArray }) (hi : IntsAre vs ns) (hl : ns.length ≤ sizeLine) (hr : Rm k callerA)
    (F : ∀ base : Heap, K.In base → base.Ns mainGlobals mg → Fb P w K mg base k fa fd [x] sp) (hbind : ∀ (s : Shared) (u : Value), BindsTo s fd ⟨[u], []⟩ [(x, u)])
    (hsp : ∀ H : Hp, SqL K H a (ns.map V.int) → sp [.ref a] H (fun v _ => v = .bl true) fun _ _ _ => False) :
    codeAny (model P w) callerA (.call (.ref fa) ⟨[.ref a], []⟩) (fun r s' => r = .ok (.ret (.bool true)) ∧ OldK s₁.heap s'.heap ∧ s'.os = s₁.os ∧ AllBare s'.gens) s₁ := by
  have rv := vals_ints hi
  cases hk : K.lookup a with
  | some o =>
    have e := KX a o hk
    rw [ha] at e
    cases e
    have sq : SqL K (fun _ => none) a (ns.map V.int) := .inr ⟨_, vs.toArray, _, hk, rfl, rfl, rfl, by rw [List.size_toArray, hi.length]; exact hl, by simpa using rv⟩
    exact law_core (fun _ => none) KX hns hb hbb hlim hg ha hr F hbind (fun _ => .inl rfl) (hsp _ sq) (fun b u z => nomatch (show (none : Option HO) = some u from z)) (fun b z => absurd rfl z) fun z => absurd rfl z
  | none =>
    have h1 : ∀ b, b ≠ a → (upd (fun _ => none) a (.frz { cls := .type "list", data := .seq vs.toArray } (.lst (ns.map V.int)))) b = none := fun b n => upd_ne n
    refine law_core (upd (fun _ => none) a (.frz { cls := .type "list", data := .seq vs.toArray } (.lst (ns.map V.int)))) KX hns hb hbb hlim hg ha hr F hbind (fun b => ?_) (hsp _ (.inl (.inr ⟨_, upd_same⟩))) (fun b u z => ?_) (fun b z => ?_) fun _ => hk
    · by_cases n : b = a
      · subst n
        exact .inr ⟨_, _, upd_same⟩
      · exact .inl (h1 b n)
    · by_cases n : b = a
      · subst n
        rw [upd_same] at z
        cases z
        exact ⟨ha, by rw [List.length_map]; exact hl, vs, _, rv, ha⟩
      · rw [h1 b n] at z
        cases z
    · by_cases n : b = a
      · exact n
      · exact absurd (h1 b n) z
end
theorem walk_end {l : PySem.W.OpenLaw} {n k : Nat} {q : Program} {loose : List Str} {XP : (Str → Option Value) → Heap → Prop} {YP : World → Heap → Prop} {d : DefRec} {x : Str}
    (hn : l.most = some n) (hn2 : n ≤ sizeLine) (hdf : d.params.defaults = []) (hr : Rm k callerA)
    (F : ∀ (w : World) (mg : Str → Option Value) (fa : Addr) (h : Heap), YP w h → h.Ns mainGlobals mg → mg d.name = some (.ref fa) →
      ∃ (K : PySem.W.Frag) (fd : FuncData) (sp : Sp), K.In h ∧ (∀ (s : Shared) (u : Value), BindsTo s fd ⟨[u], []⟩ [(x, u)]) ∧
        (∀ (H : Hp) (a : Addr) (ns : List Int), ns.length ≤ n → SqL K H a (ns.map V.int) → sp [.ref a] H (fun v _ => v = .bl true) fun _ _ _ => False) ∧
        ∀ base : Heap, K.In base → base.Ns mainGlobals mg → Fb l.prog w K mg base k fa fd [x] sp) :
    PySem.W.WalkO q loose XP YP l.row.toRowW d [] (fun f vs => PySem.call f vs) := by
  refine Att.attach_call hn hdf fun w s₀ s₁ mg mb fa o pm cd doc a vs ns G Y ho hd hcd hmg hobj hints hlen hg => ?_
  obtain ⟨K, fd, sp, KX, hb, hsp, hF⟩ := F w mg fa _ Y G.T.g hmg
  exact law_end KX G.T.g G.T.b G.T.builtins G.T.nolimit hg hobj hints (Nat.le_trans hlen hn2) hr hF hb (fun H hS => hsp H a ns hlen hS)
end L3
set_option Elab.async false
set_option linter.all false
set_option maxRecDepth 100000
set_option maxHeartbeats 4000000
namespace L3
open PySem PySem.Spec PyProof.Rows L2
abbrev Fx := PySem.W.Frag → Bool
def obsX (xf : List Fx) (fn : List He.DefD) (K : PySem.W.Frag) : He.AlD := ((xf.all fun p => p K) && fn.all fun d => d.ok K, fn.map fun d => He.fnW K d.at_)
def SaysX (xf : List Fx) (fn : List He.DefD) (K : PySem.W.Frag) : Prop := obsX xf fn K = He.valD fn
section
variable {xf : List Fx} {fn : List He.DefD} {K : PySem.W.Frag}
theorem SaysX.fact (c : SaysX xf fn K) (i : Nat) {f : Fx} (h : xf[i]? = some f := by rfl) : f K = true := by
  have c1 := (He.ba (show ((xf.all fun f => f K) && fn.all fun d => d.ok K) = true from congrArg (fun z : He.AlD => z.1) c)).1
  exact List.all_eq_true.mp c1 f (List.mem_of_getElem? h)
theorem SaysX.def_ (c : SaysX xf fn K) (i : Nat) {d : He.DefD} (h : fn[i]? = some d := by rfl) : ∃ fd, FunD K d.name d.qual d.params d.body d.scope (d.dvs K) (d.kws K) (He.fAd K d.at_) fd := by
  have c2 := (He.ba (show ((xf.all fun f => f K) && fn.all fun d => d.ok K) = true from congrArg (fun z : He.AlD => z.1) c)).2
  have e : fn.map (fun d => He.fnW K d.at_) = fn.map He.DefD.val := congrArg (fun z : He.AlD => z.2) c
  have e2 : (fn.map fun d => He.fnW K d.at_)[i]? = (fn.map He.DefD.val)[i]? := by rw [e]
  rw [List.getElem?_map, List.getElem?_map, h] at e2
  exact He.DefD.funD (Option.some.inj e2) (List.all_eq_true.mp c2 d (List.mem_of_getElem? h))
end
structure Exo (K : PySem.W.Frag) (C : Addr) (bmB : List Value) (newId : String) : Prop where
  x : PySem.W.excIn K C bmB newId = true
  kp : PySem.W.keepIn K (.ref C) = true
  sub : PySem.W.subIn K (.ref C) (.type "BaseException") = some true
  ty : PySem.W.typeIn K (.ref C) = some (.type "type")
abbrev bmV : List Value := [.type "ValueError", .type "Exception", .type "BaseException", .type "object"]
abbrev bmL : List Value := [.type "LookupError", .type "Exception", .type "BaseException", .type "object"]
abbrev bmR : List Value := [.type "RuntimeError", .type "Exception", .type "BaseException", .type "object"]
def exoB (bmB : List Value) (newId : String) (x : Str) : Fx := fun K => PySem.W.excIn K (He.ga K x) bmB newId && (PySem.W.keepIn K (.ref (He.ga K x)) && (decide (PySem.W.subIn K (.ref (He.ga K x)) (.type "BaseException") = some true) && decide (PySem.W.typeIn K (.ref (He.ga K x)) = some (.type "type"))))
theorem exo_of {bmB : List Value} {newId : String} {x : Str} {K : PySem.W.Frag} (h : exoB bmB newId x K = true) : Exo K (He.ga K x) bmB newId := by
  obtain ⟨h1, h⟩ := He.ba h
  obtain ⟨h2, h⟩ := He.ba h
  obtain ⟨h3, h4⟩ := He.ba h
  exact ⟨h1, h2, of_decide_eq_true h3, of_decide_eq_true h4⟩
section
variable {K : PySem.W.Frag} {h : Heap} {mg : Str → Option Value}
theorem gint_of (X : K.In h) (G : h.Ns mainGlobals mg) {x : Str} {i : Int} (c : (He.Fa.int x i).ok K = true) : ∃ u, mg x = some u ∧ RelV (.int i) u := by
  obtain ⟨t, e⟩ := He.int_ok X G c
  exact ⟨_, e, ⟨t, rfl⟩⟩
theorem gstr_of (X : K.In h) (G : h.Ns mainGlobals mg) {x z : Str} (c : (He.Fa.str x z).ok K = true) : ∃ u, mg x = some u ∧ RelV (.str z) u := by
  obtain ⟨t, e⟩ := He.str_ok X G c
  exact ⟨_, e, ⟨t, rfl⟩⟩
end
/-- a module's constant -/
theorem pe_k {X : Cx} {x : Str} {v : V} {pos : Pos} (h : ∃ u, X.mg x = some u ∧ RelV v u) (hg : Gl X x := by rfl) (hdb : (x == ("__debug__" : Str)) = false := by decide) : PE X (.Name x pos) (tC v) := by
  obtain ⟨u, e, r⟩ := h
  exact pe_glob hg e r hdb
end L3
set_option Elab.async false
set_option linter.all false
set_option maxRecDepth 100000
set_option maxHeartbeats 4000000
namespace L3
open PySem PySem.Spec PyProof.Rows L2
abbrev Ex (H H' : Hp) : Prop := Same H H'
theorem ex_new {H : Hp} {p : Addr} {o : HO} (h : H p = none) : Ex H (upd H p o) := fun a u e => by
  rw [upd_ne (ne_of_none e h)]
  exact e
/-- an object that H does not know may change -/
theorem ex_mut {H H' : Hp} {p : Addr} {o : HO} (e : Ex H H') (h : H p = none) : Ex H (upd H' p o) := fun a u ha => by
  rw [upd_ne (ne_of_none ha h)]
  exact e a u ha
theorem ex_sql {K : PySem.W.Frag} {H H' : Hp} {a : Addr} {xs : List V} (e : Ex H H') (h : SqL K H a xs) : SqL K H' a xs := Same.seq e h
theorem ex_sqt {K : PySem.W.Frag} {H H' : Hp} {a : Addr} {xs : List V} (e : Ex H H') (h : SqT K H a xs) : SqT K H' a xs := by
  rcases h with (h | ⟨o, h⟩) | h
  · exact .inl (.inl (e _ _ h))
  · exact .inl (.inr ⟨o, e _ _ h⟩)
  · exact .inr h
theorem ex_fresh {H H' : Hp} {p : Addr} (e : Ex H H') (h : H' p = none) : H p = none := Same.free e h
theorem sq_lst {K : PySem.W.Frag} {H : Hp} {a : Addr} {xs : List V} (h : H a = some (.lst xs)) : SqL K H a xs := .inl (.inl h)
theorem sq_tup {K : PySem.W.Frag} {H : Hp} {a : Addr} {xs : List V} (h : H a = some (.tup xs)) : SqT K H a xs := .inl (.inl h)
/-- a value of a known type -/
def isW : V → Bool
  | .int _ => true
  | _ => false
def isM : V → Bool
  | .int i => decide (0 ≤ i)
  | _ => false
def Cl (K : PySem.W.Frag) (H : Hp) (x : V) : Prop := ∃ t b c, TyX K H x t ∧ PySem.W.kitOne K t (.type "int") = some b ∧ PySem.W.kitOne K t (.type "bool") = some c ∧ isW x = (b && !c)
section
variable {K : PySem.W.Frag} {H : Hp}
theorem cl_int (i : Int) : Cl K H (.int i) := ⟨_, true, false, .base (.int i), kit_ty (by decide +kernel), kit_ty (by decide +kernel), rfl⟩
theorem cl_bl (b : Bool) : Cl K H (.bl b) := ⟨_, true, true, .base (.bl b), kit_ty (by decide +kernel), kit_ty (by decide +kernel), rfl⟩
theorem cl_non : Cl K H .non := ⟨_, false, false, .base .non, kit_ty (by decide +kernel), kit_ty (by decide +kernel), rfl⟩
theorem cl_str (z : Str) : Cl K H (.str z) := ⟨_, false, false, .base (.str z), kit_ty (by decide +kernel), kit_ty (by decide +kernel), rfl⟩
theorem kit_list : PySem.W.kitOne K (.type "list") (.type "int") = some false ∧ PySem.W.kitOne K (.type "list") (.type "bool") = some false := ⟨kit_ty (by decide +kernel), kit_ty (by decide +kernel)⟩
theorem kit_tuple : PySem.W.kitOne K (.type "tuple") (.type "int") = some false ∧ PySem.W.kitOne K (.type "tuple") (.type "bool") = some false := ⟨kit_ty (by decide +kernel), kit_ty (by decide +kernel)⟩
theorem kit_dict : PySem.W.kitOne K (.type "dict") (.type "int") = some false ∧ PySem.W.kitOne K (.type "dict") (.type "bool") = some false := ⟨kit_ty (by decide +kernel), kit_ty (by decide +kernel)⟩
theorem cl_lst {a : Addr} {xs : List V} (e : H a = some (.lst xs)) : Cl K H (.ref a) := ⟨_, false, false, .base (.lst e), kit_list.1, kit_list.2, rfl⟩
theorem cl_tup {a : Addr} {xs : List V} (e : H a = some (.tup xs)) : Cl K H (.ref a) := ⟨_, false, false, .base (.tup e), kit_tuple.1, kit_tuple.2, rfl⟩
theorem cl_dK {a : Addr} {kvs : List (Key × V)} (e : H a = some (.dK kvs)) : Cl K H (.ref a) := ⟨_, false, false, .base (.dK e), kit_dict.1, kit_dict.2, rfl⟩
end
theorem isM_w {x : V} (h : isM x = true) : ∃ i, x = .int i ∧ 0 ≤ i := by
  cases x with
  | int i => exact ⟨i, rfl, of_decide_eq_true h⟩
  | _ => cases h
/-- given values and defaults in the parameters' order -/
def pick {α : Type} (ix : List (Sum Nat Nat)) (us its : List α) : List α := ix.filterMap fun j => match j with
  | .inl i => us[i]?
  | .inr i => its[i]?
theorem pick_vals {vs ds : List V} {us its : List Value} (ix : List (Sum Nat Nat)) (r1 : Vals vs us) (r2 : Vals ds its) : Vals (pick ix vs ds) (pick ix us its) := by
  have one : ∀ {vs : List V} {us : List Value} (i : Nat), Vals vs us → (∃ v u, vs[i]? = some v ∧ us[i]? = some u ∧ RelV v u) ∨ (vs[i]? = none ∧ us[i]? = none) := fun {vs us} i r => by
    cases e : vs[i]? with
    | none => exact .inr ⟨rfl, r.none_of e⟩
    | some v =>
      obtain ⟨u, h1, h2⟩ := r.get e
      exact .inl ⟨v, u, rfl, h1, h2⟩
  induction ix with
  | nil => exact .nil
  | cons j ix ih =>
    unfold pick at ih ⊢
    cases j with
    | inl i =>
      rcases one i r1 with ⟨v, u, h1, h2, h3⟩ | ⟨h1, h2⟩
      · simp only [List.filterMap_cons, h1, h2]
        exact .cons h3 ih
      · simp only [List.filterMap_cons, h1, h2]
        exact ih
    | inr i =>
      rcases one i r2 with ⟨v, u, h1, h2, h3⟩ | ⟨h1, h2⟩
      · simp only [List.filterMap_cons, h1, h2]
        exact .cons h3 ih
      · simp only [List.filterMap_cons, h1, h2]
        exact ih
end L3
namespace L3
open PySem PySem.Spec PyProof.Rows L2
theorem log_of {n : Nat} (h : n < 10 ^ 200) : n.log2 < 1920 := PySem.Flt.log2_lt_of (by decide) (Nat.lt_trans h (by decide +kernel))
/-- data that repr shows, without dicts: whole numbers of at most 500 figures, texts of any signs -/
def okI (i : Int) : Bool := decide (i.natAbs < 10 ^ 200)
def okT (x : Str) : Bool := x.cps.toList.all fun c => decide (c < 16 ^ 8)
mutual
def okD : PyData → Bool
  | .none => true
  | .bool _ => true
  | .int i => okI i
  | .str x => okT x
  | .list xs => okL xs
  | .tuple xs => okL xs
  | .dict _ => false
def okL : List PyData → Bool
  | [] => true
  | x :: xs => okD x && okL xs
end
mutual
def szD : PyData → Nat
  | .none => 4
  | .bool _ => 5
  | .int _ => 1921
  | .str x => 10 * x.length + 2
  | .list xs => szL xs + 3
  | .tuple xs => szL xs + 3
  | .dict _ => 0
def szL : List PyData → Nat
  | [] => 0
  | x :: xs => szD x + 2 + szL xs
end
mutual
theorem okD_tells : ∀ d : PyData, okD d = true → d.hasDict = false ∧ d.showable = true ∧ d.shown.length ≤ szD d
  | .none, _ => ⟨rfl, rfl, Nat.le_refl _⟩
  | .bool b, _ => ⟨rfl, rfl, by cases b <;> decide⟩
  | .int i, h => by
    have h1 : i.natAbs < 10 ^ 200 := of_decide_eq_true (show decide (i.natAbs < 10 ^ 200) = true from h)
    exact ⟨rfl, decide_eq_true (log_of h1), int_text_len_1921 (log_of h1)⟩
  | .str x, h => by
    have h1 : ∀ c ∈ x.cps.toList, c < 16 ^ 8 := fun c hc => of_decide_eq_true (List.all_eq_true.mp h c hc)
    exact ⟨rfl, rfl, StrLaws.reprText_len x h1⟩
  | .list xs, h => by
    obtain ⟨h1, h2, h3⟩ := okL_tells xs h
    refine ⟨h1, h2, Nat.le_trans (listText_len_le (PyData.shownAll xs)) ?_⟩
    have e := PyData.shownAll_length xs
    show _ ≤ szL xs + 3
    omega
  | .tuple xs, h => by
    obtain ⟨h1, h2, h3⟩ := okL_tells xs h
    refine ⟨h1, h2, Nat.le_trans (tupleText_len_le (PyData.shownAll xs)) ?_⟩
    have e := PyData.shownAll_length xs
    show _ ≤ szL xs + 3
    omega
  | .dict _, h => by cases h
theorem okL_tells : ∀ xs : List PyData, okL xs = true → PyData.hasDictAll xs = false ∧ PyData.showableAll xs = true ∧ ((PyData.shownAll xs).map (·.length)).sum + 2 * xs.length ≤ szL xs
  | [], _ => ⟨rfl, rfl, Nat.le_refl _⟩
  | x :: xs, h => by
    obtain ⟨g1, g2⟩ := He.ba (show (okD x && okL xs) = true from h)
    obtain ⟨h1, h2, h3⟩ := okD_tells x g1
    obtain ⟨k1, k2, k3⟩ := okL_tells xs g2
    refine ⟨?_, ?_, ?_⟩
    · show (x.hasDict || PyData.hasDictAll xs) = false
      rw [h1, k1]
      rfl
    · show (x.showable && PyData.showableAll xs) = true
      rw [h2, k2]
      rfl
    · show (x.shown.length + ((PyData.shownAll xs).map (·.length)).sum) + 2 * (xs.length + 1) ≤ szD x + 2 + szL xs
      omega
end
/-- repr of a list, a tuple -/
theorem rr_data {K : PySem.W.Frag} {H : Hp} {a : Addr} {d : PyData} {Q : VK} (h : Dp K H (.ref a) d) (ho : okD d = true) (hz : szD d ≤ 16000000) (hd : d.depth ≤ 60) (q : Q (.str d.shown) H) : rRepr K [.ref a] H Q := by
  obtain ⟨h1, h2, h3⟩ := okD_tells d ho
  unfold rRepr
  exact ⟨a, d, rfl, h, h1, h2, hd, Nat.le_trans h3 (Nat.le_trans hz (by rw [sizeLine_eq]; decide)), q⟩
end L3
namespace L3
open PySem PySem.Spec PyProof.Rows L2
section
variable {K : PySem.W.Frag} {a : Addr} {xs : List V} {g : TG} {tt : TT} {te : TE} {vs : List Nat} {σ : L2.St} {H1 : Hp} {D : Addr} {Qd : Hp → Prop}
theorem small_len {n : Nat} (h : n ≤ 100000) : n < sizeLine := Nat.lt_of_le_of_lt h (by rw [sizeLine_eq]; decide)
abbrev Turn (g : TG) (tt : TT) (te : TE) (vs : List Nat) (σ : L2.St) (D : Addr) (x : V) (H : Hp) (N : Hp → Prop) : Prop :=
  g x (wipe σ vs) H fun σ2 H2 => wipe σ2 vs = wipe σ vs ∧ tt σ2 H2 fun b H3 => if b = true then te σ2 H3 fun y H4 => ∃ acc, H4 D = some (.lst acc) ∧ acc.length < sizeLine ∧ N (upd H4 D (.lst (acc ++ [y]))) else N H3
end
end L3
namespace L3
open PySem PySem.Spec PyProof.Rows L2
end L3
set_option Elab.async false
set_option linter.all false
set_option maxRecDepth 100000
set_option maxHeartbeats 4000000
namespace L3
open PySem PySem.Spec PyProof.Rows L2 TL
section
variable {J : It} {n : Nat} {G : Hp → Prop} {Y : Nat → Hp → V → Hp → Prop} {g : TG} {tt : TT} {te : TE} {vs : List Nat} {σ : L2.St} {H1 : Hp} {D : Addr} {Qd : Hp → Prop}
theorem range_fm_succ (fm : Nat → Option V) (i : Nat) : (List.range (i + 1)).filterMap fm = match fm i with
    | some y => (List.range i).filterMap fm ++ [y]
    | none => (List.range i).filterMap fm := by
  rw [List.range_succ, List.filterMap_append]
  cases e : fm i with
  | none => simp [e]
  | some y => simp [e]
theorem fm_len (fm : Nat → Option V) (i : Nat) : ((List.range i).filterMap fm).length ≤ i := by
  have := List.length_filterMap_le fm (List.range i)
  rwa [List.length_range] at this
theorem lc_fm (w : L2.Walk J n G Y) (fm : Nat → Option V) (I : Hp → Prop) (hI : ∀ H l, I H → I (upd H D (.lst l))) (i0 : I H1) (hn : n ≤ 100000) (hG : ∀ H, I H → G H)
    (hs : ∀ (i : Nat) (x : V) (H H' : Hp) (acc : List V) (N : Hp → Prop), i < n → I H → H D = some (.lst acc) → acc.length < sizeLine → Y i H x H' →
      (∀ H4, I H4 → H4 D = some (.lst acc) → match fm i with | some y => N (upd H4 D (.lst (acc ++ [y]))) | none => N H4) → Turn g tt te vs σ D x H' N)
    (hd : ∀ H, I H → H D = some (.lst ((List.range n).filterMap fm)) → Qd H) :
    ∃ W : Nat → Nat → Hp → Prop, (∃ m, W 0 m (upd H1 D (.lst []))) ∧ ∀ i m H, W i m H →
      (J.stop i H ∧ Qd H) ∨ (J.go i H ∧ ∃ Nx : Hp → Prop, (∀ H', Nx H' → ∃ m', m' < m ∧ W (i + 1) m' H') ∧ ∀ x H', J.yld i H x H' → Turn g tt te vs σ D x H' Nx) := by
  refine L2.lc_it w (fun i H => I H ∧ i ≤ n ∧ H D = some (.lst ((List.range i).filterMap fm))) ⟨hI _ _ i0, Nat.zero_le _, upd_same⟩ (fun i H _ p => hG H p.1) ?_ (fun H p => hd H p.1 p.2.2)
  rintro i x H H' hi ⟨p1, p2, p3⟩ y
  refine hs i x H H' _ _ hi p1 p3 (small_len (Nat.le_trans (fm_len fm i) (by omega))) y fun H4 i4 d4 => ?_
  have e := range_fm_succ fm i
  cases q : fm i with
  | none =>
    rw [q] at e
    exact ⟨i4, hi, by rw [e]; exact d4⟩
  | some y =>
    rw [q] at e
    exact ⟨hI _ _ i4, hi, by rw [upd_same, e]⟩
end
theorem range_map_get {α β : Type} (l : List α) (d : α) (f : α → β) : (List.range l.length).filterMap (fun i => some (f (l.getD i d))) = l.map f := by
  apply List.ext_getElem?
  intro i
  rw [List.filterMap_eq_map' (f := fun i => f (l.getD i d))]
  rw [List.getElem?_map, List.getElem?_map]
  by_cases h : i < l.length
  · rw [List.getElem?_range h, List.getElem?_eq_getElem h]
    simp [List.getD_eq_getElem?_getD, h]
  · rw [List.getElem?_eq_none (by simpa using h), List.getElem?_eq_none (by simpa using h)]
    rfl
end L3
set_option Elab.async false
set_option linter.all false
set_option maxRecDepth 100000
set_option maxHeartbeats 4000000
namespace Mo
open PySem TL
def val (l : List Nat) : Nat := NumText.digitsVal l
def two (m : Nat) : List Nat := [48 + m / 10, 48 + m % 10]
def clk (m : Nat) : List Nat := numL (m % 1440 / 60) ++ 58 :: two (m % 60)
def shw (m : Nat) : List Nat := if m / 1440 = 0 then clk m else numL (m / 1440) ++ 32 :: clk m
theorem shw_len {m k : Nat} (hk : 0 < k) (h : m < 10 ^ k) : (shw m).length ≤ k + 8 := by
  have h1 : (numL (m % 1440 / 60)).length ≤ 2 := numL_len (by decide) (by omega)
  have h2 : (numL (m / 1440)).length ≤ k := numL_len hk (Nat.lt_of_le_of_lt (Nat.div_le_self _ _) h)
  unfold shw clk two
  split <;> simp <;> omega
end Mo
set_option Elab.async false
set_option linter.all false
set_option maxRecDepth 100000
set_option maxHeartbeats 4000000
namespace L3
open PySem PySem.Spec PyProof.Rows L2
def excCB (x : Str) : Fx := fun K => He.eqO (PySem.W.findIn K (.ref (He.ga K x)) "__getattribute__") (some (some (.builtin "BaseException.__getattribute__"))) && (He.eqO (PySem.W.findIn K (.ref (He.ga K x)) "__getattr__") (some none) && (decide (PySem.W.subIn K (.ref (He.ga K x)) (.type "BaseException") = some true) && (PySem.W.hasDictIn K (He.ga K x) &&
  (He.eqO (PySem.W.findIn K (.ref (He.ga K x)) "__class__") (some (some (.builtin "object.__class__"))) && (He.eqO (PySem.W.specialIn K (.builtin "object.__class__") "__get__") (some (some (.builtin "getset_descriptor.__get__"))) && (decide (PySem.W.takesIn K (.builtin "object.__class__") = some true) && decide (PySem.W.mroIn K (He.ga K x) (.type "object") = some true)))))))
theorem excC_of {x : Str} {K : PySem.W.Frag} (h : excCB x K = true) : ExcC K (He.ga K x) := by
  obtain ⟨h1, h⟩ := He.ba h
  obtain ⟨h2, h⟩ := He.ba h
  obtain ⟨h3, h⟩ := He.ba h
  obtain ⟨h4, h⟩ := He.ba h
  obtain ⟨h5, h⟩ := He.ba h
  obtain ⟨h6, h⟩ := He.ba h
  obtain ⟨h7, h8⟩ := He.ba h
  exact ⟨He.eqO_ok h1, He.eqO_ok h2, of_decide_eq_true h3, h4, He.eqO_ok h5, He.eqO_ok h6, of_decide_eq_true h7, of_decide_eq_true h8⟩
def kitF (x y : Str) (b : Bool) : Fx := fun K => decide (PySem.W.kitOne K (.ref (He.ga K x)) (.ref (He.ga K y)) = some b)
def kitFT (x : Str) (y : String) (b : Bool) : Fx := fun K => decide (PySem.W.kitOne K (.ref (He.ga K x)) (.type y) = some b)
def exm3F (x : Str) (ys : List Str) : Fx := fun K => decide (PySem.W.exmAny K (.ref (He.ga K x)) (ys.map fun y => .ref (He.ga K y)) = some true)
end L3
set_option Elab.async false
set_option linter.all false
set_option maxRecDepth 100000
set_option maxHeartbeats 4000000
namespace L3
open PySem PySem.Spec PyProof.Rows L2
def keyD : Key → PyData
  | .inl i => .int i
  | .inr x => .str x
def zipK : List (Key × V) → List PyData → List (PyData × PyData)
  | (k, _) :: r, d :: ds => (keyD k, d) :: zipK r ds
  | _, _ => []
inductive Dq (K : PySem.W.Frag) (H : Hp) : V → PyData → Prop
  | non : Dq K H .non .none
  | bl (b : Bool) : Dq K H (.bl b) (.bool b)
  | int (i : Int) : Dq K H (.int i) (.int i)
  | str (x : Str) : Dq K H (.str x) (.str x)
  | lst {a : Addr} {xs : List V} {ds : List PyData} : SqL K H a xs → xs.length = ds.length → (∀ (i : Nat) (x : V) (d : PyData), xs[i]? = some x → ds[i]? = some d → Dq K H x d) → Dq K H (.ref a) (.list ds)
  | tup {a : Addr} {xs : List V} {ds : List PyData} : SqT K H a xs → xs.length = ds.length → (∀ (i : Nat) (x : V) (d : PyData), xs[i]? = some x → ds[i]? = some d → Dq K H x d) → Dq K H (.ref a) (.tuple ds)
  | dct {a : Addr} {kvs : List (Key × V)} {ds : List PyData} : H a = some (.dK kvs) → kvs.length = ds.length → (∀ (i : Nat) (k : Key) (x : V) (d : PyData), kvs[i]? = some (k, x) → ds[i]? = some d → Dq K H x d) → Dq K H (.ref a) (.dict (zipK kvs ds))
theorem Dq.mono {K : PySem.W.Frag} {H H' : Hp} {x : V} {d : PyData} (e : Ex H H') (h : Dq K H x d) : Dq K H' x d := by
  induction h with
  | non => exact .non
  | bl b => exact .bl b
  | int i => exact .int i
  | str x => exact .str x
  | lst s l _ ih => exact .lst (ex_sql e s) l ih
  | tup s l _ ih => exact .tup (ex_sqt e s) l ih
  | dct s l _ ih => exact .dct (e _ _ s) l ih
theorem all_reads {h : Heap} : ∀ (xs : List V) (ds : List PyData) (us : List Value), xs.length = ds.length → Vals xs us → (∀ (i : Nat) (x : V) (d : PyData), xs[i]? = some x → ds[i]? = some d → ∀ u, RelV x u → ∃ as, Reads h u d as ∧ sysModules ∉ as) → ∃ as, ReadsAll h us ds as ∧ sysModules ∉ as
  | [], [], _, _, r, _ => by
    cases r
    exact ⟨_, .nil, by simp⟩
  | x :: xs, d :: ds, _, l, r, h => by
    cases r with
    | cons r1 r2 =>
      obtain ⟨as, q1, n1⟩ := h 0 x d rfl rfl _ r1
      obtain ⟨bs, q2, n2⟩ := all_reads xs ds _ (by simpa using l) r2 fun i y e h1 h2 => h (i + 1) y e (by simpa using h1) (by simpa using h2)
      refine ⟨_, .cons q1 q2, fun z => ?_⟩
      rcases List.mem_append.mp z with z | z
      · exact n1 z
      · exact n2 z
theorem key_reads {h : Heap} {k : Key} {v : Value} (e : keyIs k v = true) : Reads h v (keyD k) [] := by
  rcases keyIs_shape e with ⟨i, t, rfl, rfl⟩ | ⟨x, t, rfl, rfl⟩
  · exact .int i t
  · exact .str x t
theorem kv_reads {P : Program} {w : World} {h : Heap} : ∀ (kvs : List (Key × V)) (ds : List PyData) (es : List DictEntry) (vs : List (Key × Value)), kvs.length = ds.length → KV kvs vs → Pairs (mixKind P w) es vs →
    (∀ (i : Nat) (k : Key) (x : V) (d : PyData), kvs[i]? = some (k, x) → ds[i]? = some d → ∀ u, RelV x u → ∃ as, Reads h u d as ∧ sysModules ∉ as) →
    ReadsAll h (es.map (·.key)) ((zipK kvs ds).map (·.1)) [] ∧ ∃ bs, ReadsAll h (es.map (·.val)) ((zipK kvs ds).map (·.2)) bs ∧ sysModules ∉ bs
  | [], [], es, vs, _, r, p, _ => by
    cases r
    cases p
    exact ⟨.nil, _, .nil, by simp⟩
  | (k, x) :: kvs, d :: ds, es, vs, l, r, p, h => by
    cases r with
    | cons r1 r2 =>
      cases p with
      | cons p1 p2 p3 =>
        obtain ⟨as, q1, n1⟩ := h 0 k x d rfl rfl _ r1.2
        obtain ⟨h1, bs, q2, n2⟩ := kv_reads kvs ds _ _ (by simpa using l) r2 p3 fun i k' y e h1 h2 => h (i + 1) k' y e (by simpa using h1) (by simpa using h2)
        refine ⟨ReadsAll.cons (as := []) (bs := []) (key_reads (by have e : k = _ := r1.1; subst e; exact p1)) h1, as ++ bs, ReadsAll.cons (by rw [← p2] at q1; exact q1) q2, fun z => ?_⟩
        rcases List.mem_append.mp z with z | z
        · exact n1 z
        · exact n2 z
/-- the part that is written holds sys.modules: a dict -/
def SysK (K : PySem.W.Frag) : Prop := ∃ o, K.lookup sysModules = some o ∧ o.cls = .type "dict"
def sysB : Fx := fun K => match K.lookup sysModules with
  | some o => match o.cls with
    | .type n => n == "dict"
    | _ => false
  | none => false
theorem sys_of {K : PySem.W.Frag} (h : sysB K = true) : SysK K := by
  unfold sysB at h
  split at h
  · rename_i o e
    split at h
    · rename_i n c
      have : n = "dict" := by simpa using h
      exact ⟨o, e, by rw [c, this]⟩
    · cases h
  · cases h
theorem Dq.reads {X : Cx} {pins : List (Addr × Obj)} {σ : L2.St} {H : Hp} {s : Shared} (I : Inv X pins σ H s) (S : SysK X.K) {x : V} {d : PyData} (h : Dq X.K H x d) : ∀ u, RelV x u → ∃ as, Reads s.heap u d as ∧ sysModules ∉ as := by
  obtain ⟨o1, k1, c1⟩ := S
  have g1 := I.kIn _ _ k1
  induction h with
  | non =>
    intro u r
    cases r
    exact ⟨_, .none, by simp⟩
  | bl b =>
    intro u r
    cases r
    exact ⟨_, .bool b, by simp⟩
  | int i =>
    rintro u ⟨t, rfl⟩
    exact ⟨_, .int i t, by simp⟩
  | str x =>
    rintro u ⟨t, rfl⟩
    exact ⟨_, .str x t, by simp⟩
  | @lst a xs ds hs l _ ih =>
    intro u r
    cases r
    obtain ⟨its, rv, ⟨o, n, ho, hc, _, hd⟩, _⟩ := I.list hs
    obtain ⟨as, hr, hn⟩ := all_reads xs ds its l rv ih
    refine ⟨_, .list ho hc hd hr, fun z => ?_⟩
    rcases List.mem_cons.mp z with z | z
    · rw [← z, g1] at ho
      cases ho
      rw [c1] at hc
      injection hc with z2
      exact absurd z2 (by decide)
    · exact hn z
  | @tup a xs ds hs l _ ih =>
    intro u r
    cases r
    obtain ⟨its, rv, ⟨o, ho, hc, n, hd⟩, _⟩ := I.tuple hs
    obtain ⟨as, hr, hn⟩ := all_reads xs ds its l rv ih
    exact ⟨_, .tuple ho hc hd hr, hn⟩
  | @dct a kvs ds hs l _ ih =>
    intro u r
    cases r
    obtain ⟨_, ns, vs, rk, o, es, ep, ho, ⟨hc, _, _⟩, hd, _, hp, _⟩ := dk_of I.hok hs
    obtain ⟨h1, bs, h2, hn⟩ := kv_reads kvs ds es.toList vs l rk hp ih
    refine ⟨_, .dict ho hc hd h1 h2, fun z => ?_⟩
    rcases List.mem_cons.mp z with z | z
    · rw [← z] at ns
      simp at ns
    · exact hn (by simpa using z)
end L3
set_option Elab.async false
set_option linter.all false
set_option maxRecDepth 100000
set_option maxHeartbeats 4000000
namespace L3
open PySem PySem.Spec PyProof.Rows L2
theorem Rm.in1 {k : Nat} {A : Around} (r : Rm (k + 1) A) : Rm k A.in1 := ⟨r.rm.in1, r.gd⟩
section
variable {X : Cx} {k : Nat} {f C : Addr} {ks : List Str} {sp : Sp} {W : WX} {x m : Str} {p pos apos : Pos} {e o : Expr} {es : List Expr} {kws : List Keyword} {ta : TE} {t tk : TA}
/-- a def that runs somewhere below the body -/
theorem run_fcA {A : Around} {pins : List (Addr × Obj)} {σ : L2.St} {H : Hp} {s : Shared} {Q : VK} {us ws : List Value} {vs : List V} (F : Fc X.prog X.w X.K X.mg X.base k f ks sp) (hr : Rm k A) (hf : A.frames = X.A.frames) (hx : Takes X W)
    (I : Inv X pins σ H s) (r : Vals vs (us ++ ws)) (hl : ws.length = ks.length) (h : sp vs H Q (WE W σ)) : wpAny (model X.prog X.w) A (call (.ref f) us (ks.zip ws)) (EP X pins σ Q) X.xe s := by
  have e0 : Env0 X.prog X.w X.K X.mg X.base A X.stack s H := by
    have e := I.env0
    exact ⟨by rw [hf]; exact e.frames, e.mod, e.bs, e.bsz, e.funs, e.frf, e.hok, e.bare⟩
  refine wpAny_call (codeAny_mono (F A X.stack s H us ws vs Q (WE W σ) hr e0 r hl h) fun r s' hq => ?_)
  cases r with
  | error e => exact passAt hx σ pins H s e s' I hq
  | ok fl =>
    cases fl with
    | ret u => exact I.after hq
    | next => exact False.elim hq
    | brk => exact False.elim hq
    | cont => exact False.elim hq
theorem run_mk {pins : List (Addr × Obj)} {σ : L2.St} {H : Hp} {s : Shared} {Q : VK} {us ws : List Value} {vs : List V} (M : Mk X.K C f) (F : Fc X.prog X.w X.K X.mg X.base k f ks sp) (hr : Rm (k + 1) X.A) (hx : Takes X W)
    (I : Inv X pins σ H s) (r : Vals vs (us ++ ws)) (hl : ws.length = ks.length)
    (h : ∀ x dx, H x = none → H dx = none → dx ≠ x → sp (.ref x :: vs) (upd (upd H dx (.own x)) x (.ins C dx [])) (fun v H2 => v = .non ∧ Q (.ref x) H2) (WE W σ)) :
    wpAny (model X.prog X.w) X.A (call (.ref C) us (ks.zip ws)) (EP X pins σ Q) X.xe s := by
  have hq := h (s.heap.objs.size + 1) s.heap.objs.size (I.hok.fresh (Nat.le_succ _)) (I.hok.fresh (Nat.le_refl _)) (Nat.ne_of_lt (Nat.lt_succ_self _))
  have I2 := Inv.made (C := C) I
  refine wpAny_call (make_map (f := f) I.kIn M.makes M.init (beq_iff_eq.mp M.fn) (codeAny_mono (F _ X.stack _ _ (Value.ref (s.heap.objs.size + 1) :: us) ws (V.ref (s.heap.objs.size + 1) :: vs) _ (WE W σ) (hr.make C us (ks.zip ws))
    (I2.env0.make C us (ks.zip ws)) (.cons rfl r) hl hq) fun r s' hq' => ?_))
  cases r with
  | error e => exact passAt hx σ pins _ _ e s' I2 hq'
  | ok fl =>
    cases fl with
    | ret u =>
      obtain ⟨v, H', I3, rv, ev, q3⟩ := I2.after hq'
      subst ev
      exact ⟨rv, ⟨V.ref (s.heap.objs.size + 1), H', I3, rfl, q3⟩⟩
    | next => exact False.elim hq'
    | brk => exact False.elim hq'
    | cont => exact False.elim hq'
def tMk (C : Addr) (sp : Sp) (W : WX) (t : TA) : TE := fun σ H Q => t σ H fun vs H1 => ∀ x dx, H1 x = none → H1 dx = none → dx ≠ x →
  sp (.ref x :: vs) (upd (upd H1 dx (.own x)) x (.ins C dx [])) (fun v H2 => v = .non ∧ Q (.ref x) H2) (WE W σ)
theorem c_make (M : Mk X.K C f) (F : Fc X.prog X.w X.K X.mg X.base k f [] sp) (hr : Rm (k + 1) X.A) (hm : X.mg x = some (.ref C)) (hx : Takes X W)
    (ha : PA X (e :: es) t) (hg : Gl X x := by rfl) (hdb : (x == ("__debug__" : Str)) = false := by decide) (he : starEach (e :: es) X.env = (false, eval e X.env) :: starEach es X.env := by rfl) (hpl : (backTo pos (starEach es X.env)).any (·.1) = false := by rfl) :
    PE X (.Call (.Name x p) (e :: es) [] pos) (tMk C sp W t) := by
  refine ⟨fun pins s σ H Q I h => ?_⟩
  refine wpAny_Call_Name_kw (ld_glob I hg hm ?_ hdb)
  refine PySem.W.callWith_K (h₀ := X.base) I.ok.mod.kin M.kp (thn (ha.run pos pins s σ H _ I h) fun us s1 ⟨vs, H1, I1, r, q⟩ => ⟨I1.kIn, ?_⟩) he hpl
  exact run_mk (ws := []) M F hr hx I1 (by rw [List.append_nil]; exact r) rfl q
def tMkK0 (C : Addr) (ks : List Str) (sp : Sp) (W : WX) (tk : TA) : TE := fun σ H Q => tk σ H fun zs H2 => zs.length = ks.length ∧ ∀ x dx, H2 x = none → H2 dx = none → dx ≠ x →
  sp (.ref x :: zs) (upd (upd H2 dx (.own x)) x (.ins C dx [])) (fun v H3 => v = .non ∧ Q (.ref x) H3) (WE W σ)
theorem c_makeK0 (M : Mk X.K C f) (F : Fc X.prog X.w X.K X.mg X.base k f ks sp) (hr : Rm (k + 1) X.A) (hm : X.mg x = some (.ref C)) (hx : Takes X W)
    (hkw : PK X kws tk) (hg : Gl X x := by rfl) (hall : (backToKw pos (keywordEach kws X.env)).all (·.1.isSome) = true := by rfl) (hks : (backToKw pos (keywordEach kws X.env)).filterMap (·.1) = ks := by rfl)
    (hdb : (x == ("__debug__" : Str)) = false := by decide)
    (hpl : ((backTo pos (starEach [] X.env)).any (·.1) || (backToKw pos (keywordEach kws X.env)).any (·.1.isNone)) = false := by rfl) :
    PE X (.Call (.Name x p) [] kws pos) (tMkK0 C ks sp W tk) := by
  refine ⟨fun pins s σ H Q I h => ?_⟩
  refine wpAny_Call_Name_kw (ld_glob I hg hm ?_ hdb)
  refine PySem.W.callWith_KW0 (h₀ := X.base) I.ok.mod.kin M.kp hall ?_ hpl
  refine thn (hkw.run pos pins s σ H _ I h) fun ws s2 ⟨zs, H2, I2, rz, l2, q2⟩ => ⟨I2.kIn, ?_⟩
  rw [hks]
  exact run_mk (us := []) M F hr hx I2 rz (rz.length.symm.trans l2) q2
/-- xs is one instance of C; the promise of its method, at it -/
def rOwn (C : Addr) (sp : Sp) (G : V → Prop) : List V → Hp → VK → Prop := fun xs H Q => ∃ a dx fs, xs = [.ref a] ∧ H a = some (.ins C dx fs) ∧ sp [.ref a] H (fun v H' => G v ∧ Q v H') (fun _ _ _ => False)
def isTxt : V → Prop
  | .str _ => True
  | _ => False
end
section
variable {X : Cx} {k : Nat} {f C : Addr} {sp : Sp}
theorem call_reprO (hm : Meth X.K C "__repr__" f) (F : Fc X.prog X.w X.K X.mg X.base k f [] sp) (hr : Rm (k + 1) X.A) :
    CallR X (.builtin "repr") (rOwn C sp isTxt) := by
  intro pins s σ H xs us Q I r h
  obtain ⟨a, dx, fs, rfl, ha, hsp⟩ := h
  obtain ⟨u, rfl, ru⟩ := vals1 r
  obtain rfl : u = Value.ref a := ru
  obtain ⟨mA, J, _⟩ := ins_get I.hok ha
  obtain ⟨od, J, _⟩ := J.look
  refine Calls.call_function_entry PySem.F.kind_repr PySem.F.plain_repr PySem.F.entry_repr (PySem.F.args_repr1 _) ?_
  unfold Builtin.«repr»
  refine wpAny_bind (m := oneArg "repr" _) (wpAny_pure ?_)
  refine wpAny_bind (wpAny_cRoomFor (by have := hr.in1.rm.un; omega) ?_)
  refine wpAny_bind (wpAny_bind (J.type.here ((PySem.W.looks_findIn I.kIn hm.at_).here ?_)))
  show wpAny _ _ (if (some (Value.ref f)).isNone = true then _ else _) _ _ _
  rw [if_neg (by simp)]
  have run := run_fcA (A := X.A.in1) (W := fun _ _ _ _ => False) (us := [.ref a]) (ws := []) (vs := [.ref a]) (σ := σ) F hr.in1 rfl takes0 I (.cons rfl .nil) rfl hsp
  refine wpAny_bind (m := callSpecialIfBound? (.ref a) (Str.ofString "__repr__") _) (PySem.W.ifBound_K I.kIn J hm.at_ hm.fn (wpAny_mono run (fun v s' hv => ?_) fun _ _ y => y))
  obtain ⟨z, H', I', rz, gz, q⟩ := hv
  cases z with
  | str y =>
    obtain ⟨t, rfl⟩ := rz
    refine wpAny_bind (wpAny_isInstance (typeIs_str _ _ _) isSubtype_str_str ?_)
    first
      | exact wpAny_pure ⟨_, rfl, ⟨.str y, H', I', ⟨t, rfl⟩, q⟩⟩
      | (rw [if_pos rfl]; exact wpAny_pure ⟨_, rfl, ⟨.str y, H', I', ⟨t, rfl⟩, q⟩⟩)
      | (simp only [if_true]; exact wpAny_pure ⟨_, rfl, ⟨.str y, H', I', ⟨t, rfl⟩, q⟩⟩)
  | _ => exact gz.elim
theorem call_strO (hm : Meth X.K C "__str__" f) (F : Fc X.prog X.w X.K X.mg X.base k f [] sp) (hr : Rm (k + 2) X.A) :
    CallR X (.type "str") (rOwn C sp isTxt) := by
  intro pins s σ H xs us Q I r h
  obtain ⟨a, dx, fs, rfl, ha, hsp⟩ := h
  obtain ⟨u, rfl, ru⟩ := vals1 r
  obtain rfl : u = Value.ref a := ru
  obtain ⟨mA, J, _⟩ := ins_get I.hok ha
  obtain ⟨od, J, _⟩ := J.look
  have run := run_fcA (A := X.A.in1.in1) (W := fun _ _ _ _ => False) (us := [.ref a]) (ws := []) (vs := [.ref a]) (σ := σ) F hr.in1.in1 rfl takes0 I (.cons rfl .nil) rfl hsp
  refine PySem.W.kso_call (by have := hr.in1.in1.rm.un; omega) I.kIn J hm.at_ hm.fn (wpAny_mono run (fun v s' hv => ?_) fun _ _ y => y)
  obtain ⟨z, H', I', rz, gz, q⟩ := hv
  cases z with
  | str y =>
    obtain ⟨t, rfl⟩ := rz
    exact ⟨.str y, H', I', ⟨t, rfl⟩, q⟩
  | _ => exact gz.elim
end
structure InsC (K : PySem.W.Frag) (C : Addr) : Prop where
  ha : PySem.W.findIn K (.ref C) "__class__" = some (some (.builtin "object.__class__"))
  hn : PySem.W.specialIn K (.builtin "object.__class__") "__get__" = some (some (.builtin "getset_descriptor.__get__"))
  ht : PySem.W.takesIn K (.builtin "object.__class__") = some true
  hm : PySem.W.mroIn K C (.type "object") = some true
def insB (x : Str) : Fx := fun K => He.eqO (PySem.W.findIn K (.ref (He.ga K x)) "__class__") (some (some (.builtin "object.__class__"))) && (He.eqO (PySem.W.specialIn K (.builtin "object.__class__") "__get__") (some (some (.builtin "getset_descriptor.__get__"))) &&
  (decide (PySem.W.takesIn K (.builtin "object.__class__") = some true) && decide (PySem.W.mroIn K (He.ga K x) (.type "object") = some true)))
theorem insC_of {x : Str} {K : PySem.W.Frag} (h : insB x K = true) : InsC K (He.ga K x) := by
  obtain ⟨h1, h⟩ := He.ba h
  obtain ⟨h2, h⟩ := He.ba h
  obtain ⟨h3, h4⟩ := He.ba h
  exact ⟨He.eqO_ok h1, He.eqO_ok h2, of_decide_eq_true h3, of_decide_eq_true h4⟩
theorem ty_ins {K : PySem.W.Frag} {H : Hp} {a C dx : Addr} {fs : List (Str × V)} (i : InsC K C) (c : Cls K C) (e : H a = some (.ins C dx fs)) : TyX K H (.ref a) (.ref C) := .base (.ins e c i.ha i.hn i.ht i.hm)
def kitBF (y : String) (x : Str) (b : Bool) : Fx := fun K => decide (PySem.W.kitOne K (.type y) (.ref (He.ga K x)) = some b)
def exm1F (x y : Str) (b : Bool) : Fx := fun K => decide (PySem.W.exmOne K (.ref (He.ga K x)) (.ref (He.ga K y)) = some b)
section
variable {X : Cx} {K : PySem.W.Frag}
theorem ix_listK (K : PySem.W.Frag) (h : X.K = K := by rfl) : IxR X (rIxL K) := h ▸ ix_list
/-- repr(text) -/
theorem call_repr_str : CallR X (.builtin "repr") (fun xs H Q => ∃ x, xs = [.str x] ∧ (reprText x).length ≤ sizeLine ∧ Q (.str (reprText x)) H) := by
  intro pins s σ H xs us Q I r h
  obtain ⟨i, rfl, hz, q⟩ := h
  obtain ⟨u, rfl, t, rfl⟩ := vals1 r
  exact PySem.P.repr_of_str ⟨.str _, H, I.tok _, ⟨_, rfl⟩, q⟩ hz
end
end L3
set_option Elab.async false
set_option linter.all false
set_option maxRecDepth 100000
set_option maxHeartbeats 4000000
namespace L3
open PySem PySem.Spec PyProof.Rows L2
def okC (c : Nat) : Bool := decide (32 ≤ c) && (decide (c ≤ 126) && (decide (c ≠ 39) && decide (c ≠ 92)))
theorem okC_char : ∀ {c : Nat}, okC c = true → Builtin.Str.reprChar 39 c = [c] := by
  have all : ∀ c, c < 127 → okC c = true → Builtin.Str.reprChar 39 c = [c] := by decide +kernel
  intro c h
  refine all c ?_ h
  have := of_decide_eq_true (Bool.and_eq_true_iff.mp (Bool.and_eq_true_iff.mp h).2).1
  omega
theorem repr_fold : ∀ (l : List Nat) (acc : Array Nat), l.all okC = true → l.foldl (fun out c => out ++ (Builtin.Str.reprChar 39 c).toArray) acc = acc ++ l.toArray
  | [], acc, _ => by simp
  | c :: r, acc, h => by
    obtain ⟨h1, h2⟩ := He.ba (show (okC c && r.all okC) = true from h)
    rw [List.foldl_cons, okC_char h1, repr_fold r _ h2]
    simp
theorem repr_plain {l : List Nat} (h : l.all okC = true) : reprText (SX.S l) = SX.S (39 :: l ++ [39]) := by
  have n39 : (SX.S l).cps.contains 39 = false := by
    cases e : (SX.S l).cps.contains 39 with
    | false => rfl
    | true =>
      have m : 39 ∈ l := by simpa using e
      exact absurd (List.all_eq_true.mp h 39 m) (by decide)
  have q : reprQuote (SX.S l) = 39 := by
    unfold reprQuote
    rw [n39]
    rfl
  unfold reprText
  rw [q]
  have e := repr_fold l #[39] h
  have e2 : (SX.S l).cps.foldl (fun out c => out ++ (Builtin.Str.reprChar 39 c).toArray) #[39] = l.foldl (fun out c => out ++ (Builtin.Str.reprChar 39 c).toArray) #[39] := by simp
  rw [e2, e]
  refine TL.ext_tl ?_
  show (((#[39] ++ l.toArray).push 39).toList) = _
  simp
theorem repr_plain_len {l : List Nat} (h : l.all okC = true) : (reprText (SX.S l)).length = l.length + 2 := by
  rw [repr_plain h, SX.S_len]
  simp
section
variable {J : It} {n : Nat} {G : Hp → Prop} {Y : Nat → Hp → V → Hp → Prop} {g : TG} {tt : TT} {te : TE} {vs : List Nat} {σ : L2.St} {H1 : Hp} {D : Addr} {Qd : Hp → Prop}
theorem lc_any (w : L2.Walk J n G Y) (I : Nat → List V → Hp → Prop) (hI : ∀ i acc H l, I i acc H → I i acc (upd H D (.lst l))) (i0 : I 0 [] H1) (hn : n ≤ 100000) (hl : ∀ i acc H, I i acc H → acc.length ≤ i) (hG : ∀ i acc H, I i acc H → G H)
    (hs : ∀ (i : Nat) (x : V) (H H' : Hp) (acc : List V) (N : Hp → Prop), i < n → I i acc H → H D = some (.lst acc) → acc.length < sizeLine → Y i H x H' →
      (∀ y H4, H4 D = some (.lst acc) → I (i + 1) (acc ++ [y]) H4 → N (upd H4 D (.lst (acc ++ [y])))) → (∀ H4, H4 D = some (.lst acc) → I (i + 1) acc H4 → N H4) → Turn g tt te vs σ D x H' N)
    (hd : ∀ acc H, I n acc H → H D = some (.lst acc) → Qd H) :
    ∃ W : Nat → Nat → Hp → Prop, (∃ m, W 0 m (upd H1 D (.lst []))) ∧ ∀ i m H, W i m H →
      (J.stop i H ∧ Qd H) ∨ (J.go i H ∧ ∃ Nx : Hp → Prop, (∀ H', Nx H' → ∃ m', m' < m ∧ W (i + 1) m' H') ∧ ∀ x H', J.yld i H x H' → Turn g tt te vs σ D x H' Nx) := by
  refine L2.lc_it w (fun i H => i ≤ n ∧ ∃ acc, I i acc H ∧ H D = some (.lst acc)) ⟨Nat.zero_le _, [], hI _ _ _ _ i0, upd_same⟩ (fun i H _ p => ?_) ?_ (fun H p => ?_)
  · obtain ⟨_, acc, p, _⟩ := p
    exact hG i acc H p
  · rintro i x H H' hi ⟨p1, acc, p2, p3⟩ y
    have := hl _ _ _ p2
    refine hs i x H H' acc _ hi p2 p3 (small_len (by omega)) y (fun y H4 d4 i4 => ⟨hi, _, hI _ _ _ _ i4, upd_same⟩) fun H4 d4 i4 => ⟨hi, _, i4, d4⟩
  · obtain ⟨_, acc, p, d⟩ := p
    exact hd acc H p d
end
end L3
set_option Elab.async false
set_option linter.all false
set_option maxRecDepth 100000
set_option maxHeartbeats 4000000
namespace SrtA
open PySem PyProof.Rows Srt SrtO
section
variable {prog : Program} {w : World} {A : Around} {E : Value → Shared → Prop} {s : Shared}
theorem collect_tup {l : Addr} {vs : List Value} {Q : List Value → Shared → Prop} (hl : s.heap.IsTuple l vs.toArray)
    (h : Q vs { s with heap := (s.heap.push (seqObj "list" #[] 0)).update s.heap.objs.size (Obj.mapSeq (· ++ vs.toArray)) }) (hsz : vs.length ≤ sizeLine) :
    wpAny (model prog w) A (collect (.ref l)) Q E s := by
  obtain ⟨o, ho, hc, n, hd⟩ := id hl
  unfold collect
  refine wpAny_bind (wpAny_runValue (codeAny_builtin entry_proto_collect' ?_))
  show wpAny _ _ (do again (.builtin "list.__iadd__" ⟨[← newList [], .ref l], []⟩)) _ _ s
  refine wpAny_bind (wpAny_newList (wpAny_pure ⟨Code.quiet_builtin _ (by decide +kernel), codeAny_builtin entry_list_iadd' ?_⟩))
  show wpAny _ _ (Builtin.List.listExtendWith (.ref s.heap.objs.size) (.ref l) (.ref s.heap.objs.size)) _ _ { s with heap := s.heap.push (seqObj "list" #[] 0) }
  unfold Builtin.List.listExtendWith
  have ho' : (s.heap.push (seqObj "list" #[] 0)).get? l = some o := Heap.get?_push_of_some _ ho
  refine wpAny_bind (wpAny_typeOf (T := "tuple") ⟨o, ho', hc⟩ ?_)
  have ht : (Value.type "tuple" == Value.type "tuple") = true := by rfl
  rw [if_pos (by rw [ht]; simp)]
  refine wpAny_bind (listItems_at ho' hd ?_)
  refine wpAny_bind (listItems_at (xs := #[]) (n := 0) (Heap.get?_push_size _ rfl) rfl ?_)
  rw [if_neg (by simp)]
  refine wpAny_bind (listUpdate_at (xs := #[]) (n := 0) (Heap.get?_push_size _ rfl) rfl ?_ (Nat.zero_le _) (by show (#[] ++ vs.toArray).size ≤ sizeLine + 1; simp only [Array.size_append, List.size_toArray, List.length_nil]; omega))
  refine wpAny_pure ?_
  show wpAny (model prog w) A (do
      let o ← load s.heap.objs.size
      match o.data with
      | .seq xs _ => pure xs.toList
      | _ => unsupported "internal:collect") Q E { s with heap := (s.heap.push (seqObj "list" #[] 0)).update s.heap.objs.size (Obj.mapSeq (· ++ vs.toArray)) }
  refine wpAny_bind (wpAny_load (get?_update_seq (Heap.get?_push_size _ rfl) _) ?_)
  show wpAny _ _ (pure ((#[] : Array Value) ++ vs.toArray).toList) Q E _
  rw [show ((#[] : Array Value) ++ vs.toArray).toList = vs by simp]
  exact wpAny_pure h
theorem sorted_tup {l : Addr} {vs : List Value} {ltv : Value → Value → Bool} {Q : Value → Shared → Prop} (O : Swo ltv) (hl : s.heap.IsTuple l vs.toArray) (hz : vs.length ≤ sizeLine)
    (hS : 2 ≤ vs.length → ∀ (h₁ : Heap) (a : Addr), h₁.get? a = some (seqObj "list" vs.toArray 0) → (∀ b o, s.heap.get? b = some o → b ≠ a ∧ h₁.get? b = some o) → SortableO prog w A.in1.in1 { s with heap := h₁ } a vs ltv)
    (h : ∀ out : List Value, Srtd ltv out → Stb ltv out vs → Q (.ref (s.heap.objs.size + 1)) { s with heap := sortedAll s.heap vs out.toArray }) :
    wpAny (model prog w) A (call (.builtin "sorted") [.ref l]) Q E s := by
  refine Calls.call_function_entry kind_sorted plain_sorted entry_sorted (args_sorted1 _) ?_
  unfold Builtin.«sorted»
  refine wpAny_bind (m := checkCount "sorted" 1 1 _) (wpAny_pure ?_)
  refine wpAny_bind (collect_tup hl ?_ hz)
  refine wpAny_bind (wpAny_newList ?_ hz)
  have hsz : ((s.heap.push (seqObj "list" #[] 0)).update s.heap.objs.size (Obj.mapSeq (· ++ vs.toArray))).objs.size = s.heap.objs.size + 1 := by
    rw [Heap.size_update, size_push']
  have hoL : (((s.heap.push (seqObj "list" #[] 0)).update s.heap.objs.size (Obj.mapSeq (· ++ vs.toArray))).push (seqObj "list" vs.toArray 0)).get? (s.heap.objs.size + 1) = some (seqObj "list" vs.toArray 0) := by
    rw [← hsz]; exact Heap.get?_push_size _ rfl
  have keep : ∀ b o, s.heap.get? b = some o → b ≠ s.heap.objs.size + 1 ∧ (((s.heap.push (seqObj "list" #[] 0)).update s.heap.objs.size (Obj.mapSeq (· ++ vs.toArray))).push (seqObj "list" vs.toArray 0)).get? b = some o := fun b o q => by
    have hlt : b < s.heap.objs.size := Heap.lt_size q
    refine ⟨Nat.ne_of_lt (Nat.lt_succ_of_lt hlt), Heap.get?_push_of_some _ ?_⟩
    rw [Heap.get?_update_ne _ _ _ _ (Nat.ne_of_lt hlt)]
    exact Heap.get?_push_of_some _ q
  show wpAny _ _ _ _ _ { s with heap := ((s.heap.push (seqObj "list" #[] 0)).update s.heap.objs.size (Obj.mapSeq (· ++ vs.toArray))).push (seqObj "list" vs.toArray 0) }
  rw [hsz]
  refine wpAny_bind (wpAny_holding (wpAny_call_entry slot_list_sort ⟨_, hoL, rfl⟩ entry_list_sort (list_sort_ord O hoL hz (fun h2 => hS h2 _ _ hoL keep) fun out hs hb => ⟨_, rfl, ?_⟩) (args_list_sort _)))
  exact wpAny_pure ⟨_, rfl, h out hs hb⟩
end
end SrtA
namespace L3
open PySem PySem.Spec PyProof.Rows L2
end L3
set_option Elab.async false
set_option linter.all false
set_option maxRecDepth 100000
set_option maxHeartbeats 4000000
namespace L3
open PySem PySem.Spec PyProof.Rows L2
section
variable {P : Program} {w : World} {A : Around} {E : Value → Shared → Prop} {s : Shared}
abbrev newSet (w : World) : Obj := { cls := .type "set", dict := none, data := .set #[] 0 (.fresh 0 0 (!w.params.followText "set-order")) }
end
end L3
set_option Elab.async false
set_option linter.all false
set_option maxRecDepth 100000
set_option maxHeartbeats 4000000
namespace L3
open PySem PySem.Spec PyProof.Rows L2
end L3
set_option Elab.async false
set_option linter.all false
set_option maxRecDepth 100000
set_option maxHeartbeats 4000000
namespace L3
open PySem PySem.Spec PyProof.Rows L2
theorem range_fm {α β : Type} (g : α → Option β) : ∀ l : List α, (List.range l.length).filterMap (fun i => l[i]?.bind g) = l.filterMap g
  | [] => rfl
  | x :: l => by
    rw [List.length_cons, List.range_succ_eq_map, List.filterMap_cons, List.filterMap_map, List.filterMap_cons]
    have ih := range_fm g l
    have e : ((fun i => (x :: l)[i]?.bind g) ∘ Nat.succ) = fun i => l[i]?.bind g := funext fun i => by simp
    rw [e, ih]
    simp
section
variable {J : It} {G : Hp → Prop} {g : TG} {tt : TT} {te : TE} {vs : List Nat} {σ : L2.St} {H1 : Hp} {D : Addr} {Qd : Hp → Prop}
/-- a comprehension over xs (told as values by v), each of which gives gm x, or nothing -/
theorem lc_on {α : Type} (xs : List α) (v : α → V) (w : L2.Walk J (xs.map v).length G (L2.YAt (xs.map v))) (gm : α → Option V) (I : Hp → Prop) (hI : ∀ H l, I H → I (upd H D (.lst l))) (i0 : I H1) (hn : xs.length ≤ 100000) (hG : ∀ H, I H → G H)
    (hs : ∀ (i : Nat) (x : α) (H : Hp) (acc : List V) (N : Hp → Prop), xs[i]? = some x → I H → H D = some (.lst acc) → acc.length < sizeLine →
      (∀ H4, I H4 → H4 D = some (.lst acc) → match gm x with | some y => N (upd H4 D (.lst (acc ++ [y]))) | none => N H4) → Turn g tt te vs σ D (v x) H N)
    (hd : ∀ H, I H → H D = some (.lst (xs.filterMap gm)) → Qd H) :
    ∃ W : Nat → Nat → Hp → Prop, (∃ m, W 0 m (upd H1 D (.lst []))) ∧ ∀ i m H, W i m H →
      (J.stop i H ∧ Qd H) ∨ (J.go i H ∧ ∃ Nx : Hp → Prop, (∀ H', Nx H' → ∃ m', m' < m ∧ W (i + 1) m' H') ∧ ∀ x H', J.yld i H x H' → Turn g tt te vs σ D x H' Nx) := by
  refine lc_fm w (fun i => xs[i]?.bind gm) I hI i0 (by rw [List.length_map]; exact hn) hG (fun i x H H' acc N hi p hD la y k => ?_) fun H p hD => hd H p ?_
  · obtain ⟨rfl, hx⟩ := y
    rw [List.getElem?_map] at hx
    obtain ⟨z, hz, rfl⟩ := Option.map_eq_some_iff.mp hx
    refine hs i z _ acc N hz p hD la fun H4 p4 d4 => ?_
    have := k H4 p4 d4
    simp only [hz, Option.bind_some] at this
    exact this
  · rw [hD, List.length_map, range_fm]
end
section
variable {J : It} {G : Hp → Prop} {g : TG} {tb : TS} {D : Ends} {σ : L2.St} {H : Hp}
/-- a for over xs (told as values by v) -/
theorem for_on {α : Type} (xs : List α) (v : α → V) (w : L2.Walk J (xs.map v).length G (L2.YAt (xs.map v))) (Pv : Nat → L2.St → Hp → Prop) (h0 : Pv 0 σ H) (hG : ∀ i σ H, Pv i σ H → G H)
    (hs : ∀ (i : Nat) (x : α) (σ : L2.St) (H : Hp), xs[i]? = some x → Pv i σ H → g (v x) σ H fun σ2 H2 => tb { D with nx := Pv (i + 1), ct := Pv (i + 1), bk := D.nx } σ2 H2) (hd : ∀ σ H, Pv xs.length σ H → D.nx σ H) :
    ∃ W : Nat → Nat → L2.St → Hp → Prop, (∃ m, W 0 m σ H) ∧ ∀ i m σ H, W i m σ H →
      (J.stop i H ∧ D.nx σ H) ∨ (J.go i H ∧ ∃ N : L2.St → Hp → Prop, (∀ σ' H', N σ' H' → ∃ m', m' < m ∧ W (i + 1) m' σ' H') ∧ ∀ x H', J.yld i H x H' → g x σ H' fun σ2 H2 => tb { D with nx := N, ct := N, bk := D.nx } σ2 H2) := by
  refine L2.for_it w Pv h0 (fun i σ H _ p => hG i σ H p) (fun i x σ H H' hi p y => ?_) (fun σ H p => hd σ H (by rw [List.length_map] at p; exact p))
  obtain ⟨rfl, hx⟩ := y
  rw [List.getElem?_map] at hx
  obtain ⟨z, hz, rfl⟩ := Option.map_eq_some_iff.mp hx
  exact hs i z σ _ hz p
end
/-- what stands elsewhere than at f stays -/
def Oth (f : Addr) (H H' : Hp) : Prop := ∀ b o, b ≠ f → H b = some o → H' b = some o
theorem Oth.refl (f : Addr) (H : Hp) : Oth f H H := fun _ _ _ e => e
theorem Oth.trans {f : Addr} {H H1 H2 : Hp} (a : Oth f H H1) (b : Oth f H1 H2) : Oth f H H2 := fun c o h e => b c o h (a c o h e)
theorem Oth.upd {f : Addr} {H H1 : Hp} {o : HO} (a : Oth f H H1) : Oth f H (L2.upd H1 f o) := fun b u nb e => by rw [upd_ne nb]; exact a b u nb e
theorem Oth.ex {f : Addr} {H0 H H1 : Hp} (x : Ex H0 H) (n : H0 f = none) (a : Oth f H H1) : Ex H0 H1 := fun b o e => a b o (ne_of_none e n) (x b o e)
end L3
set_option Elab.async false
set_option linter.all false
set_option maxRecDepth 100000
set_option maxHeartbeats 4000000
namespace L3
open PySem PySem.Spec PyProof.Rows L2
theorem tyOf_mono {K : PySem.W.Frag} {H H' : Hp} {x : V} {t : Value} (e : Ex H H') (h : TyOf K H x t) : TyOf K H' x t := by
  cases h with
  | non => exact .non
  | bl x => exact .bl x
  | int i => exact .int i
  | str x => exact .str x
  | flt x => exact .flt x
  | lst h => exact .lst (e _ _ h)
  | frz h => exact .frz (e _ _ h)
  | tup h => exact .tup (e _ _ h)
  | dK h => exact .dK (e _ _ h)
  | dT h => exact .dT (e _ _ h)
  | ins h cl ha hn htk hm => exact .ins (e _ _ h) cl ha hn htk hm
theorem tyX_mono {K : PySem.W.Frag} {H H' : Hp} {x : V} {t : Value} (e : Ex H H') (h : TyX K H x t) : TyX K H' x t := by
  cases h with
  | base h => exact .base (tyOf_mono e h)
  | byt b => exact .byt b
  | set h => exact .set (e _ _ h)
  | kList h c => exact .kList h c
  | kTuple h c => exact .kTuple h c
  | kDict h c => exact .kDict h c
  | fTuple h => exact .fTuple (e _ _ h)
  | fDict h => exact .fDict (e _ _ h)
theorem Cl.mono {K : PySem.W.Frag} {H H' : Hp} {x : V} (c : Cl K H x) (e : Ex H H') : Cl K H' x := let ⟨t, b, d, h1, h2⟩ := c; ⟨t, b, d, tyX_mono e h1, h2⟩
end L3
set_option Elab.async false
set_option linter.all false
set_option maxRecDepth 100000
set_option maxHeartbeats 4000000
namespace L3
open PySem PySem.Spec PyProof.Rows L2 PySem.SeqAt PySem.Calls
/-- a type, of which the class at C is no base, or which is that class -/
def NoSub (K : PySem.W.Frag) (C : Addr) (t : Value) : Prop := t = .ref C ∨ PySem.W.kitOne K t (.ref C) = some false
/-- the class at C is none of the types that decline -/
structure NoBase (K : PySem.W.Frag) (C : Addr) : Prop where
  non : PySem.W.mroIn K C (.type "NoneType") = some false
  bl : PySem.W.mroIn K C (.type "bool") = some false
  int : PySem.W.mroIn K C (.type "int") = some false
  str : PySem.W.mroIn K C (.type "str") = some false
  lst : PySem.W.mroIn K C (.type "list") = some false
  tup : PySem.W.mroIn K C (.type "tuple") = some false
  dct : PySem.W.mroIn K C (.type "dict") = some false
  ne : PySem.W.findIn K (.ref C) "__ne__" = some (some (.builtin "object.__ne__"))
  ob : PySem.W.mroIn K C (.type "object") = some true
def noBaseF (x : Str) : Fx := fun K => (["NoneType", "bool", "int", "str", "list", "tuple", "dict"].all fun T => decide (PySem.W.mroIn K (He.ga K x) (.type T) = some false)) &&
  (He.eqO (PySem.W.findIn K (.ref (He.ga K x)) "__ne__") (some (some (.builtin "object.__ne__"))) && decide (PySem.W.mroIn K (He.ga K x) (.type "object") = some true))
theorem noBase_of {x : Str} {K : PySem.W.Frag} (h : noBaseF x K = true) : NoBase K (He.ga K x) := by
  obtain ⟨h1, h⟩ := He.ba h
  obtain ⟨h2, h3⟩ := He.ba h
  have g : ∀ T ∈ ["NoneType", "bool", "int", "str", "list", "tuple", "dict"], PySem.W.mroIn K (He.ga K x) (.type T) = some false := fun T hT => of_decide_eq_true (List.all_eq_true.mp h1 T hT)
  exact ⟨g _ (by decide), g _ (by decide), g _ (by decide), g _ (by decide), g _ (by decide), g _ (by decide), g _ (by decide), He.eqO_ok h2, of_decide_eq_true h3⟩
theorem noSub_look {K : PySem.W.Frag} {C : Addr} {t : Value} (h : NoSub K C t) {M : Model} {hp : Heap} (X : K.In hp) (q : (Value.ref C != t) = true) : PySem.W.Looks M hp (isSubtype t (.ref C)) false := by
  rcases h with rfl | h
  · simp at q
  · unfold PySem.W.kitOne at h
    split at h
    · cases h
    · exact (PySem.W.kit_cls X h).2.2
section
variable {prog : Program} {w : World} {A : Around} {E : Value → Shared → Prop} {s : Shared} {K : PySem.W.Frag} {x C f : Addr} {ox : Obj} {od : Option Obj} {b tb : Value}
theorem try_own {Q : Value → Shared → Prop} {n : Str} (X : K.In s.heap) (I : PySem.W.InstAt s.heap x ox C od) (hm : Meth K C n f)
    (h : wpAny (model prog w) A (call (.ref f) [.ref x, b]) (PySem.W.CmpBack Q) E s) : wpAny (model prog w) A (tryCompare (.ref x) n b) (fun r s' => ∃ v, r = some v ∧ Q v s') E s := by
  unfold tryCompare
  refine wpAny_bind (PySem.W.ifBound_K X I hm.at_ hm.fn (wpAny_mono h (fun v s' hv => ?_) fun _ _ e => e))
  cases v <;> first | exact hv.elim | exact wpAny_pure ⟨_, rfl, hv⟩
theorem rc_ownL {Q : Value → Shared → Prop} (hu : A.units < cLine) (X : K.In s.heap) (I : PySem.W.InstAt s.heap x ox C od) (hb : PySem.W.Looks (model prog w) s.heap (typeOf b) tb) (hn : NoSub K C tb) (hm : Meth K C "__eq__" f)
    (h : wpAny (model prog w) A (call (.ref f) [.ref x, b]) (PySem.W.CmpBack Q) E s) : wpAny (model prog w) A (richCompare .Eq (.ref x) b) Q E s := by
  have one := try_own (b := b) X I hm h
  simp only [richCompare, cmpInfo_Eq, oneThing_ref]
  refine wpAny_holding (wpAny_bind (wpAny_cRoomFor hu ?_))
  refine wpAny_bind (I.type.here (wpAny_bind (hb.here ?_)))
  split
  · rename_i q
    refine wpAny_bind ((noSub_look hn X q).here ?_)
    simp only [Bool.false_eq_true, if_false]
    refine wpAny_bind (wpAny_mono one (fun r s' z => ?_) fun _ _ e => e)
    obtain ⟨v, rfl, hq⟩ := z
    exact wpAny_pure hq
  · refine wpAny_bind (wpAny_pure ?_)
    simp only [Bool.false_eq_true, if_false]
    refine wpAny_bind (wpAny_mono one (fun r s' z => ?_) fun _ _ e => e)
    obtain ⟨v, rfl, hq⟩ := z
    exact wpAny_pure hq
/-- a value that declines: then the right one's own == -/
theorem rc_ownR {Q : Value → Shared → Prop} {T : String} (hu : A.units < cLine) (X : K.In s.heap) (I : PySem.W.InstAt s.heap x ox C od) (hb : s.TypeIs b T) (ho : oneThing? .Eq b (.ref x) = none) (hn : PySem.W.mroIn K C (.type T) = some false) (hm : Meth K C "__eq__" f)
    (hd : ∀ Q' : Option Value → Shared → Prop, Q' none s → wpAny (model prog w) A (tryCompare b "__eq__" (.ref x)) Q' E s)
    (h : wpAny (model prog w) A (call (.ref f) [.ref x, b]) (PySem.W.CmpBack Q) E s) : wpAny (model prog w) A (richCompare .Eq b (.ref x)) Q E s := by
  have one := try_own (b := b) X I hm h
  simp only [richCompare, cmpInfo_Eq, ho]
  refine wpAny_holding (wpAny_bind (wpAny_cRoomFor hu ?_))
  refine wpAny_bind (wpAny_typeOf hb (wpAny_bind (I.type.here ?_)))
  split
  · refine wpAny_bind ((PySem.W.looks_mroIn X hn).here ?_)
    simp only [Bool.false_eq_true, if_false, Bool.not_false, if_true]
    refine wpAny_bind (m := tryCompare b _ (.ref x)) (hd _ ?_)
    refine wpAny_bind (m := tryCompare (.ref x) _ b) (wpAny_mono one (fun r s' z => ?_) fun _ _ e => e)
    obtain ⟨v, rfl, hq⟩ := z
    exact wpAny_pure hq
  · rename_i q
    exact absurd (by simp) q
end
section
variable {prog : Program} {w : World} {A : Around} {E : Value → Shared → Prop} {s : Shared} {K : PySem.W.Frag} {x C dx : Addr} {od : Option Obj}
theorem int_dec_ins (b : Int) (u : Tok) (l C dx : Addr) :
    Meets (Builtin.«int.__eq__» ⟨[.int b u, .ref l], []⟩) (fun _ R s => s.heap.get? l = some { cls := .ref C, dict := some dx, data := .plain } ∧ R (.ok (.ret .notImplemented)) s) :=
  .of_wp fun prog w A R s h => by obtain ⟨hp, g, d, tk, os⟩ := s; obtain ⟨hl, h⟩ := h; wp_walk using wpAny_loadPart' hl, wpAny_load hl; exact ⟨_, rfl, h⟩
theorem bool_dec_ins (b : Bool) (l C dx : Addr) :
    Meets (Builtin.«int.__eq__» ⟨[.bool b, .ref l], []⟩) (fun _ R s => s.heap.get? l = some { cls := .ref C, dict := some dx, data := .plain } ∧ R (.ok (.ret .notImplemented)) s) :=
  .of_wp fun prog w A R s h => by obtain ⟨hp, g, d, tk, os⟩ := s; obtain ⟨hl, h⟩ := h; wp_walk using wpAny_loadPart' hl, wpAny_load hl; exact ⟨_, rfl, h⟩
theorem str_dec_ins (b : Str) (u : Tok) (l C dx : Addr) :
    Meets (Builtin.«str.__eq__» ⟨[.str b u, .ref l], []⟩) (fun _ R s => s.heap.get? l = some { cls := .ref C, dict := some dx, data := .plain } ∧ R (.ok (.ret .notImplemented)) s) :=
  .of_wp fun prog w A R s h => by obtain ⟨hp, g, d, tk, os⟩ := s; obtain ⟨hl, h⟩ := h; wp_walk using wpAny_loadPart' hl, wpAny_load hl; exact ⟨_, rfl, h⟩
theorem wpAny_noInst {M : Model} {T : String} {Q : Bool → Shared → Prop} (X : K.In s.heap) (I : PySem.W.InstAt s.heap x (PySem.W.instObj C dx) C od) (hn : PySem.W.mroIn K C (.type T) = some false) (h : Q false s) : wpAny M A (isInstance (.ref x) (.type T)) Q E s := by
  unfold isInstance
  exact wpAny_bind (I.type.here ((PySem.W.looks_mroIn X hn).here h))
theorem list_dec_ins (l : Addr) (X : K.In s.heap) (I : PySem.W.InstAt s.heap x (PySem.W.instObj C dx) C od) (hn : PySem.W.mroIn K C (.type "list") = some false) {Q : Fin → Shared → Prop} (h : Q (.done (.ret .notImplemented)) s) :
    wpAny (model prog w) A (Builtin.«list.__eq__» ⟨[.ref l, .ref x], []⟩) Q E s := by
  unfold Builtin.«list.__eq__»
  wp_walk using wpAny_noInst X I hn
  exact h
theorem tuple_dec_ins (l : Addr) (X : K.In s.heap) (I : PySem.W.InstAt s.heap x (PySem.W.instObj C dx) C od) (hn : PySem.W.mroIn K C (.type "tuple") = some false) {Q : Fin → Shared → Prop} (h : Q (.done (.ret .notImplemented)) s) :
    wpAny (model prog w) A (Builtin.«tuple.__eq__» ⟨[.ref l, .ref x], []⟩) Q E s := by
  unfold Builtin.«tuple.__eq__»
  wp_walk using wpAny_noInst X I hn
  exact h
theorem dict_dec_ins (l : Addr) (hT : s.TypeIs (.ref l) "dict") (X : K.In s.heap) (I : PySem.W.InstAt s.heap x (PySem.W.instObj C dx) C od) (hn : PySem.W.mroIn K C (.type "dict") = some false) {Q : Fin → Shared → Prop} (h : Q (.done (.ret .notImplemented)) s) :
    wpAny (model prog w) A (Builtin.«dict.__eq__» ⟨[.ref l, .ref x], []⟩) Q E s := by
  show wpAny _ _ (Builtin.Dict.dictSlotArgs "__eq__" ⟨[.ref l, .ref x], []⟩ >>= _) _ _ s
  refine wpAny_bind ?_
  unfold Builtin.Dict.dictSlotArgs
  refine wpAny_bind (wpAny_notOrdered_dict hT ?_)
  show wpAny _ _ (pure (Value.ref l, Value.ref x)) _ _ s
  refine wpAny_pure ?_
  refine wpAny_bind (wpAny_noInst X I hn ?_)
  simp only [Bool.not_false, if_true]
  refine wpAny_bind (wpAny_rule ?_)
  exact wpAny_pure h
end
theorem cmpback_ {P : Value → Shared → Prop} {z : V} {v : Value} {s' : Shared} (r : RelV z v) (h : P v s') : PySem.W.CmpBack P v s' := by
  cases v with
  | notImplemented =>
    cases z with
    | int i => exact nomatch (show ∃ t, Value.notImplemented = Value.int i t from r)
    | str i => exact nomatch (show ∃ t, Value.notImplemented = Value.str i t from r)
    | byt i => exact nomatch (show ∃ t, Value.notImplemented = Value.bytes i t from r)
    | flt i => exact nomatch (show ∃ t, Value.notImplemented = Value.float i t from r)
    | non => exact nomatch (show Value.notImplemented = Value.none from r)
    | bl b => exact nomatch (show Value.notImplemented = Value.bool b from r)
    | ref a => exact nomatch (show Value.notImplemented = Value.ref a from r)
    | ty n => exact nomatch (show Value.notImplemented = Value.type n from r)
  | _ => exact h
/-- values whose == declines an instance -/
inductive Dec (K : PySem.W.Frag) (H : Hp) : V → Prop where
  | non : Dec K H .non
  | bl (b : Bool) : Dec K H (.bl b)
  | int (i : Int) : Dec K H (.int i)
  | str (z : Str) : Dec K H (.str z)
  | lst {a : Addr} {xs : List V} (e : SqL K H a xs) : Dec K H (.ref a)
  | tup {a : Addr} {xs : List V} (e : SqT K H a xs) : Dec K H (.ref a)
  | dK {a : Addr} {kvs : List (Key × V)} (e : H a = some (.dK kvs)) : Dec K H (.ref a)
/-- a rich comparison below the running body -/
def RcO (X : Cx) (k : Nat) (r : R2) : Prop := ∀ (A : Around) (pins : List (Addr × Obj)) (s : Shared) (σ : L2.St) (H : Hp) (x y : V) (u v : Value) (Q : VK), Rm k A → A.frames = X.A.frames → Inv X pins σ H s → RelV x u → RelV y v → r x y H Q →
  wpAny (model X.prog X.w) A (richCompare .Eq u v) (EP X pins σ Q) X.xe s
section
variable {X : Cx} {k : Nat} {f C : Addr} {sp : Sp} {pins : List (Addr × Obj)} {σ : L2.St} {H : Hp} {s : Shared}
theorem dec_try {x : Addr} {dx : Addr} {od : Option Obj} {z : V} {u : Value} (I : Inv X pins σ H s) (r : RelV z u) (d : Dec X.K H z) (J : PySem.W.InstAt s.heap x (PySem.W.instObj C dx) C od) (nb : NoBase X.K C) :
    ∃ T, s.TypeIs u T ∧ oneThing? .Eq u (.ref x) = none ∧ PySem.W.mroIn X.K C (.type T) = some false ∧ ∀ (A : Around) (E : Value → Shared → Prop) (Q' : Option Value → Shared → Prop), Q' none s → wpAny (model X.prog X.w) A (tryCompare u "__eq__" (.ref x)) Q' E s := by
  cases d with
  | non =>
    cases (show u = Value.none from r)
    exact ⟨"NoneType", rfl, rfl, nb.non, fun A E Q' h => wpAny_tryCompare_declines (show s.TypeIs .none "NoneType" from rfl) F.slot_NoneType_eq (call_gives F.slot_NoneType_eq rfl F.entry_NoneType_eq (F.args_NoneType_eq_2 _ _) (NoneType___eq___none_ref_0 x) ⟨rfl, h⟩)⟩
  | bl b =>
    cases (show u = Value.bool b from r)
    exact ⟨"bool", rfl, rfl, nb.bl, fun A E Q' h => wpAny_tryCompare_declines (show s.TypeIs (.bool b) "bool" from rfl) F.slot_bool_eq (call_meets F.slot_bool_eq rfl F.entry_int_eq (F.args_int_eq_2 _ _) (bool_dec_ins b x C dx) ⟨J.at_, rfl, h⟩)⟩
  | int i =>
    obtain ⟨t, e⟩ := (show ∃ t, u = Value.int i t from r)
    cases e
    exact ⟨"int", typeIs_int s i t, rfl, nb.int, fun A E Q' h => wpAny_tryCompare_declines (typeIs_int s i t) F.slot_int_eq (call_meets F.slot_int_eq (typeIs_int s i t) F.entry_int_eq (F.args_int_eq_2 _ _) (int_dec_ins i t x C dx) ⟨J.at_, rfl, h⟩)⟩
  | str z =>
    obtain ⟨t, e⟩ := (show ∃ t, u = Value.str z t from r)
    cases e
    exact ⟨"str", typeIs_str s z t, rfl, nb.str, fun A E Q' h => wpAny_tryCompare_declines (typeIs_str s z t) F.slot_str_eq (call_meets F.slot_str_eq (typeIs_str s z t) F.entry_str_eq (F.args_str_eq_2 _ _) (str_dec_ins z t x C dx) ⟨J.at_, rfl, h⟩)⟩
  | @lst a xs e =>
    cases (show u = Value.ref a from r)
    obtain ⟨its, rl, pl, hz⟩ := I.list e
    obtain ⟨o, n, ho, hc, _⟩ := pl
    have hT : s.TypeIs (.ref a) "list" := ⟨_, ho, hc⟩
    exact ⟨"list", hT, oneThing_ref _ _ _, nb.lst, fun A E Q' h => wpAny_tryCompare_declines hT F.slot_list_eq (wpAny_call_entry F.slot_list_eq hT F.entry_list_eq (list_dec_ins a I.kIn J nb.lst ⟨_, rfl, rfl, h⟩) (F.args_list_eq_2 _ _))⟩
  | @tup a xs e =>
    cases (show u = Value.ref a from r)
    obtain ⟨its, rl, ⟨o, ho, hc, n, d⟩, hz⟩ := I.tuple e
    have hT : s.TypeIs (.ref a) "tuple" := ⟨_, ho, hc⟩
    exact ⟨"tuple", hT, oneThing_ref _ _ _, nb.tup, fun A E Q' h => wpAny_tryCompare_declines hT F.slot_tuple_eq (wpAny_call_entry F.slot_tuple_eq hT F.entry_tuple_eq (tuple_dec_ins a I.kIn J nb.tup ⟨_, rfl, rfl, h⟩) (F.args_tuple_eq_2 _ _))⟩
  | @dK a kvs e =>
    cases (show u = Value.ref a from r)
    have hT : s.TypeIs (.ref a) "dict" := by
      obtain ⟨_, _, vs, _, hD⟩ := (show ObjOk _ _ H s.heap a (.dK kvs) from I.hok a _ e)
      exact hD.typeIs
    exact ⟨"dict", hT, oneThing_ref _ _ _, nb.dct, fun A E Q' h => wpAny_tryCompare_declines hT F.slot_dict_eq (wpAny_call_entry F.slot_dict_eq hT F.entry_dict_eq (dict_dec_ins a hT I.kIn J nb.dct ⟨_, rfl, rfl, h⟩) (F.args_dict_eq_2 _ _))⟩
/-- x == y: x an instance of C -/
def rEqL (K : PySem.W.Frag) (C : Addr) (sp : Sp) : R2 := fun x y H Q => ∃ a dx fs t, x = .ref a ∧ H a = some (.ins C dx fs) ∧ TyX K H y t ∧ NoSub K C t ∧ sp [x, y] H Q (fun _ _ _ => False)
/-- x == y: y an instance of C, x declines -/
def rEqR (K : PySem.W.Frag) (C : Addr) (sp : Sp) : R2 := fun x y H Q => ∃ a dx fs, y = .ref a ∧ H a = some (.ins C dx fs) ∧ Dec K H x ∧ sp [y, x] H Q (fun _ _ _ => False)
theorem rco_L (hm : Meth X.K C "__eq__" f) (F : Fc X.prog X.w X.K X.mg X.base k f [] sp) : RcO X k (rEqL X.K C sp) := by
  intro A pins s σ H x y u v Q hr hf I rx ry h
  obtain ⟨a, dx, fs, t, rfl, ha, ty, ns, hsp⟩ := h
  cases (show u = Value.ref a from rx)
  obtain ⟨mA, J, _⟩ := ins_get I.hok ha
  obtain ⟨od, J, _⟩ := J.look
  obtain ⟨P, kx, hP, _⟩ := kit_of I ry ty
  have run := run_fcA (A := A) (W := fun _ _ _ _ => False) (us := [.ref a, v]) (ws := []) (vs := [.ref a, y]) (σ := σ) F hr hf takes0 I (.cons rfl (.cons ry .nil)) rfl hsp
  refine rc_ownL (by have := hr.rm.un; omega) I.kIn J (kx.ty _ _ I.kIn hP) ns hm (wpAny_mono run (fun w s' z => ?_) fun _ _ x => x)
  obtain ⟨z', H', I', rz, qz⟩ := z
  exact cmpback_ rz ⟨z', H', I', rz, qz⟩
theorem rco_R (nb : NoBase X.K C) (hm : Meth X.K C "__eq__" f) (F : Fc X.prog X.w X.K X.mg X.base k f [] sp) : RcO X k (rEqR X.K C sp) := by
  intro A pins s σ H x y u v Q hr hf I rx ry h
  obtain ⟨a, dx, fs, rfl, ha, d, hsp⟩ := h
  cases (show v = Value.ref a from ry)
  obtain ⟨mA, J, _⟩ := ins_get I.hok ha
  obtain ⟨od, J, _⟩ := J.look
  obtain ⟨T, hT, h1, hn, hd⟩ := dec_try I rx d J nb
  have run := run_fcA (A := A) (W := fun _ _ _ _ => False) (us := [.ref a, u]) (ws := []) (vs := [.ref a, x]) (σ := σ) F hr hf takes0 I (.cons rfl (.cons rx .nil)) rfl hsp
  refine rc_ownR (by have := hr.rm.un; omega) I.kIn J hT h1 hn hm (hd _ _) (wpAny_mono run (fun w s' z => ?_) fun _ _ x => x)
  obtain ⟨z', H', I', rz, qz⟩ := z
  exact cmpback_ rz ⟨z', H', I', rz, qz⟩
def rOr (r r' : R2) : R2 := fun x y H Q => r x y H Q ∨ r' x y H Q
theorem rco_or {r r' : R2} (h : RcO X k r) (h' : RcO X k r') : RcO X k (rOr r r') := fun A pins s σ H x y u v Q hr hf I rx ry q =>
  q.elim (fun q => h A pins s σ H x y u v Q hr hf I rx ry q) fun q => h' A pins s σ H x y u v Q hr hf I rx ry q
theorem rco_mono {r : R2} {j : Nat} (h : RcO X j r) (hj : j ≤ k) : RcO X k r := fun A pins s σ H x y u v Q hr hf I rx ry q => h A pins s σ H x y u v Q (hr.mono hj) hf I rx ry q
theorem op_eqO {r : R2} (h : RcO X k r) (hr : Rm k X.A) : OpR X (compareOp .Eq) r := fun pins s σ H x y u v Q I rx ry q => h X.A pins s σ H x y u v Q hr rfl I rx ry q
/-- x in a list, each item compared by r, the same object found ahead -/
def inW (r : R2) (K : PySem.W.Frag) (a : Addr) (ys : List V) (b : Addr) : List V → Hp → (Bool → Hp → Prop) → Prop
  | [], H, Q => SqL K H a ys ∧ Q false H
  | y :: l, H, Q => SqL K H a ys ∧ ((y = .ref b ∧ Q true H) ∨ (y ≠ .ref b ∧ r y (.ref b) H fun v H' => ∃ z, v = .bl z ∧ if z = true then Q true H' else inW r K a ys b l H' Q))
def rInO (r : R2) (K : PySem.W.Frag) : R2 := fun x y H Q => ∃ b a ys, x = .ref b ∧ y = .ref a ∧ inW r K a ys b ys H fun b H' => Q (.bl b) H'
theorem eqBool_itm {A : Around} {r : R2} {b : Addr} {y : V} {u : Value} (h : RcO X k r) (hr : Rm k A) (hf : A.frames = X.A.frames) (I : Inv X pins σ H s) (ry : RelV y u) {Q : Bool → Hp → Prop}
    (q : (y = .ref b ∧ Q true H) ∨ (y ≠ .ref b ∧ r y (.ref b) H fun v H' => ∃ z, v = .bl z ∧ Q z H')) : wpAny (model X.prog X.w) A (eqBool u (.ref b)) (fun z s' => ∃ H', Inv X pins σ H' s' ∧ Q z H') X.xe s := by
  rcases q with ⟨rfl, q⟩ | ⟨ne, q⟩
  · cases (show u = Value.ref b from ry)
    exact SeqAt.EqAt.same (A := A) (s := s) (.ref b) X.prog X.w X.xe _ ⟨H, I, q⟩
  · have hu : (u == Value.ref b) = false := by
      rw [beq_eq_false_iff_ne]
      rintro rfl
      apply ne
      cases y with
      | ref a => injection (show Value.ref b = Value.ref a from ry) with e; rw [e]
      | int i => exact nomatch (show ∃ t, Value.ref b = Value.int i t from ry)
      | str i => exact nomatch (show ∃ t, Value.ref b = Value.str i t from ry)
      | byt i => exact nomatch (show ∃ t, Value.ref b = Value.bytes i t from ry)
      | flt i => exact nomatch (show ∃ t, Value.ref b = Value.float i t from ry)
      | non => exact nomatch (show Value.ref b = Value.none from ry)
      | bl c => exact nomatch (show Value.ref b = Value.bool c from ry)
      | ty n => exact nomatch (show Value.ref b = Value.type n from ry)
    have run := h A pins s σ H y (.ref b) u (.ref b) _ hr hf I ry rfl q
    unfold eqBool
    refine wpAny_holding ?_
    refine wpAny_ite_split (fun hab => absurd hab (by rw [hu]; decide)) (fun _ => ?_)
    have fin : wpAny (model X.prog X.w) A (richCompare .Eq u (.ref b) >>= fun v => truthOfDropped v) (fun z s' => ∃ H', Inv X pins σ H' s' ∧ Q z H') X.xe s := by
      refine wpAny_bind (wpAny_mono run (fun v s' hv => ?_) fun _ _ x => x)
      obtain ⟨z', H', I', rz, z, rfl, q⟩ := hv
      cases (show v = Value.bool z from rz)
      exact wpAny_truthy_bool ⟨H', I', q⟩
    cases u <;> exact fin
theorem in_loop {r : R2} {a b : Addr} {ys : List V} (h : RcO X k r) {R : Result → Shared → Prop} (hE : ∀ e s', X.xe e s' → R (.error e) s') (hr : Rm (k + 1) X.A) (Q : Bool → Hp → Prop) (hR : ∀ z H' s', Inv X pins σ H' s' → Q z H' → R (.ok (.ret (.bool z))) s') :
    ∀ (l : List V) (i : Nat) (H : Hp) (s : Shared), l = ys.drop i → Inv X pins σ H s → inW r X.K a ys b l H Q → wpAny (model X.prog X.w) X.A.in1 (Builtin.«list.__contains__.loop» ⟨[.ref a, .ref b, rawInt i], []⟩) (GQ.FinOf X.prog X.w X.A R) (fun e s' => R (.error e) s') s
  | [], i, H, s, el, I, hq => by
    obtain ⟨hS, q⟩ := hq
    obtain ⟨its, rl, pl, hz⟩ := I.list hS
    obtain ⟨⟨cls, dd, data, sl⟩, n, ho, hc, hd, hs⟩ := pl
    simp only at hc hd hs
    subst hc hd hs
    have hlen : ys.length ≤ i := List.drop_eq_nil_iff.mp el.symm
    have hR' := hR false H s I q
    have hl2 : its.length = ys.length := rl.length.symm
    obtain ⟨hp, g, d, tk, os⟩ := s
    wp_walk using AutoSeq1.wpAny_loadPart' ho
    have hi : its.toArray[((i : Nat) : Int).toNat]? = none := by simp; omega
    rw [hi]
    wp_walk
    exact hR'
  | y :: l, i, H, s, el, I, hq => by
    obtain ⟨hS, q⟩ := hq
    obtain ⟨its, rl, pl, hz⟩ := I.list hS
    obtain ⟨⟨cls, dd, data, sl⟩, n, ho, hc, hd, hs⟩ := pl
    simp only at hc hd hs
    subst hc hd hs
    have hy : ys[i]? = some y := by
      have : (ys.drop i)[0]? = some y := by rw [← el]; rfl
      rwa [List.getElem?_drop] at this
    obtain ⟨u, hu, ry⟩ : ∃ u, its[i]? = some u ∧ RelV y u := rl.get hy
    have step := eqBool_itm (A := X.A.in1) (Q := fun z H' => if z = true then Q true H' else inW r X.K a ys b l H' Q) h hr.in1 rfl I ry (q.imp (fun q => ⟨q.1, by simpa using q.2⟩) id)
    have rec_ := fun H' s' I' => in_loop (a := a) (b := b) h hE hr Q hR l (i + 1) H' s' (by rw [← List.tail_drop, ← el]; rfl) I'
    obtain ⟨hp, g, d, tk, os⟩ := s
    wp_walk using AutoSeq1.wpAny_loadPart' ho
    have hi : its.toArray[((i : Nat) : Int).toNat]? = some u := by simpa using hu
    rw [hi]
    refine wpAny_bind (wpAny_mono step (fun z s' hz => ?_) hE)
    obtain ⟨H', I', qz⟩ := hz
    cases z with
    | true =>
      have hR' := hR true H' s' I' (by simpa using qz)
      obtain ⟨hp2, g2, d2, tk2, os2⟩ := s'
      wp_walk
      exact hR'
    | false =>
      have hrec := rec_ H' s' I' (by simpa using qz)
      have hc : ((i : Int) + 1) = ((i + 1 : Nat) : Int) := by omega
      obtain ⟨hp2, g2, d2, tk2, os2⟩ := s'
      wp_walk
      rw [hc]
      exact ⟨plainId_quiet MeetsSeq.plain_contains_loop _, codeAny_builtin MeetsSeq.entry_contains_loop (by
        rw [Around.under_plainId MeetsSeq.plain_contains_loop _]
        exact hrec)⟩
theorem op_inO {r : R2} (h : RcO X k r) (hr : Rm (k + 1) X.A) : OpR X (compareOp .In) (rInO r X.K) := by
  intro pins s σ H x y u v Q I rx ry hq
  obtain ⟨b, a, ys, rfl, rfl, hq⟩ := hq
  cases (show u = Value.ref b from rx)
  cases (show v = Value.ref a from ry)
  have hS : SqL X.K H a ys := by cases ys with | nil => exact hq.1 | cons _ _ => exact hq.1
  obtain ⟨its, rl, pl, hz⟩ := I.list hS
  obtain ⟨o, n, ho, hc, _⟩ := pl
  have hT : s.TypeIs (.ref a) "list" := ⟨_, ho, hc⟩
  show wpAny _ X.A (contains (.ref a) (.ref b) >>= fun z => pure (Value.bool z)) _ _ s
  refine wpAny_bind (wpAny_contains_slot hT PySem.F.slot_list_contains (wpAny_mono (Q := fun (v : Value) s' => ∃ z, v = Value.bool z ∧ EP X pins σ Q (Value.bool z) s') (GQ.call_here PySem.F.slot_list_contains hT PySem.F.entry_list_contains (PySem.F.args_list_contains_2 _ _) ?_) (fun v s' hv => ?_) fun _ _ e => e))
  · have hrec := in_loop h (R := wants (fun v s' => ∃ z, v = .bool z ∧ EP X pins σ Q (.bool z) s') X.xe) (fun e s' x => x) hr (fun b H' => Q (.bl b) H') (fun z H' s' I' q => ⟨z, rfl, .bl z, H', I', rfl, q⟩) ys 0 H s rfl I hq
    obtain ⟨hp, g, d, tk, os⟩ := s
    wp_walk
    exact ⟨plainId_quiet MeetsSeq.plain_contains_loop _, codeAny_builtin MeetsSeq.entry_contains_loop (by
      rw [Around.under_plainId MeetsSeq.plain_contains_loop _]
      exact hrec)⟩
  · obtain ⟨z, rfl, hq⟩ := hv
    exact wpAny_truthy_bool (wpAny_pure hq)
theorem rco_LK (K : PySem.W.Frag) (hm : Meth K C "__eq__" f) (F : Fc X.prog X.w K X.mg X.base k f [] sp) (h : X.K = K := by rfl) : RcO X k (rEqL K C sp) := by
  subst h
  exact rco_L hm F
theorem rco_RK (K : PySem.W.Frag) (nb : NoBase K C) (hm : Meth K C "__eq__" f) (F : Fc X.prog X.w K X.mg X.base k f [] sp) (h : X.K = K := by rfl) : RcO X k (rEqR K C sp) := by
  subst h
  exact rco_R nb hm F
theorem op_inOK (K : PySem.W.Frag) {r : R2} (h : RcO X k r) (hr : Rm (k + 1) X.A) (e : X.K = K := by rfl) : OpR X (compareOp .In) (rInO r K) := by
  subst e
  exact op_inO h hr
end
end L3
set_option Elab.async false
set_option linter.all false
set_option maxRecDepth 100000
set_option maxHeartbeats 4000000
namespace L3
open PySem PySem.Spec PyProof.Rows L2 PySem.SeqAt PySem.Calls
end L3
set_option Elab.async false
set_option linter.all false
set_option maxRecDepth 100000
set_option maxHeartbeats 4000000
namespace L3
open PySem PySem.Spec PyProof.Rows L2 PySem.SeqAt PySem.Calls
end L3
set_option Elab.async false
set_option linter.all false
set_option maxRecDepth 100000
set_option maxHeartbeats 4000000
namespace L3
open PySem PySem.Spec PyProof.Rows L2 PySem.SeqAt PySem.Calls
end L3
set_option Elab.async false
set_option linter.all false
set_option maxRecDepth 100000
set_option maxHeartbeats 4000000
namespace L3
open PySem PySem.Spec PyProof.Rows L2
section
variable {p A B : Prop} [Decidable p]
theorem ifP (h : p) (q : A) : if decide p = true then A else B := by
  rw [decide_eq_true h]
  exact iteT q
theorem ifN (h : ¬ p) (q : B) : if decide p = true then A else B := by
  rw [decide_eq_false h]
  exact iteF q
end
theorem sz_big {n : Nat} (h : n ≤ 16000000) : n ≤ sizeLine := Nat.le_trans h (by rw [sizeLine_eq]; decide)
theorem sz_lt {n : Nat} (h : n ≤ 16000000) : n < sizeLine := Nat.lt_of_le_of_lt h (by rw [sizeLine_eq]; decide)
end L3
set_option Elab.async false
set_option linter.all false
set_option maxRecDepth 100000
set_option maxHeartbeats 4000000
namespace L3
open PySem PySem.Spec PyProof.Rows L2
structure FbN (P : Program) (w : World) (K : PySem.W.Frag) (mg : Str → Option Value) (base : Heap) (k : Nat) (f : Addr) (fd : FuncData) (ps : List Str) (sp : Sp) : Prop where
  len : ∀ vs H Q E, sp vs H Q E → vs.length = ps.length
  run : ∀ (A : Around) (outer : List Env) (s : Shared) (H : Hp) (args : Args) (us : List Value) (vs : List V) (Q : VK) (E : XK), Rm k A → Env0 P w K mg base A outer s H → BindsTo s fd args (ps.zip us) → Vals vs us → sp vs H Q E →
    codeAny (model P w) A (.call (.ref f) args) (CR (L2N.CX P w) outer P w H s Q E) s
section
variable {P : Program} {w : World} {K : PySem.W.Frag} {mg : Str → Option Value} {base : Heap} {x qual : Str} {params : Arguments} {body : List Stmt} {scope : Scope} {dvs : List V} {kws : List (Str × V)} {f : Addr} {fd : FuncData} {k : Nat} {ps N : List Str} {sp : Sp}
theorem fbN_of (F : FunD K x qual params body scope dvs kws f fd) (S : FnScope N ps scope) (len : ∀ vs H Q E, sp vs H Q E → vs.length = ps.length)
    (hbody : ∀ (cdv : Value) (A : Around) (outer : List Env) (s : Shared) (H : Hp) (vs : List V) (Q : VK) (E : XK), Rm k (A.deeper (envOfC qual scope s.heap.objs.size f cdv)) → sp vs H Q E →
      ∃ t, PSs (cxOf (L2N.CX P w) P w K mg base N qual scope f cdv A outer s H E) body t ∧ t { nx := fun _ H' => Q .non H', rt := Q } (start N vs) H) : FbN P w K mg base (k + 1) f fd ps sp := by
  obtain ⟨oc, od, dV, kV, doc, pm, an, cdv, ct, osl, rfl, lk, hcd, _, _⟩ := F.ex
  refine ⟨len, fun A outer s H args us vs Q E hr e0 hb r hsp => ?_⟩
  have hl := len _ _ _ _ hsp
  have KX : K.In s.heap := e0.mod.kin.keeps fun b o e => (e0.bs b o e).1
  have lim : s.heap.NoLimit := e0.mod.nolimit.keeps fun b o e => (e0.bs b o e).1
  have hkind : ∀ y ∈ ps.zip us, scope.names.lookup y.1 = some .local ∨ (scope.names.lookup y.1 = some .cell ∧ ((cellsFrom (s.heap.objs.size + 1) scope.names []).lookup y.1).isSome = true) := fun ⟨n, v⟩ hy => by
    rcases S.par n (List.of_mem_zip hy).1 with q | q
    · exact .inl q
    · exact .inr ⟨q, PySem.W.cellsFrom_some _ _ _ (.inl q)⟩
  refine codeAny_call_function hr.rm.depth (KX _ _ lk) rfl S.co S.gen rfl (PySem.W.codeRec_of KX hcd) (hb _ _ _ _ ?_)
  refine wpAny_newFunctionEnv_cells S.kind hkind fun env he s1 x => ?_
  subst he
  refine ⟨lim.keeps x.toInCall.keep, codeAny_func ?_⟩
  obtain ⟨t, ht, hq⟩ := hbody cdv A outer s H vs Q E (hr.deeper _) hsp
  have I : Inv (cxOf (L2N.CX P w) P w K mg base N qual scope f cdv A outer s H E) [] (start N vs) H s1 := inv_start S hr.rm.hd e0 hl r x
  refine wpAny_mono (ht.run [] s1 (start N vs) H _ I hq) (fun fl s' hs => ?_) fun e s' hs => hs
  have fin : ∀ {σ' : L2.St} {H' : Hp} {v : V} {u : Value}, Inv (cxOf (L2N.CX P w) P w K mg base N qual scope f cdv A outer s H E) [] σ' H' s' → RelV v u → Q v H' → CE outer P w H s Q u s' :=
    fun {σ' H' v u} J rv q => ⟨v, H', J.os, J.bare, J.base, J.hok, rv, q⟩
  cases fl with
  | ret u =>
    obtain ⟨v, σ', H', J, rv, q⟩ := hs
    exact fin J rv q
  | next =>
    obtain ⟨σ', H', J, q⟩ := hs
    exact fin (v := V.non) (u := Value.none) J rfl q
  | brk =>
    obtain ⟨_, _, _, q⟩ := hs
    exact False.elim q
  | cont =>
    obtain ⟨_, _, _, q⟩ := hs
    exact False.elim q
theorem FbN.mono {j : Nat} (F : FbN P w K mg base j f fd ps sp) (h : j ≤ k) : FbN P w K mg base k f fd ps sp := ⟨F.len, fun A outer s H args us vs Q E hr => F.run A outer s H args us vs Q E (hr.mono h)⟩
theorem FbN.imp {sp' : Sp} (F : FbN P w K mg base k f fd ps sp) (h : ∀ vs H Q E, sp' vs H Q E → sp vs H Q E) : FbN P w K mg base k f fd ps sp' :=
  ⟨fun vs H Q E q => F.len vs H Q E (h _ _ _ _ q), fun A outer s H args us vs Q E hr he hb hv hs => F.run A outer s H args us vs Q E hr he hb hv (h _ _ _ _ hs)⟩
def FcN (P : Program) (w : World) (K : PySem.W.Frag) (mg : Str → Option Value) (base : Heap) (k : Nat) (f : Addr) (ks : List Str) (sp : Sp) : Prop :=
  ∀ (A : Around) (outer : List Env) (s : Shared) (H : Hp) (us ws : List Value) (vs : List V) (Q : VK) (E : XK), Rm k A → Env0 P w K mg base A outer s H → Vals vs (us ++ ws) → ws.length = ks.length → sp vs H Q E →
    codeAny (model P w) A (.call (.ref f) ⟨us, ks.zip ws⟩) (CR (L2N.CX P w) outer P w H s Q E) s
theorem FcN.mono {j : Nat} {ks : List Str} (F : FcN P w K mg base j f ks sp) (h : j ≤ k) : FcN P w K mg base k f ks sp := fun A outer s H us ws vs Q E hr => F A outer s H us ws vs Q E (hr.mono h)
theorem FcN.imp {sp' : Sp} {ks : List Str} (F : FcN P w K mg base k f ks sp) (h : ∀ vs H Q E, sp' vs H Q E → sp vs H Q E) : FcN P w K mg base k f ks sp' :=
  fun A outer s H us ws vs Q E hr he hv hl hs => F A outer s H us ws vs Q E hr he hv hl (h _ _ _ _ hs)
/-- every parameter is given by place -/
theorem FbN.all (F : FbN P w K mg base k f fd ps sp) (hb : Binds K fd ps []) : FcN P w K mg base k f [] sp := fun A outer s H us ws vs Q E hr e0 r hl h => by
  cases ws with
  | cons w ws => cases hl
  | nil =>
    rw [List.append_nil] at r
    have KX : K.In s.heap := e0.mod.kin.keeps fun b o e => (e0.bs b o e).1
    have l2 : us.length = ps.length := by rw [← r.length]; exact F.len _ _ _ _ h
    have b := hb s us KX (by rw [List.append_nil]; exact l2)
    rw [List.append_nil] at b
    exact F.run A outer s H ⟨us, []⟩ us vs Q E hr e0 b r h
/-- all parameters given, some by name, no defaults -/
theorem FbN.names (D : FunD K x qual params body scope [] kws f fd) (F : FbN P w K mg base k f fd ps sp) (n : Nat) (ks : List Str) (g : {α : Type} → List α → List α)
    (hrel : ∀ {vs : List V} {us : List Value}, Vals vs us → Vals (g vs) (g us))
    (h : ∀ (kV doc pm : Value) (an : Option Addr) (cdv ct : Value) (us ws : List Value), us.length = n → ws.length = ks.length →
      bindArgs (PySem.W.fnOf x qual params body scope .none kV doc pm an cdv ct) ⟨us, ks.zip ws⟩ = pure (ps.zip (g (us ++ ws)))) :
    FcN P w K mg base k f ks (fun vs H Q E => vs.length = n + ks.length ∧ sp (g vs) H Q E) := by
  obtain ⟨oc, od, dV, kV, doc, pm, an, cdv, ct, osl, rfl, lk, hcd, hD, hK⟩ := D.ex
  rcases hD with ⟨_, rfl⟩ | ⟨e, _⟩
  · intro A outer s H us ws vs Q E hr e0 r hl hsp
    have l2 : us.length = n := by
      have e := r.length
      rw [hsp.1, List.length_append, hl] at e
      omega
    exact F.run A outer s H ⟨us, ks.zip ws⟩ (g (us ++ ws)) (g vs) Q E hr e0 (.of_eq (h kV doc pm an cdv ct us ws l2 hl)) (hrel r) hsp.2
  · exact absurd rfl e
end
theorem cxN {P : Program} {w : World} {outer : List Env} {H : Hp} {s : Shared} {E : XK} {u : Value} {s' : Shared} (h : L2N.CX P w outer H s E u s') : L2.CX P w outer H s E u s' := by
  obtain ⟨a, B, H', cls, d, e, fl, r⟩ := h
  exact ⟨a, B, H', cls, d, e, L2H.flyingZ_imp (fun o z => z.zc) fl, r⟩
theorem FcN.fc {P : Program} {w : World} {K : PySem.W.Frag} {mg : Str → Option Value} {base : Heap} {k : Nat} {f : Addr} {ks : List Str} {sp : Sp} (F : FcN P w K mg base k f ks sp) : Fc P w K mg base k f ks sp :=
  fun A outer s H us ws vs Q E hr e0 r hl h => codeAny_mono (F A outer s H us ws vs Q E hr e0 r hl h) fun r s' hq => by
    cases r with
    | error e => exact cxN hq
    | ok fl =>
      cases fl with
      | ret u => exact hq
      | next => exact hq
      | brk => exact hq
      | cont => exact hq
end L3
namespace L3
open PySem PySem.Spec PyProof.Rows L2 L2H HotX
end L3
set_option Elab.async false
set_option linter.all false
set_option maxRecDepth 100000
set_option maxHeartbeats 4000000
namespace L3
open PySem PySem.Spec PyProof.Rows L2
def wFst (K : PySem.W.Frag) (c : Value) (i : Nat) (ts : Addr → Value → Option Addr → TS) (D : Ends) : WX := fun cls d σ H =>
  PySem.W.exmOne K cls c = some true ∧ ∀ a, H a = none → ts a cls d { nx := fun σ' H' => D.nx (σ'.set i none) H', rt := D.rt, bk := fun σ' H' => D.bk (σ'.set i none) H', ct := fun σ' H' => D.ct (σ'.set i none) H' } (σ.set i (some (.ref a))) H
def tTryFst (K : PySem.W.Frag) (c : Value) (i : Nat) (ts : Addr → Value → Option Addr → TS) (tb : WX → TS) : TS := fun D σ H => tb (wFst K c i ts D) D σ H
section
variable {X : Cx} {x n : Str} {c : Value} {i : Nat} {body suite : List Stmt} {b₀ : Stmt} {np pos pos' : Pos} {tb : WX → TS} {ts : Addr → Value → Option Addr → TS} {hds : List ExceptHandler}
theorem ps_try_fst (hs : X.stack = X.env :: X.outer) (hf : X.env.frame = some X.env.locals) (hN : X.N.Nodup) (hi : X.N[i]? = some n) (hln : X.env.kindOf n = some .local) (hc : Names X x c)
    (hb : ∀ (W : WX) (pn : List (Addr × Obj)) (xe : Value → Shared → Prop), Takes (X.tr pn xe) W → PassesOwn (model X.prog X.w) X.A X.env xe → PSs (X.tr pn xe) body (tb W))
    (hsu : ∀ (a : Addr) (oe : Obj) (cls : Value) (d : Option Addr) (pn : List (Addr × Obj)), Zc cls d oe → (∃ vs, oe.data = .fields vs) → PSs (X.suite a ((a, oe) :: pn)) (b₀ :: suite) (ts a cls d)) :
    PS X (.Try body (.ExceptHandler (some (.Name x np)) (some n) (b₀ :: suite) pos' :: hds) [] [] pos) (tTryFst X.K c i ts tb) := by
  refine ⟨fun pins s σ H D I h => ?_⟩
  have ok := I.ok
  have hfr : X.A.frames = some (X.env :: X.outer) := by rw [ok.frames, hs]
  refine wpAny_Try_except ?_
  refine wpAny_mono ((hb (wFst X.K c i ts D) (X.pn ++ pins) (fun e s₁ => wpAny (model X.prog X.w) X.A (noteFrame e X.env) (fun _ s₂ => wpAny (model X.prog X.w) X.A (setFlight e none) (fun _ s₃ =>
    wpAny (model X.prog X.w) X.A (handleBy e X.env (.ExceptHandler (some (.Name x np)) (some n) (b₀ :: suite) pos' :: hds)) (SP X pins D) X.xe s₃) X.xe s₂) X.xe s₁) (fun u s' xx => ?_) PassesOwn.looking).run [] s σ H D (I.toTry _) h) (fun f s1 hsp => ?_) (fun e s1 he => he)
  · obtain ⟨a, B, sI, pins', σ', H', cls, d, rfl, J', nb, up, sky, na, os, ag, hb1, hyes⟩ := xx
    have J : Inv X pins σ' H' sI := J'.ofTry ok
    have sky' : Sky B (X.env :: X.outer) a (Zc cls d) X.env.locals s'.heap := by rw [← hs]; exact sky
    show wpAny (model X.prog X.w) X.A (noteFrame (.ref a) X.env) _ _ _
    refine Sky.land Zc.steady hfr hf sky' fun h3 fl3 up3 => ?_
    have J3 : Inv X pins σ' H' { s' with heap := h3 } := J.landed nb fl3.1 (up.trans up3) os ag
    obtain ⟨oe3, vs3, he3, hz3, hd3⟩ := fl3.there
    have nfr : a ∉ frs (X.env :: X.outer) := fun hm => by
      obtain ⟨_, o', e', hnf⟩ := fl3.2.2.1.mem hm
      rw [he3] at e'
      cases e'
      exact hnf _ hd3
    have nL : a ≠ X.env.locals := fun z => nfr (List.mem_filterMap.mpr ⟨X.env, List.mem_cons_self, by rw [hf, z]⟩)
    have nF : a ∉ X.fs := fun hm => by
      obtain ⟨e, he, q⟩ := List.mem_filterMap.mp hm
      exact nfr (List.mem_filterMap.mpr ⟨e, List.mem_cons_of_mem _ he, q⟩)
    have S3 := J3.suite he3 hd3 na nL nF
    refine wpAny_handleBy_cons (codeAny_handlers_test ?_) (by intro q; cases q)
    have LT : PySem.W.Looks (model X.prog X.w) h3 (typeOf (.ref a)) cls := fun A Q E s k q => wpAny_typeOf_ref (k _ _ he3) (by rw [hz3.1]; exact q)
    have LM := PySem.W.exm_one (M := model X.prog X.w) (J3.kIn) LT hb1
    have test : ∀ {Q : Value → Shared → Prop} {E : Value → Shared → Prop}, Q c { s' with heap := h3 } → wpAny (model X.prog X.w) (X.A.mark (some (.ref a))) (eval (.Name x np) X.env) Q E { s' with heap := h3 } := fun {Q E} q => by
      obtain ⟨hg, hdbg, hm | ⟨hm, hv, hnn⟩⟩ := hc
      · exact ld_glob (X := X.suite a ((a, oe3) :: (X.pn ++ pins))) S3 hg hm q hdbg
      · exact ld_blt (X := X.suite a ((a, oe3) :: (X.pn ++ pins))) S3 hg hm hv q hnn hdbg
    refine test (LM.here ?_)
    refine codeAny_handlers_suite_as ?_
    refine HandSPX.lands_againZ fl3 fun h4 fl4 up4 => ?_
    have J4 : Inv X pins σ' H' { s' with heap := h4 } := J.landed nb fl4.1 ((up.trans up3).trans up4) os ag
    obtain ⟨oe4, vs4, he4, hz4, hd4⟩ := fl4.there
    have S4 := J4.suite he4 hd4 na nL nF
    refine store_ok (X := X.suite a ((a, oe4) :: (X.pn ++ pins))) (v := .ref a) S4 hN hi (.inl hln) rfl (fun s5 S5 => ?_) (.inr hln)
    refine wpAny_mono ((hsu a oe4 cls d (X.pn ++ pins) hz4 ⟨_, hd4⟩).run [] s5 _ H' _ S5 (hyes a na)) (fun f s6 hsp => ?_) (fun _ _ z => False.elim z)
    have end_ : ∀ {σ6 : L2.St} {H6 : Hp} {Q : Shared → Prop}, Inv (X.suite a ((a, oe4) :: (X.pn ++ pins))) [] σ6 H6 s6 → (∀ s7, Inv X pins (σ6.set i none) H6 s7 → Q s7) →
        wpAny (model X.prog X.w) X.A (do bindName X.env n .none; unbindBehindTheSuite X.env n pos') (fun _ s7 => Q s7) X.xe s6 := fun {σ6 H6 Q} S6 hq => gone_ok (S6.unsuite ok) hN hi hln hq
    cases f with
    | next =>
      obtain ⟨σ6, H6, S6, q6⟩ := hsp
      exact end_ S6 fun s7 J7 => ⟨_, _, J7, q6⟩
    | brk =>
      obtain ⟨σ6, H6, S6, q6⟩ := hsp
      exact end_ S6 fun s7 J7 => ⟨_, _, J7, q6⟩
    | cont =>
      obtain ⟨σ6, H6, S6, q6⟩ := hsp
      exact end_ S6 fun s7 J7 => ⟨_, _, J7, q6⟩
    | ret u =>
      obtain ⟨v6, σ6, H6, S6, r6, q6⟩ := hsp
      exact end_ S6 fun s7 J7 => ⟨_, _, _, J7, r6, q6⟩
  · cases f with
    | next =>
      obtain ⟨σ6, H6, S6, q6⟩ := hsp
      exact wpAny_execs_nil ⟨_, _, S6.ofTry ok, q6⟩
    | brk =>
      obtain ⟨σ6, H6, S6, q6⟩ := hsp
      exact ⟨_, _, S6.ofTry ok, q6⟩
    | cont =>
      obtain ⟨σ6, H6, S6, q6⟩ := hsp
      exact ⟨_, _, S6.ofTry ok, q6⟩
    | ret u =>
      obtain ⟨v6, σ6, H6, S6, r6, q6⟩ := hsp
      exact ⟨_, _, _, S6.ofTry ok, r6, q6⟩
end
/-- o.m(e, ..) of a built-in type, the written part named -/
theorem pe_bmK {X : Cx} (K : PySem.W.Frag) {T id : String} {name : Str} {r : V → List V → Hp → VK → Prop} {o e : Expr} {es : List Expr} {to : TE} {t : TA} {apos cpos : Pos} (pa : PlainAttrs T) (slot : Slot T name id) (hty : typeOf (.builtin id) = pure (.type "method_descriptor")) (hm : MtR X id r) (ho : PE X o to) (ha : PA X (e :: es) t)
    (hK : X.K = K := by rfl)
    (hbase : attributeBase o name X.env (eval o X.env) = eval o X.env := by rfl)
    (hfew : ((backTo cpos (starEach (e :: es) X.env)).all (fun x => !x.1) && (backToKw cpos (keywordEach [] X.env)).all (fun x => x.1.isSome)
      && decide ((e :: es).length + ([] : List Keyword).length + (if ([] : List Keyword).isEmpty then 0 else 1) < 30)) = true := by rfl)
    (hline : (apos.endLine == cpos.line) = true := by rfl) (hs : starEach (e :: es) X.env = (false, eval e X.env) :: starEach es X.env := by rfl) (hplain : (backTo cpos (starEach es X.env)).any (·.1) = false := by rfl) :
    PE X (.Call (.Attribute o name apos) (e :: es) [] cpos) (tBM K T r to t) := hK ▸ pe_bm pa slot hty hm ho ha hbase hfew hline hs hplain
end L3
set_option Elab.async false
set_option linter.all false
set_option maxRecDepth 100000
set_option maxHeartbeats 4000000
namespace L3
open PySem PySem.Spec PyProof.Rows L2
def Stays (H H' : Hp) (x : V) : Prop := ∀ a o, x = .ref a → H a = some o → H' a = some o
theorem tyOf_at {K : PySem.W.Frag} {H H' : Hp} {x : V} {t : Value} (e : Stays H H' x) (h : TyOf K H x t) : TyOf K H' x t := by
  cases h with
  | non => exact .non
  | bl x => exact .bl x
  | int i => exact .int i
  | str x => exact .str x
  | flt x => exact .flt x
  | lst h => exact .lst (e _ _ rfl h)
  | frz h => exact .frz (e _ _ rfl h)
  | tup h => exact .tup (e _ _ rfl h)
  | dK h => exact .dK (e _ _ rfl h)
  | dT h => exact .dT (e _ _ rfl h)
  | ins h cl ha hn htk hm => exact .ins (e _ _ rfl h) cl ha hn htk hm
theorem tyX_at {K : PySem.W.Frag} {H H' : Hp} {x : V} {t : Value} (e : Stays H H' x) (h : TyX K H x t) : TyX K H' x t := by
  cases h with
  | base h => exact .base (tyOf_at e h)
  | byt b => exact .byt b
  | set h => exact .set (e _ _ rfl h)
  | kList h c => exact .kList h c
  | kTuple h c => exact .kTuple h c
  | kDict h c => exact .kDict h c
  | fTuple h => exact .fTuple (e _ _ rfl h)
  | fDict h => exact .fDict (e _ _ rfl h)
theorem Cl.at {K : PySem.W.Frag} {H H' : Hp} {x : V} (c : Cl K H x) (e : Stays H H' x) : Cl K H' x := let ⟨t, b, d, h1, h2⟩ := c; ⟨t, b, d, tyX_at e h1, h2⟩
end L3
set_option Elab.async false
set_option linter.all false
set_option maxRecDepth 100000
set_option maxHeartbeats 4000000
namespace L3
open PySem PySem.Spec PyProof.Rows L2
def obsA (as : List Addr) (xf : List Fx) (fn : List He.DefD) (g : Addr → Option Obj) : He.AlD := obsX xf fn (He.frG g as)
def hookA (as : List Addr) (xf : List Fx) (fn : List He.DefD) : PySem.W.Hook where
  α := He.AlD
  obs := fun s => obsA as xf fn s.heap.get?
  val := fun _ => He.valD fn
  says := fun _ h => ∃ K : PySem.W.Frag, K.In h ∧ SaysX xf fn K
  of := fun _ _ e => ⟨_, He.frG_in, e⟩
  keeps := fun _ _ _ ⟨K, hK, c⟩ k => ⟨K, PySem.W.Frag.In.keeps hK k, c⟩
theorem obsA_eq {as : List Addr} {xf : List Fx} {fn : List He.DefD} {g : Addr → Option Obj} {s : Shared} (h : ∀ a, g a = s.heap.get? a) : obsA as xf fn g = (hookA as xf fn).obs s := by
  have e : g = s.heap.get? := funext h
  rw [e] <;> rfl
end L3
noncomputable section
namespace HandSHeadRun
open PySem PySem.W PySem.Calls PyProof.Rows
abbrev endR (r : OpenRow) (M : Nat) (w : World) (os : OsState) : Option SharedT := endF (stepQ (denQ tabQ) r.prog w) M r.prog w os
/-- what the machine's own looks say behind the run -/
def RunA (r : OpenRow) (q : Program) (M : Nat) (loose : List PySem.Str) (w : World) : Prop :=
  ∀ os : OsState, (endR r M w os).map (fun s => (looksF r.prog (boot_heap w.params) s.abs, seenQ q loose (importedModules r.prog.main.body) (fun s => xlAt q [] s && recOk r.toRowW.records s) s.abs)) = some (true, openGood q loose)
/-- some facts of what stands behind the run -/
def RunB (r : OpenRow) (M : Nat) (fs : SharedT → Bool) (w : World) : Prop := ∀ os : OsState, (endR r M w os).map fs = some true
/-- the defs' own values -/
def RunC (r : OpenRow) (H : Hook) (ob : SharedT → H.α) (M : Nat) (w : World) : Prop := ∀ os : OsState, (endR r M w os).map ob = some (H.val w)
theorem runEq_of {r : OpenRow} {q : Program} {H : Hook} {ob : SharedT → H.α} {M : Nat} {loose : List PySem.Str} {w : World} (a : RunA r q M loose w) (c : RunC r H ob M w) : RunEq r q H ob M loose w := fun os => by
  have h1 := a os
  have h2 := c os
  show (endR r M w os).map _ = _
  cases e : endR r M w os with
  | none =>
    rw [e] at h1
    cases h1
  | some s =>
    rw [e] at h1 h2
    have g1 := Option.some.inj h1
    have g2 := Option.some.inj h2
    show some _ = some _
    rw [← g2]
    have e1 := congrArg Prod.fst g1
    have e2 := congrArg Prod.snd g1
    dsimp only at e1 e2 ⊢
    rw [e1, e2]
end HandSHeadRun
end
namespace L3
open PySem PySem.Spec PyProof.Rows L2 HandSHeadRun
/-- the facts in three parts: two of the Bools, one of the defs -/
theorem runC_of {r : PySem.W.OpenRow} {as : List Addr} {xf xf1 xf2 : List Fx} {fn : List He.DefD} {M : Nat} {w : World} (e : xf = xf1 ++ xf2)
    (a : RunB r M (fun s => xf1.all fun p => p (He.frG (getT s) as)) w) (b : RunB r M (fun s => xf2.all fun p => p (He.frG (getT s) as)) w)
    (c : ∀ os : OsState, (endR r M w os).map (fun s => (fn.all fun d => d.ok (He.frG (getT s) as), fn.map fun d => He.fnW (He.frG (getT s) as) d.at_)) = some (true, fn.map He.DefD.val)) :
    RunC r (hookA as xf fn) (fun s => obsA as xf fn (getT s)) M w := fun os => by
  have h1 := a os
  have h2 := b os
  have h3 := c os
  cases e2 : endR r M w os with
  | none =>
    rw [e2] at h1
    cases h1
  | some s =>
    rw [e2] at h1 h2 h3
    have g1 : (xf1.all fun p => p (He.frG (getT s) as)) = true := Option.some.inj h1
    have g2 : (xf2.all fun p => p (He.frG (getT s) as)) = true := Option.some.inj h2
    have g3 := Option.some.inj h3
    have e3 := congrArg Prod.fst g3
    have e4 := congrArg Prod.snd g3
    dsimp only at e3 e4
    show some (obsA as xf fn (getT s)) = some (He.valD fn)
    unfold obsA obsX He.valD
    rw [e, List.all_append, g1, g2, e3, e4]
    rfl
end L3
set_option Elab.async false
set_option linter.all false
set_option maxRecDepth 100000
set_option maxHeartbeats 4000000
namespace L3
open PySem PySem.Spec PyProof.Rows L2
end L3
namespace L3
open PySem PySem.Spec PyProof.Rows L2
/-- at a a list or a tuple of these -/
def SqS (K : PySem.W.Frag) (H : Hp) (a : Addr) (xs : List V) : Prop := SqL K H a xs ∨ SqT K H a xs
theorem SqS.at {K : PySem.W.Frag} {H H' : Hp} {a : Addr} {xs : List V} (h : SqS K H a xs) (e : Stays H H' (.ref a)) : SqS K H' a xs := by
  rcases h with ((h | ⟨o, h⟩) | h) | ((h | ⟨o, h⟩) | h)
  · exact .inl (.inl (.inl (e _ _ rfl h)))
  · exact .inl (.inl (.inr ⟨o, e _ _ rfl h⟩))
  · exact .inl (.inr h)
  · exact .inr (.inl (.inl (e _ _ rfl h)))
  · exact .inr (.inl (.inr ⟨o, e _ _ rfl h⟩))
  · exact .inr (.inr h)
theorem stays_ex {H H' : Hp} {x : V} (e : Ex H H') : Stays H H' x := fun a o _ h => e a o h
theorem SqS.mono {K : PySem.W.Frag} {H H' : Hp} {a : Addr} {xs : List V} (h : SqS K H a xs) (e : Ex H H') : SqS K H' a xs := h.at (stays_ex e)
theorem sqL_at {K : PySem.W.Frag} {H H' : Hp} {a : Addr} {xs : List V} (h : SqL K H a xs) (e : Stays H H' (.ref a)) : SqL K H' a xs := by
  rcases h with (h | ⟨o, h⟩) | h
  · exact .inl (.inl (e _ _ rfl h))
  · exact .inl (.inr ⟨o, e _ _ rfl h⟩)
  · exact .inr h
theorem sqT_at {K : PySem.W.Frag} {H H' : Hp} {a : Addr} {xs : List V} (h : SqT K H a xs) (e : Stays H H' (.ref a)) : SqT K H' a xs := by
  rcases h with (h | ⟨o, h⟩) | h
  · exact .inl (.inl (e _ _ rfl h))
  · exact .inl (.inr ⟨o, e _ _ rfl h⟩)
  · exact .inr h
/-- what is a list or a tuple, walked: J stands for either walk, G for what it asks of a heap -/
def iSeqB (K : PySem.W.Frag) (tl : TE) : TI := fun σ H R => tl σ H fun v H1 => ∃ a xs, v = .ref a ∧ SqS K H1 a xs ∧ ∀ J G, L2.Walk J xs.length G (L2.YAt xs) → (∀ H', Stays H1 H' (.ref a) → G H') → R J H1
theorem pi_seqB {X : Cx} {tg l : Expr} {tl : TE} (hl : PE X l tl) (K : PySem.W.Frag) (hK : X.K = K := by rfl) : PI X tg l (iSeqB K tl) := by
  subst hK
  refine ⟨fun pins s σ H R I h => ?_⟩
  refine thn (hl.run pins s σ H _ I h) fun v s1 ⟨x, H1, I1, r1, a, xs, e, hq, q⟩ => ?_
  subst e
  cases r1
  rcases hq with hq | hq
  · have q1 := q (Itl X.K a) (fun H => SqL X.K H a xs) L2.walk_list fun H' e => sqL_at hq e
    obtain ⟨its, rv, p, hz⟩ := I1.list hq
    refine wpAny_pyIter_list p.isList ?_
    refine ⟨s1.heap.objs.size, [s1.heap.objs.size], _, _, H1, rfl, I1.kept (t' := s1.toks) fun b o e => Heap.get?_push_of_some _ e, turn_list a _, ⟨_, Heap.get?_push_size _ rfl, rfl, rfl⟩, fun b hb => ?_, q1⟩
    have e : b = s1.heap.objs.size := by simpa using hb
    subst e
    exact I1.fpOk (Nat.le_refl _) (I1.hok.fresh (Nat.le_refl _))
  · have q1 := q (Itt X.K a) (fun H => SqT X.K H a xs) L2.walk_tup fun H' e => sqT_at hq e
    obtain ⟨its, rv, p, hz⟩ := I1.tuple hq
    refine wpAny_pyIter_tuple (show s1.heap.IsTuple a its.toArray from p) ?_
    refine ⟨s1.heap.objs.size, [s1.heap.objs.size], _, _, H1, rfl, I1.kept (t' := s1.toks) fun b o e => Heap.get?_push_of_some _ e, turn_tuple a _, ⟨_, Heap.get?_push_size _ rfl, rfl, rfl⟩, fun b hb => ?_, q1⟩
    have e : b = s1.heap.objs.size := by simpa using hb
    subst e
    exact I1.fpOk (Nat.le_refl _) (I1.hok.fresh (Nat.le_refl _))
end L3
set_option Elab.async false
set_option linter.all false
set_option maxRecDepth 100000
set_option maxHeartbeats 4000000
namespace L3
open PySem PySem.Spec PyProof.Rows L2
end L3
set_option Elab.async false
set_option linter.all false
set_option maxRecDepth 100000
set_option maxHeartbeats 4000000
namespace L3
open PySem PySem.Spec PySem.Calls PyProof.Rows
section
open PySem.W
variable {prog : Program} {w : World} {A : Around} {E : Value → Shared → Prop} {s : Shared} {K : Frag} {x D : Addr} {ox : Obj} {od : Option Obj}
theorem findObj_dataA {C : Addr} {name : Str} {a g : Value} (hc : (clsIn K C).isSome = true) (ha : findIn K (.ref C) name = some (some a)) (hg : specialIn K a "__get__" = some (some g)) (ht : takesIn K a = some true) : findObj K C od name = some (.bind g a) := by
  obtain ⟨cd, hc⟩ := Option.isSome_iff_exists.mp hc
  unfold findObj
  rw [hc, Option.bind_some, ha, Option.bind_some]
  simp [hg, ht]
/-- e.__class__, with or without fields of its own -/
theorem kin_classA {Q : Option Value → Shared → Prop} (C : L2.ExcC K D) (X : K.In s.heap) (I : W.InstAt s.heap x ox D od) (h : Q (some (.ref D)) { s with toks := s.toks + 1 }) : wpAny (model prog w) A (getAttr? (.ref x) "__class__") Q E s := by
  have hf : findObj K D od "__class__" = some (.bind (.builtin "getset_descriptor.__get__") (.builtin "object.__class__")) := findObj_dataA (by obtain ⟨cd, hc, _⟩ := any_some C.hd; rw [hc]; rfl) C.ha C.hn C.ht
  obtain ⟨hp, g, d, t, os⟩ := s
  have L0 := I.type (M := model prog w)
  have L1 := looks_findIn (M := model prog w) X C.hg
  have L2 := looks_findIn (M := model prog w) X C.hk
  have L3 := looks_find (M := model prog w) X I hf
  have sub : Looks (model prog w) hp (isInstance (.ref x) (.type "BaseException")) true := L0.andThen (looks_subIn X C.hs)
  have hx0 : (false && onTheHeap (Value.builtin "BaseException.__getattribute__")) = false := rfl
  have hx2 : (Value.builtin "BaseException.__getattribute__" == Value.builtin "object.__getattribute__") = false := by decide +kernel
  have hx1 : (onTheHeap (Value.ref D) && Value.builtin "BaseException.__getattribute__" == Value.builtin "object.__getattribute__") = false := by rw [hx2]; rfl
  unfold getAttr? getAttrBy? getAttrBy
  refine wpAny_bind (wpAny_mkText (wpAny_bind (wpAny_attempt (wpAny_holding (wpAny_bind (L0.at (wpAny_bind (L1.at ?_))))))))
  show wpAny _ _ (if (onTheHeap (Value.ref D) && Value.builtin "BaseException.__getattribute__" == Value.builtin "object.__getattribute__") = true then _ else _) _ _ _
  rw [hx1, if_neg Bool.false_ne_true]
  unfold getAttrByItsOwn hookBefore
  refine wpAny_bind ?_
  rw [if_pos (show onTheHeap (Value.ref D) = true from rfl)]
  refine L2.at ?_
  refine wpAny_bind (wpAny_attempt (wpAny_holding ?_))
  unfold callGetattribute
  rw [hx0, if_neg Bool.false_ne_true]
  unfold boundAndCalled
  rw [PySem.F.excAttr_ValueError.ga.bind (.ref x)]
  refine wpAny_bind (wpAny_pure ?_)
  show wpAny _ _ (call (.builtin "BaseException.__getattribute__") [.ref x, .str "__class__" t]) _ _ _
  refine wpAny_call (codeAny_call_builtin PySem.F.excAttr_ValueError.ga.plain PySem.F.entry_bexc_ga ?_)
  refine @check_slot (model prog w) _ _ ⟨hp, g, d, t + 1, os⟩ "BaseException.__getattribute__" "BaseException" "__getattribute__" (.ref x) [.str "__class__" t] [] _ (by decide +kernel) (by decide +kernel) sub (PySem.F.args_bexc_ga (.ref x) (.str "__class__" t)) ?_
  unfold Builtin.«object.__getattribute__»
  refine wpAny_bind (wpAny_of_eq (a := ((Value.ref x : Value), [Value.str "__class__" t])) (by first | rfl | (simp only [slotArgs]; rfl)) ?_)
  refine wpAny_bind (wpAny_pure (wpAny_bind (L0.at (wpAny_bind (L3.at ?_)))))
  show wpAny _ _ (holding [Value.builtin "object.__class__"] (call (.builtin "getset_descriptor.__get__") [.builtin "object.__class__", .ref x, .ref D]) >>= ret) _ _ _
  refine wpAny_bind (wpAny_holding (wpAny_call (class_get (s := ⟨hp, g, d, t + 1, os⟩) (ox := ox) (od := od) X I C.hm ?_)))
  refine wpAny_pure ?_
  show wpAny _ _ (handedOut (.ref D)) _ _ _
  rw [handedOut_of (v := .ref D) rfl]
  first
    | exact wpAny_pure (wpAny_pure h)
    | exact wpAny_pure h
    | exact wpAny_pure (wpAny_bind (wpAny_pure (wpAny_pure h)))
theorem kitx_excA (C : L2.ExcC K D) : KitX K (.ref x) (.ref D) (fun h => W.InstAt h x ox D od) where
  ty := fun _ _ _ I => I.type
  it := fun _ _ X _ => by
    obtain ⟨cdD, hcD, _⟩ := any_some C.hd
    unfold clsIn at hcD
    split at hcD
    · rename_i c' d' cd' sl' ho
      intro A' Q' E' s' k q
      unfold isType loadHead
      exact wpAny_bind (wpAny_loadPart (k _ _ (X _ _ ho)) (wpAny_pure q))
    · cases hcD
  ne := fun h tp dd its n sl X htp => by
    obtain ⟨cdD, hcD, _⟩ := any_some C.hd
    refine Bool.eq_false_iff.mpr fun q => ?_
    have e : D = tp := Value.ref.inj (beq_iff_eq.mp q)
    subst e
    unfold clsIn at hcD
    split at hcD
    · rename_i c' d' cd' sl' ho
      have z := (X _ _ ho).symm.trans htp
      cases z
    · cases hcD
  ca := fun X I k => kin_classA C X I k
end
open L2
/-- the exception's own fields, if it has any -/
def XdAt (H : Hp) (d : Option Addr) : Prop := d = none ∨ ∃ dd fs, d = some dd ∧ H dd = some (.xd fs)
section
variable {X : Cx} {a D : Addr} {oe : Obj} {cls : Value} {d : Option Addr} {pins : List (Addr × Obj)} {s : Shared} {σ : L2.St} {H : Hp}
theorem pin_inst (I : Inv X pins σ H s) (hp : (a, oe) ∈ X.pn) (hz : Zc (.ref D) d oe) (hf : ∃ vs, oe.data = .fields vs) (hd : XdAt H d) : ∃ od, PySem.W.InstAt s.heap a oe D od := by
  obtain ⟨hget, _⟩ := I.pin (a, oe) (List.mem_append.mpr (.inl hp))
  obtain ⟨vs, hv⟩ := hf
  obtain ⟨oc, odd, oda, osl⟩ := oe
  obtain ⟨h1, h2⟩ := hz
  dsimp only at h1 h2 hv
  subst h1 h2 hv
  rcases hd with rfl | ⟨dd, fs, rfl, hdd⟩
  · exact ⟨none, hget, rfl, rfl, trivial⟩
  · have hx : ObjOk X.prog X.w H s.heap dd (.xd fs) := I.hok dd _ hdd
    obtain ⟨mA, hns, _⟩ := hx
    obtain ⟨od, ho, _⟩ := lookIn_ns hns
    exact ⟨some od, hget, rfl, rfl, ho⟩
/-- isinstance(e, C), isinstance(e, (C, ..)), e the exception -/
def rIsP (K : PySem.W.Frag) (a : Addr) (cls : Value) (d : Option Addr) : List V → Hp → VK → Prop := fun xs H Q => ∃ (D : Addr) (c : V) (cv : Value) (b : Bool), cls = .ref D ∧ ExcC K D ∧ XdAt H d ∧ xs = [.ref a, c] ∧ ClsV c cv ∧ PySem.W.kitOne K (.ref D) cv = some b ∧ Q (.bl b) H
def rIsPT (K : PySem.W.Frag) (a : Addr) (cls : Value) (d : Option Addr) : List V → Hp → VK → Prop := fun xs H Q => ∃ (D tp : Addr) (cs : List V) (us : List Value) (b : Bool), cls = .ref D ∧ ExcC K D ∧ XdAt H d ∧ xs = [.ref a, .ref tp] ∧ H tp = some (.tup cs) ∧ Paired ClsV cs us ∧ PySem.W.kitAny K (.ref D) us = some b ∧ Q (.bl b) H
theorem call_isP (K : PySem.W.Frag) (hp : (a, oe) ∈ X.pn) (hz : Zc cls d oe) (hf : ∃ vs, oe.data = .fields vs) (hK : X.K = K := by rfl) : CallR X (.builtin "isinstance") (rIsP K a cls d) := by
  subst hK
  intro pins s σ H xs us Q I r h
  obtain ⟨D, c, cv, b, rfl, C, hd, rfl, k, e, q⟩ := h
  obtain ⟨u1, u2, rfl, r1, r2⟩ := vals2 r
  have e2 := k.eq r2
  subst e2
  cases (show u1 = Value.ref a from r1)
  obtain ⟨od, J⟩ := pin_inst I hp hz hf hd
  exact PySem.W.kia_one (kitx_excA C) I.kIn J e (fun z => nomatch z) fun tk => ⟨.bl b, H, I.kept (t' := tk) fun _ _ z => z, rfl, q⟩
theorem call_isPT (K : PySem.W.Frag) (hp : (a, oe) ∈ X.pn) (hz : Zc cls d oe) (hf : ∃ vs, oe.data = .fields vs) (hK : X.K = K := by rfl) : CallR X (.builtin "isinstance") (rIsPT K a cls d) := by
  subst hK
  intro pins s σ H xs us Q I r h
  obtain ⟨D, tp, cs, ws, b, rfl, C, hd, rfl, hT, k, e, q⟩ := h
  obtain ⟨u1, u2, rfl, r1, r2⟩ := vals2 r
  cases (show u1 = Value.ref a from r1)
  cases (show u2 = Value.ref tp from r2)
  obtain ⟨_, its, rv, o, h1, h2, n, h3⟩ := (show ObjOk X.prog X.w H s.heap tp (.tup cs) from I.hok tp _ hT)
  have e3 := ClsV.all k rv
  subst e3
  obtain ⟨oc, odd, dt, sl⟩ := o
  simp only at h2 h3
  subst h2 h3
  obtain ⟨od, J⟩ := pin_inst I hp hz hf hd
  exact PySem.W.kia_tup (kitx_excA C) I.kIn J h1 e (fun z => nomatch z) fun tk => ⟨.bl b, H, I.kept (t' := tk) fun _ _ z => z, rfl, q⟩
end
abbrev SpP := Addr × Obj → Sp
structure FbP (P : Program) (w : World) (K : PySem.W.Frag) (mg : Str → Option Value) (base : Heap) (k : Nat) (f : Addr) (fd : FuncData) (ps : List Str) (sp : SpP) : Prop where
  len : ∀ p vs H Q E, sp p vs H Q E → vs.length = ps.length
  run : ∀ (A : Around) (outer : List Env) (s : Shared) (H : Hp) (args : Args) (us : List Value) (vs : List V) (Q : VK) (E : XK) (p : Addr × Obj), L2H.RoomH k A → L2H.PinOk outer H s p → Env0 P w K mg base A outer s H → BindsTo s fd args (ps.zip us) → Vals vs us → sp p vs H Q E →
    codeAny (model P w) A (.call (.ref f) args) (CR (L2.CX P w) outer P w H s Q E) s
section
variable {P : Program} {w : World} {K : PySem.W.Frag} {mg : Str → Option Value} {base : Heap} {x qual : Str} {params : Arguments} {body : List Stmt} {scope : Scope} {dvs : List V} {kws : List (Str × V)} {f : Addr} {fd : FuncData} {k : Nat} {ps N : List Str} {sp : SpP}
theorem fbP_of (F : FunD K x qual params body scope dvs kws f fd) (S : FnScope N ps scope) (len : ∀ p vs H Q E, sp p vs H Q E → vs.length = ps.length)
    (hbody : ∀ (cdv : Value) (A : Around) (outer : List Env) (s : Shared) (H : Hp) (vs : List V) (Q : VK) (E : XK) (p : Addr × Obj), L2H.RoomH k (A.deeper (envOfC qual scope s.heap.objs.size f cdv)) → sp p vs H Q E →
      ∃ t, PSs (L2H.cxH (L2.CX P w) P w K mg base N qual scope f cdv A outer s H E p) body t ∧ t { nx := fun _ H' => Q .non H', rt := Q } (L2.start N vs) H) : FbP P w K mg base (k + 1) f fd ps sp := by
  obtain ⟨oc, od, dV, kV, doc, pm, an, cdv, ct, osl, rfl, lk, hcd, _, _⟩ := F.ex
  refine ⟨len, fun A outer s H args us vs Q E p hr hpin e0 hb r hsp => ?_⟩
  have hl := len _ _ _ _ _ hsp
  have KX : K.In s.heap := e0.mod.kin.keeps fun b o e => (e0.bs b o e).1
  have lim : s.heap.NoLimit := e0.mod.nolimit.keeps fun b o e => (e0.bs b o e).1
  have hkind : ∀ y ∈ ps.zip us, scope.names.lookup y.1 = some .local ∨ (scope.names.lookup y.1 = some .cell ∧ ((cellsFrom (s.heap.objs.size + 1) scope.names []).lookup y.1).isSome = true) := fun ⟨n, v⟩ hy => by
    rcases S.par n (List.of_mem_zip hy).1 with q | q
    · exact .inl q
    · exact .inr ⟨q, PySem.W.cellsFrom_some _ _ _ (.inl q)⟩
  refine codeAny_call_function hr.depth (KX _ _ lk) rfl S.co S.gen rfl (PySem.W.codeRec_of KX hcd) (hb _ _ _ _ ?_)
  refine wpAny_newFunctionEnv_cells S.kind hkind fun env he s1 x => ?_
  subst he
  refine ⟨lim.keeps x.toInCall.keep, codeAny_func ?_⟩
  obtain ⟨t, ht, hq⟩ := hbody cdv A outer s H vs Q E p (hr.deeper _) hsp
  have I : Inv (L2H.cxH (L2.CX P w) P w K mg base N qual scope f cdv A outer s H E p) [] (L2.start N vs) H s1 := L2H.inv_startH S hpin e0 hl r x
  refine wpAny_mono (ht.run [] s1 (L2.start N vs) H _ I hq) (fun fl s' hs => ?_) fun e s' hs => hs
  have fin : ∀ {σ' : L2.St} {H' : Hp} {v : V} {u : Value}, Inv (L2H.cxH (L2.CX P w) P w K mg base N qual scope f cdv A outer s H E p) [] σ' H' s' → RelV v u → Q v H' → CE outer P w H s Q u s' :=
    fun {σ' H' v u} J rv q => ⟨v, H', J.os, J.bare, J.base, J.hok, rv, q⟩
  cases fl with
  | ret u =>
    obtain ⟨v, σ', H', J, rv, q⟩ := hs
    exact fin J rv q
  | next =>
    obtain ⟨σ', H', J, q⟩ := hs
    exact fin (v := V.non) (u := Value.none) J rfl q
  | brk =>
    obtain ⟨_, _, _, q⟩ := hs
    exact False.elim q
  | cont =>
    obtain ⟨_, _, _, q⟩ := hs
    exact False.elim q
/-- such a def called with all parameters by place -/
def FcP (P : Program) (w : World) (K : PySem.W.Frag) (mg : Str → Option Value) (base : Heap) (k : Nat) (f : Addr) (sp : SpP) : Prop :=
  ∀ (A : Around) (outer : List Env) (s : Shared) (H : Hp) (us : List Value) (vs : List V) (Q : VK) (E : XK) (p : Addr × Obj), L2H.RoomH k A → L2H.PinOk outer H s p → Env0 P w K mg base A outer s H → Vals vs us → sp p vs H Q E →
    codeAny (model P w) A (.call (.ref f) ⟨us, []⟩) (CR (L2.CX P w) outer P w H s Q E) s
theorem FcP.mono {j : Nat} (F : FcP P w K mg base j f sp) (h : j ≤ k) : FcP P w K mg base k f sp := fun A outer s H us vs Q E p hr => F A outer s H us vs Q E p (hr.mono h)
theorem FbP.all (F : FbP P w K mg base k f fd ps sp) (hb : Binds K fd ps []) : FcP P w K mg base k f sp := fun A outer s H us vs Q E p hr hp e0 r h => by
  have KX : K.In s.heap := e0.mod.kin.keeps fun b o e => (e0.bs b o e).1
  have l2 : us.length = ps.length := by rw [← r.length]; exact F.len _ _ _ _ _ h
  have b := hb s us KX (by rw [List.append_nil]; exact l2)
  rw [List.append_nil] at b
  exact F.run A outer s H ⟨us, []⟩ us vs Q E p hr hp e0 b r h
end
theorem roomM {k : Nat} {A : Around} {v : Option Value} (r : Rm k A) : L2H.RoomH k (A.mark v) := ⟨r.rm.dp, r.rm.un⟩
/-- the caught exception handed to a def -/
def tFcP (a : Addr) (cls : Value) (d : Option Addr) (sp : SpP) (W : WX) (t : TA) : TE := fun σ H Q => t σ H fun vs H1 => ∀ oe : Obj, Zc cls d oe → (∃ vs, oe.data = .fields vs) → sp (a, oe) vs H1 Q (WE W σ)
section
variable {X : Cx} {k : Nat} {f : Addr} {sp : SpP} {W : WX} {x : Str} {p pos : Pos} {e : Expr} {es : List Expr} {t : TA} {a : Addr} {oe : Obj} {cls : Value} {d : Option Addr}
theorem c_callP (F : FcP X.prog X.w X.K X.mg X.base k f sp) (hr : L2H.RoomH k X.A) (hp : (a, oe) ∈ X.pn) (hz : Zc cls d oe) (hf : ∃ vs, oe.data = .fields vs) (hm : X.mg x = some (.ref f)) (hk : PySem.W.keepIn X.K (.ref f) = true) (hx : Takes X W)
    (ha : PA X (e :: es) t) (hg : Gl X x := by rfl) (hdb : (x == ("__debug__" : Str)) = false := by decide) (he : starEach (e :: es) X.env = (false, eval e X.env) :: starEach es X.env := by rfl) (hpl : (backTo pos (starEach es X.env)).any (·.1) = false := by rfl) :
    PE X (.Call (.Name x p) (e :: es) [] pos) (tFcP a cls d sp W t) := by
  refine ⟨fun pins s σ H Q I h => ?_⟩
  refine wpAny_Call_Name_kw (ld_glob I hg hm ?_ hdb)
  refine PySem.W.callWith_K (h₀ := X.base) I.ok.mod.kin hk (thn (ha.run pos pins s σ H _ I h) fun us s1 ⟨vs, H1, I1, r, q⟩ => ⟨I1.kIn, ?_⟩) he hpl
  have P1 := I1.pin (a, oe) (List.mem_append_left _ hp)
  have hpin : L2H.PinOk X.stack H1 s1 (a, oe) := ⟨P1.1, P1.2.1, fun hm => (List.mem_cons.mp (I1.stkSub a hm)).elim P1.2.2.1 P1.2.2.2.1, P1.2.2.2.2⟩
  refine wpAny_call (codeAny_mono (F X.A X.stack s1 H1 us vs Q (WE W σ) (a, oe) hr hpin I1.env0 r (q oe hz hf)) fun r s' hq => ?_)
  cases r with
  | error e => exact passAt hx σ pins H1 s1 e s' I1 hq
  | ok fl =>
    cases fl with
    | ret u => exact I1.after hq
    | next => exact False.elim hq
    | brk => exact False.elim hq
    | cont => exact False.elim hq
end
end L3
set_option Elab.async false
set_option linter.all false
set_option maxRecDepth 100000
set_option maxHeartbeats 4000000
namespace L3
open PySem PySem.Spec PyProof.Rows L2 PySem.SeqAt PySem.Calls
/-- a class without an == of its own -/
structure NoEq (K : PySem.W.Frag) (C : Addr) : Prop where
  nb : NoBase K C
  eq : PySem.W.findIn K (.ref C) "__eq__" = some (some (.builtin "object.__eq__"))
section
variable {prog : Program} {w : World} {A : Around} {E : Value → Shared → Prop} {s : Shared} {K : PySem.W.Frag} {x C dx : Addr} {ox : Obj} {od : Option Obj} {v : Value}
/-- isSame answers False -/
abbrev NSame (s : Shared) (u v : Value) : Prop := ∀ (M : Model) (A : Around) (E : Value → Shared → Prop) (Q : Bool → Shared → Prop), Q false s → wpAny M A (isSame u v) Q E s
theorem objEq_no {Q : Fin → Shared → Prop} (n : NSame s (.ref x) v) (hq : Q (.done (.ret .notImplemented)) s) : wpAny (model prog w) A (Builtin.«object.__eq__» ⟨[.ref x, v], []⟩) Q E s := by
  unfold Builtin.«object.__eq__»
  repeat (first | with_reducible refine n _ _ _ _ ?_ | wp_step)
  exact hq
theorem call_objEq_no {Q : Value → Shared → Prop} (X : K.In s.heap) (I : PySem.W.InstAt s.heap x ox C od) (nq : NoEq K C) (n : NSame s (.ref x) v) (hq : Q .notImplemented s) : wpAny (model prog w) A (call (.builtin "object.__eq__") [.ref x, v]) Q E s :=
  wpAny_call (codeAny_call_builtin F.cmp_object.eq.plain F.cmpEntry_eq (PySem.W.check_slot F.cmpKind_eq F.cmpSplit_eq (I.type.andThen (PySem.W.looks_mroIn X nq.nb.ob)) (F.cmpArgs_eq _ _) (objEq_no n hq)))
/-- the instance's == declines -/
theorem try_no {Q : Option Value → Shared → Prop} (X : K.In s.heap) (I : PySem.W.InstAt s.heap x ox C od) (nq : NoEq K C) (n : NSame s (.ref x) v) (hq : Q none s) : wpAny (model prog w) A (tryCompare (.ref x) "__eq__" v) Q E s := by
  unfold tryCompare
  exact wpAny_bind (HN.ifBound_objEq X I nq.eq (call_objEq_no X I nq n (wpAny_pure hq)))
theorem sub_base {T : String} (h : ((fastBuiltinMro T).map fun l => l.any fun v => match v with | .ref _ => true | _ => false) = some false) : PySem.W.subIn K (.type T) (.ref C) = some false := by
  show (fastBuiltinMro T).map (·.contains (.ref C)) = some false
  cases e : fastBuiltinMro T with
  | none => rw [e] at h; cases h
  | some l =>
    rw [e] at h
    have h2 : (l.any fun v => match v with | .ref _ => true | _ => false) = false := Option.some.inj h
    show some (l.contains (.ref C)) = some false
    congr 1
    rw [List.contains_eq_any_beq]
    refine Bool.eq_false_iff.mpr fun z => ?_
    obtain ⟨y, hy, e2⟩ := List.any_eq_true.mp z
    have e3 : Value.ref C = y := eq_of_beq e2
    subst e3
    exact absurd (List.any_eq_true.mpr ⟨_, hy, rfl⟩) (by rw [h2]; decide)
theorem nsame_non (s : Shared) (x : Addr) : NSame s (.ref x) .none ∧ NSame s .none (.ref x) := ⟨fun M A E Q h => wpAny_of_eq (rfl : isSame (.ref x) .none = pure false) h, fun M A E Q h => wpAny_of_eq (rfl : isSame .none (.ref x) = pure false) h⟩
theorem nsame_bl (s : Shared) (x : Addr) (b : Bool) : NSame s (.ref x) (.bool b) ∧ NSame s (.bool b) (.ref x) := ⟨fun M A E Q h => wpAny_of_eq (rfl : isSame (.ref x) (.bool b) = pure false) h, fun M A E Q h => wpAny_of_eq (rfl : isSame (.bool b) (.ref x) = pure false) h⟩
theorem nsame_int (s : Shared) (x : Addr) (i : Int) (t : Tok) : NSame s (.ref x) (.int i t) ∧ NSame s (.int i t) (.ref x) := ⟨fun M A E Q h => wpAny_of_eq (rfl : isSame (.ref x) (.int i t) = pure false) h, fun M A E Q h => wpAny_of_eq (rfl : isSame (.int i t) (.ref x) = pure false) h⟩
theorem nsame_str (s : Shared) (x : Addr) (i : Str) (t : Tok) : NSame s (.ref x) (.str i t) ∧ NSame s (.str i t) (.ref x) := ⟨fun M A E Q h => wpAny_of_eq (rfl : isSame (.ref x) (.str i t) = pure false) h, fun M A E Q h => wpAny_of_eq (rfl : isSame (.str i t) (.ref x) = pure false) h⟩
theorem nsame_ref {x y : Addr} {ox oy : Obj} (ne : x ≠ y) (hx : s.heap.get? x = some ox) (hy : s.heap.get? y = some oy) (h : ox.cls ≠ .type "tuple" ∨ oy.cls ≠ .type "tuple") : NSame s (.ref x) (.ref y) := fun M A E Q q => by
  rcases h with h | h
  · exact wpAny_isSame_ref_other ne hx hy h q
  · exact wpAny_isSame_ref_other' ne hx hy h q
end
section
variable {X : Cx} {k : Nat} {f C D : Addr} {sp : Sp} {pins : List (Addr × Obj)} {σ : L2.St} {H : Hp} {s : Shared}
/-- a value that declines, looked at from all sides -/
structure DecAt (K : PySem.W.Frag) (C : Addr) (s : Shared) (x : Addr) (u : Value) (T : String) : Prop where
  ty : s.TypeIs u T
  one : oneThing? .Eq u (.ref x) = none
  mro : PySem.W.mroIn K C (.type T) = some false
  sub : PySem.W.subIn K (.type T) (.ref C) = some false
  nl : NSame s u (.ref x)
  nr : NSame s (.ref x) u
  ne : (u == Value.ref x) = false
  try_ : ∀ (prog : Program) (w : World) (A : Around) (E : Value → Shared → Prop) (Q' : Option Value → Shared → Prop), Q' none s → wpAny (model prog w) A (tryCompare u "__eq__" (.ref x)) Q' E s
theorem dec_at {x dx : Addr} {od : Option Obj} {z : V} {u : Value} (I : Inv X pins σ H s) (r : RelV z u) (d : Dec X.K H z) (J : PySem.W.InstAt s.heap x (PySem.W.instObj C dx) C od) (nb : NoBase X.K C) : ∃ T, DecAt X.K C s x u T := by
  have nt : (PySem.W.instObj C dx).cls ≠ .type "tuple" := fun e => by
    have := J.cls
    rw [e] at this
    cases this
  cases d with
  | non =>
    cases (show u = Value.none from r)
    exact ⟨"NoneType", rfl, rfl, nb.non, sub_base (by decide +kernel), (nsame_non s x).2, (nsame_non s x).1, rfl, fun prog w A E Q' h => wpAny_tryCompare_declines (show s.TypeIs .none "NoneType" from rfl) F.slot_NoneType_eq (call_gives F.slot_NoneType_eq rfl F.entry_NoneType_eq (F.args_NoneType_eq_2 _ _) (NoneType___eq___none_ref_0 x) ⟨rfl, h⟩)⟩
  | bl b =>
    cases (show u = Value.bool b from r)
    exact ⟨"bool", rfl, rfl, nb.bl, sub_base (by decide +kernel), (nsame_bl s x b).2, (nsame_bl s x b).1, rfl, fun prog w A E Q' h => wpAny_tryCompare_declines (show s.TypeIs (.bool b) "bool" from rfl) F.slot_bool_eq (call_meets F.slot_bool_eq rfl F.entry_int_eq (F.args_int_eq_2 _ _) (bool_dec_ins b x C dx) ⟨J.at_, rfl, h⟩)⟩
  | int i =>
    obtain ⟨t, e⟩ := (show ∃ t, u = Value.int i t from r)
    cases e
    exact ⟨"int", typeIs_int s i t, rfl, nb.int, sub_base (by decide +kernel), (nsame_int s x i t).2, (nsame_int s x i t).1, rfl, fun prog w A E Q' h => wpAny_tryCompare_declines (typeIs_int s i t) F.slot_int_eq (call_meets F.slot_int_eq (typeIs_int s i t) F.entry_int_eq (F.args_int_eq_2 _ _) (int_dec_ins i t x C dx) ⟨J.at_, rfl, h⟩)⟩
  | str z =>
    obtain ⟨t, e⟩ := (show ∃ t, u = Value.str z t from r)
    cases e
    exact ⟨"str", typeIs_str s z t, rfl, nb.str, sub_base (by decide +kernel), (nsame_str s x z t).2, (nsame_str s x z t).1, rfl, fun prog w A E Q' h => wpAny_tryCompare_declines (typeIs_str s z t) F.slot_str_eq (call_meets F.slot_str_eq (typeIs_str s z t) F.entry_str_eq (F.args_str_eq_2 _ _) (str_dec_ins z t x C dx) ⟨J.at_, rfl, h⟩)⟩
  | @lst a xs e =>
    cases (show u = Value.ref a from r)
    obtain ⟨its, rl, pl, hz⟩ := I.list e
    obtain ⟨o, n, ho, hc, _⟩ := pl
    have hT : s.TypeIs (.ref a) "list" := ⟨_, ho, hc⟩
    have ne : a ≠ x := fun z => by
      rw [z, J.at_] at ho
      cases ho
      cases J.cls.symm.trans hc
    exact ⟨"list", hT, oneThing_ref _ _ _, nb.lst, sub_base (by decide +kernel), nsame_ref ne ho J.at_ (.inr nt), nsame_ref (Ne.symm ne) J.at_ ho (.inl nt), beq_eq_false_iff_ne.mpr fun z => ne (Value.ref.inj z), fun prog w A E Q' h => wpAny_tryCompare_declines hT F.slot_list_eq (wpAny_call_entry F.slot_list_eq hT F.entry_list_eq (list_dec_ins a I.kIn J nb.lst ⟨_, rfl, rfl, h⟩) (F.args_list_eq_2 _ _))⟩
  | @tup a xs e =>
    cases (show u = Value.ref a from r)
    obtain ⟨its, rl, ⟨o, ho, hc, n, d⟩, hz⟩ := I.tuple e
    have hT : s.TypeIs (.ref a) "tuple" := ⟨_, ho, hc⟩
    have ne : a ≠ x := fun z => by
      rw [z, J.at_] at ho
      cases ho
      cases J.cls.symm.trans hc
    exact ⟨"tuple", hT, oneThing_ref _ _ _, nb.tup, sub_base (by decide +kernel), nsame_ref ne ho J.at_ (.inr nt), nsame_ref (Ne.symm ne) J.at_ ho (.inl nt), beq_eq_false_iff_ne.mpr fun z => ne (Value.ref.inj z), fun prog w A E Q' h => wpAny_tryCompare_declines hT F.slot_tuple_eq (wpAny_call_entry F.slot_tuple_eq hT F.entry_tuple_eq (tuple_dec_ins a I.kIn J nb.tup ⟨_, rfl, rfl, h⟩) (F.args_tuple_eq_2 _ _))⟩
  | @dK a kvs e =>
    cases (show u = Value.ref a from r)
    have hT : s.TypeIs (.ref a) "dict" := by
      obtain ⟨_, _, vs, _, hD⟩ := (show ObjOk _ _ H s.heap a (.dK kvs) from I.hok a _ e)
      exact hD.typeIs
    obtain ⟨o, ho, hc⟩ := id hT
    have ne : a ≠ x := fun z => by
      rw [z, J.at_] at ho
      cases ho
      cases J.cls.symm.trans hc
    exact ⟨"dict", hT, oneThing_ref _ _ _, nb.dct, sub_base (by decide +kernel), nsame_ref ne ho J.at_ (.inr nt), nsame_ref (Ne.symm ne) J.at_ ho (.inl nt), beq_eq_false_iff_ne.mpr fun z => ne (Value.ref.inj z), fun prog w A E Q' h => wpAny_tryCompare_declines hT F.slot_dict_eq (wpAny_call_entry F.slot_dict_eq hT F.entry_dict_eq (dict_dec_ins a hT I.kIn J nb.dct ⟨_, rfl, rfl, h⟩) (F.args_dict_eq_2 _ _))⟩
theorem rc_dL {A : Around} {K : PySem.W.Frag} {x dx : Addr} {od : Option Obj} {u : Value} {T : String} (hu : A.units < cLine) (KX : K.In s.heap) (J : PySem.W.InstAt s.heap x (PySem.W.instObj C dx) C od) (nq : NoEq K C) (d : DecAt K C s x u T) : RcAt A s (.ref x) u false := fun prog w E Q h => by
  simp only [richCompare, cmpInfo_Eq, oneThing_ref]
  refine wpAny_holding (wpAny_bind (wpAny_cRoomFor hu ?_))
  refine wpAny_bind (J.type.here (wpAny_bind (wpAny_typeOf d.ty ?_)))
  split
  · refine wpAny_bind ((PySem.W.looks_subIn KX d.sub).here ?_)
    simp only [Bool.false_eq_true, if_false, Bool.not_false, if_true]
    refine wpAny_bind (m := tryCompare (.ref x) _ u) (try_no KX J nq d.nr ?_)
    refine wpAny_bind (m := tryCompare u _ (.ref x)) (d.try_ _ _ _ _ _ ?_)
    exact wpAny_bind (wpAny_rule (wpAny_bind (d.nr _ _ _ _ (wpAny_pure h))))
  · rename_i q
    exact absurd (by simp) q
theorem rc_dR {A : Around} {K : PySem.W.Frag} {x dx : Addr} {od : Option Obj} {u : Value} {T : String} (hu : A.units < cLine) (KX : K.In s.heap) (J : PySem.W.InstAt s.heap x (PySem.W.instObj C dx) C od) (nq : NoEq K C) (d : DecAt K C s x u T) : RcAt A s u (.ref x) false := fun prog w E Q h => by
  simp only [richCompare, cmpInfo_Eq, d.one]
  refine wpAny_holding (wpAny_bind (wpAny_cRoomFor hu ?_))
  refine wpAny_bind (wpAny_typeOf d.ty (wpAny_bind (J.type.here ?_)))
  split
  · refine wpAny_bind ((PySem.W.looks_mroIn KX d.mro).here ?_)
    simp only [Bool.false_eq_true, if_false, Bool.not_false, if_true]
    refine wpAny_bind (m := tryCompare u _ (.ref x)) (d.try_ _ _ _ _ _ ?_)
    refine wpAny_bind (m := tryCompare (.ref x) _ u) (try_no KX J nq d.nr ?_)
    exact wpAny_bind (wpAny_rule (wpAny_bind (d.nl _ _ _ _ (wpAny_pure h))))
  · rename_i q
    exact absurd (by simp) q
/-- two instances -/
theorem rc_II {A : Around} {K : PySem.W.Frag} {x y dx dy : Addr} {od oe : Option Obj} (hu : A.units < cLine) (KX : K.In s.heap) (J : PySem.W.InstAt s.heap x (PySem.W.instObj C dx) C od) (L : PySem.W.InstAt s.heap y (PySem.W.instObj D dy) D oe) (nq : NoEq K C) (nr : NoEq K D) (ne : x ≠ y) (hn : NoSub K C (.ref D)) : RcAt A s (.ref x) (.ref y) false := fun prog w E Q h => by
  have n1 : NSame s (.ref x) (.ref y) := nsame_ref ne J.at_ L.at_ (.inl fun e => by have := J.cls; rw [e] at this; cases this)
  have n2 : NSame s (.ref y) (.ref x) := nsame_ref (Ne.symm ne) L.at_ J.at_ (.inl fun e => by have := L.cls; rw [e] at this; cases this)
  simp only [richCompare, cmpInfo_Eq, oneThing_ref]
  refine wpAny_holding (wpAny_bind (wpAny_cRoomFor hu ?_))
  refine wpAny_bind (J.type.here (wpAny_bind (L.type.here ?_)))
  split
  · rename_i q
    refine wpAny_bind ((noSub_look hn KX q).here ?_)
    simp only [Bool.false_eq_true, if_false, Bool.not_false, if_true]
    refine wpAny_bind (m := tryCompare (.ref x) _ (.ref y)) (try_no KX J nq n1 ?_)
    refine wpAny_bind (m := tryCompare (.ref y) _ (.ref x)) (try_no KX L nr n2 ?_)
    exact wpAny_bind (wpAny_rule (wpAny_bind (n1 _ _ _ _ (wpAny_pure h))))
  · refine wpAny_bind (wpAny_pure ?_)
    simp only [Bool.false_eq_true, if_false, Bool.not_false, if_true]
    refine wpAny_bind (m := tryCompare (.ref x) _ (.ref y)) (try_no KX J nq n1 ?_)
    refine wpAny_bind (m := tryCompare (.ref y) _ (.ref x)) (try_no KX L nr n2 ?_)
    exact wpAny_bind (wpAny_rule (wpAny_bind (n1 _ _ _ _ (wpAny_pure h))))
theorem eqAt_rc {A : Around} {u v : Value} (ne : (u == v) = false) (h : RcAt A s u v false) (hr : (∃ a, v = .ref a) ∨ ∃ a, u = .ref a) : EqAt A s u v false := fun prog w E Q q => by
  unfold eqBool
  refine wpAny_holding ?_
  refine wpAny_ite_split (fun hab => absurd hab (by rw [ne]; decide)) (fun _ => ?_)
  have fin : wpAny (model prog w) A (richCompare .Eq u v >>= fun v => truthOfDropped v) Q E s := wpAny_bind (h prog w E _ (wpAny_truthy_bool q))
  rcases hr with ⟨a, rfl⟩ | ⟨a, rfl⟩
  · cases u <;> exact fin
  · cases v <;> exact fin
end
end L3
set_option Elab.async false
set_option linter.all false
set_option maxRecDepth 100000
set_option maxHeartbeats 4000000
namespace L3
open PySem PySem.Spec PyProof.Rows L2 PySem.SeqAt PySem.Calls
/-- two values whose == answers False and runs no code of ours -/
inductive PureNe (K : PySem.W.Frag) (H : Hp) : V → V → Prop where
  | L {a C dx : Addr} {fs : List (Str × V)} {y : V} (ha : H a = some (.ins C dx fs)) (nq : NoEq K C) (d : Dec K H y) : PureNe K H (.ref a) y
  | R {a C dx : Addr} {fs : List (Str × V)} {y : V} (ha : H a = some (.ins C dx fs)) (nq : NoEq K C) (d : Dec K H y) : PureNe K H y (.ref a)
  | I {a b C D dx dy : Addr} {fs gs : List (Str × V)} (ha : H a = some (.ins C dx fs)) (hb : H b = some (.ins D dy gs)) (nq : NoEq K C) (nr : NoEq K D) (ne : a ≠ b) (hn : NoSub K C (.ref D)) : PureNe K H (.ref a) (.ref b)
  | LF {a : Addr} {xs : List V} {y : V} (ha : SqL K H a xs) (f : flatV y = true) : PureNe K H (.ref a) y
  | FL {a : Addr} {xs : List V} {y : V} (ha : SqL K H a xs) (f : flatV y = true) : PureNe K H y (.ref a)
  | TF {a : Addr} {xs : List V} {y : V} (ha : SqT K H a xs) (f : flatV y = true) : PureNe K H (.ref a) y
  | FT {a : Addr} {xs : List V} {y : V} (ha : SqT K H a xs) (f : flatV y = true) : PureNe K H y (.ref a)
  | DF {a : Addr} {kvs : List (Key × V)} {y : V} (ha : H a = some (.dK kvs)) (f : flatV y = true) : PureNe K H (.ref a) y
  | FD {a : Addr} {kvs : List (Key × V)} {y : V} (ha : H a = some (.dK kvs)) (f : flatV y = true) : PureNe K H y (.ref a)
section
variable {prog : Program} {w : World} {A : Around} {E : Value → Shared → Prop} {s : Shared} {d : Addr}
theorem dict_eq_no {v : Value} {T : String} (hT : s.TypeIs (.ref d) "dict") (hv : s.TypeIs v T) (hs : isSubtype (.type T) (.type "dict") = pure false) {Q : Value → Shared → Prop} (h : Q .notImplemented s) : wpAny (model prog w) A (call (.builtin "dict.__eq__") [.ref d, v]) Q E s := by
  refine wpAny_call_entry F.slot_dict_eq hT F.entry_dict_eq ?_ (F.args_dict_eq_2 _ _)
  show wpAny _ _ (Builtin.Dict.dictSlotArgs "__eq__" ⟨[.ref d, v], []⟩ >>= _) _ _ s
  refine wpAny_bind ?_
  unfold Builtin.Dict.dictSlotArgs
  refine wpAny_bind (wpAny_notOrdered_dict hT ?_)
  show wpAny _ _ (pure (Value.ref d, v)) _ _ s
  refine wpAny_pure ?_
  have ni : ∀ {M : Model} {A : Around} {E : Value → Shared → Prop} {Q : Bool → Shared → Prop}, Q false s → wpAny M A (isInstance v (.type "dict")) Q E s := fun {M A E Q} q => by
    unfold isInstance
    exact wpAny_bind (wpAny_typeOf hv (wpAny_of_eq hs q))
  refine wpAny_bind (ni ?_)
  simp only [Bool.not_false, if_true]
  refine wpAny_bind (wpAny_rule ?_)
  exact wpAny_pure ⟨_, rfl, h⟩
theorem int_dict_no (b : Int) (u : Tok) (l : Addr) : Meets (Builtin.«int.__eq__» ⟨[.int b u, .ref l], []⟩) (fun _ R s => (∃ o es ep, s.heap.get? l = some o ∧ o.cls = .type "dict" ∧ o.data = .dict es ep) ∧ R (.ok (.ret .notImplemented)) s) :=
  .of_wp fun prog w A R s h => by
    obtain ⟨hp, g, d, tk, os⟩ := s
    obtain ⟨⟨⟨oc, od, oda, osl⟩, es, ep, hl, hc, hd⟩, h⟩ := h
    simp only at hc hd
    subst hc hd
    wp_walk using wpAny_loadPart' hl, wpAny_load hl
    exact ⟨_, rfl, h⟩
theorem bool_dict_no (b : Bool) (l : Addr) : Meets (Builtin.«int.__eq__» ⟨[.bool b, .ref l], []⟩) (fun _ R s => (∃ o es ep, s.heap.get? l = some o ∧ o.cls = .type "dict" ∧ o.data = .dict es ep) ∧ R (.ok (.ret .notImplemented)) s) :=
  .of_wp fun prog w A R s h => by
    obtain ⟨hp, g, d, tk, os⟩ := s
    obtain ⟨⟨⟨oc, od, oda, osl⟩, es, ep, hl, hc, hd⟩, h⟩ := h
    simp only at hc hd
    subst hc hd
    wp_walk using wpAny_loadPart' hl, wpAny_load hl
    exact ⟨_, rfl, h⟩
theorem str_dict_no (b : Str) (u : Tok) (l : Addr) : Meets (Builtin.«str.__eq__» ⟨[.str b u, .ref l], []⟩) (fun _ R s => (∃ o es ep, s.heap.get? l = some o ∧ o.cls = .type "dict" ∧ o.data = .dict es ep) ∧ R (.ok (.ret .notImplemented)) s) :=
  .of_wp fun prog w A R s h => by
    obtain ⟨hp, g, d, tk, os⟩ := s
    obtain ⟨⟨⟨oc, od, oda, osl⟩, es, ep, hl, hc, hd⟩, h⟩ := h
    simp only at hc hd
    subst hc hd
    wp_walk using wpAny_loadPart' hl, wpAny_load hl
    exact ⟨_, rfl, h⟩
end
section
variable {X : Cx} {k : Nat} {f C D : Addr} {sp : Sp} {pins : List (Addr × Obj)} {σ : L2.St} {H : Hp} {s : Shared}
theorem flat_ne {y : V} {u : Value} {a : Addr} (r : RelV y u) (h : flatV y = true) : (u == Value.ref a) = false ∧ (Value.ref a == u) = false := by
  cases y with
  | non => cases (show u = Value.none from r); exact ⟨rfl, rfl⟩
  | bl b => cases (show u = Value.bool b from r); exact ⟨rfl, rfl⟩
  | int i => obtain ⟨t, rfl⟩ := (show ∃ t, u = Value.int i t from r); exact ⟨rfl, rfl⟩
  | str z => obtain ⟨t, rfl⟩ := (show ∃ t, u = Value.str z t from r); exact ⟨rfl, rfl⟩
  | _ => cases h
theorem rc_seqF {A : Around} {y : V} {u : Value} {a : Addr} {its : Array Value} (hu : A.units < cLine) (r : RelV y u) (h : flatV y = true) (hl : s.heap.IsList a its) : RcAt A s (.ref a) u false ∧ RcAt A s u (.ref a) false := by
  cases y with
  | non => cases (show u = Value.none from r); exact ⟨.list_none hl hu, .none_list hl hu⟩
  | bl b => cases (show u = Value.bool b from r); exact ⟨.list_bool b hl hu, .bool_list b hl hu⟩
  | int i => obtain ⟨t, rfl⟩ := (show ∃ t, u = Value.int i t from r); exact ⟨.list_int i t hl hu, .int_list i t hl hu⟩
  | str z => obtain ⟨t, rfl⟩ := (show ∃ t, u = Value.str z t from r); exact ⟨.list_str z t hl hu, .str_list z t hl hu⟩
  | _ => cases h
theorem rc_tupF {A : Around} {y : V} {u : Value} {a : Addr} {its : Array Value} (hu : A.units < cLine) (r : RelV y u) (h : flatV y = true) (hl : s.heap.IsTuple a its) : RcAt A s (.ref a) u false ∧ RcAt A s u (.ref a) false := by
  cases y with
  | non => cases (show u = Value.none from r); exact ⟨.tuple_none hl hu, .none_tuple hl hu⟩
  | bl b => cases (show u = Value.bool b from r); exact ⟨.tuple_bool b hl hu, .bool_tuple b hl hu⟩
  | int i => obtain ⟨t, rfl⟩ := (show ∃ t, u = Value.int i t from r); exact ⟨.tuple_int i t hl hu, .int_tuple i t hl hu⟩
  | str z => obtain ⟨t, rfl⟩ := (show ∃ t, u = Value.str z t from r); exact ⟨.tuple_str z t hl hu, .str_tuple z t hl hu⟩
  | _ => cases h
theorem rc_dctF {A : Around} {y : V} {u : Value} {a : Addr} (hu : A.units < cLine) (r : RelV y u) (h : flatV y = true) (ho : ∃ o es ep, s.heap.get? a = some o ∧ o.cls = .type "dict" ∧ o.data = .dict es ep) : RcAt A s (.ref a) u false ∧ RcAt A s u (.ref a) false := by
  have hT : s.TypeIs (.ref a) "dict" := let ⟨o, _, _, h1, h2, _⟩ := ho; ⟨o, h1, h2⟩
  cases y with
  | non =>
    cases (show u = Value.none from r)
    have hN : s.TypeIs .none "NoneType" := rfl
    have c1 : ∀ {prog : Program} {w : World} {E : Value → Shared → Prop} (Q' : Value → Shared → Prop), Q' .notImplemented s → wpAny (model prog w) A (call (.builtin "NoneType.__eq__") [.none, .ref a]) Q' E s := fun {prog w E} Q' q => call_gives F.slot_NoneType_eq rfl F.entry_NoneType_eq (F.args_NoneType_eq_2 _ _) (NoneType___eq___none_ref_0 a) q
    exact ⟨fun prog w E Q q => rc_eq_decline_or (k := false) hT hN (by decide) F.sub_NoneType_dict F.slot_dict_eq F.slot_NoneType_eq_refl (fun _ hq => dict_eq_no hT hN F.sub_NoneType_dict hq) (fun _ hq => c1 _ hq) (fun _ hq => wpAny_of_eq (rfl : isSame (.ref a) .none = pure false) hq) (.inr hu) q,
      fun prog w E Q q => rc_eq_decline_or (k := false) hN hT (by decide) F.sub_dict_NoneType F.slot_NoneType_eq F.slot_dict_eq_refl (fun _ hq => c1 _ hq) (fun _ hq => dict_eq_no hT hN F.sub_NoneType_dict hq) (fun _ hq => wpAny_of_eq (rfl : isSame .none (.ref a) = pure false) hq) (.inr hu) q⟩
  | bl b =>
    cases (show u = Value.bool b from r)
    have hN : s.TypeIs (.bool b) "bool" := rfl
    have c1 : ∀ {prog : Program} {w : World} {E : Value → Shared → Prop} (Q' : Value → Shared → Prop), Q' .notImplemented s → wpAny (model prog w) A (call (.builtin "int.__eq__") [.bool b, .ref a]) Q' E s := fun {prog w E} Q' q => call_meets F.slot_bool_eq hN F.entry_int_eq (F.args_int_eq_2 _ _) (bool_dict_no b a) ⟨ho, q⟩
    exact ⟨fun prog w E Q q => rc_eq_decline_or (k := false) hT hN (by decide) F.sub_bool_dict F.slot_dict_eq F.slot_bool_eq_refl (fun _ hq => dict_eq_no hT hN F.sub_bool_dict hq) (fun _ hq => c1 _ hq) (fun _ hq => wpAny_of_eq (rfl : isSame (.ref a) (.bool b) = pure false) hq) (.inr hu) q,
      fun prog w E Q q => rc_eq_decline_or (k := false) hN hT (by decide) F.sub_dict_bool F.slot_bool_eq F.slot_dict_eq_refl (fun _ hq => c1 _ hq) (fun _ hq => dict_eq_no hT hN F.sub_bool_dict hq) (fun _ hq => wpAny_of_eq (rfl : isSame (.bool b) (.ref a) = pure false) hq) (.inr hu) q⟩
  | int i =>
    obtain ⟨t, rfl⟩ := (show ∃ t, u = Value.int i t from r)
    have hN := typeIs_int s i t
    have c1 : ∀ {prog : Program} {w : World} {E : Value → Shared → Prop} (Q' : Value → Shared → Prop), Q' .notImplemented s → wpAny (model prog w) A (call (.builtin "int.__eq__") [.int i t, .ref a]) Q' E s := fun {prog w E} Q' q => call_meets F.slot_int_eq hN F.entry_int_eq (F.args_int_eq_2 _ _) (int_dict_no i t a) ⟨ho, q⟩
    exact ⟨fun prog w E Q q => rc_eq_decline_or (k := false) hT hN (by decide) F.sub_int_dict F.slot_dict_eq F.slot_int_eq_refl (fun _ hq => dict_eq_no hT hN F.sub_int_dict hq) (fun _ hq => c1 _ hq) (fun _ hq => wpAny_of_eq (rfl : isSame (.ref a) (.int i t) = pure false) hq) (.inr hu) q,
      fun prog w E Q q => rc_eq_decline_or (k := false) hN hT (by decide) F.sub_dict_int F.slot_int_eq F.slot_dict_eq_refl (fun _ hq => c1 _ hq) (fun _ hq => dict_eq_no hT hN F.sub_int_dict hq) (fun _ hq => wpAny_of_eq (rfl : isSame (.int i t) (.ref a) = pure false) hq) (.inr hu) q⟩
  | str z =>
    obtain ⟨t, rfl⟩ := (show ∃ t, u = Value.str z t from r)
    have hN := typeIs_str s z t
    have c1 : ∀ {prog : Program} {w : World} {E : Value → Shared → Prop} (Q' : Value → Shared → Prop), Q' .notImplemented s → wpAny (model prog w) A (call (.builtin "str.__eq__") [.str z t, .ref a]) Q' E s := fun {prog w E} Q' q => call_meets F.slot_str_eq hN F.entry_str_eq (F.args_str_eq_2 _ _) (str_dict_no z t a) ⟨ho, q⟩
    exact ⟨fun prog w E Q q => rc_eq_decline_or (k := false) hT hN (by decide) F.sub_str_dict F.slot_dict_eq F.slot_str_eq_refl (fun _ hq => dict_eq_no hT hN F.sub_str_dict hq) (fun _ hq => c1 _ hq) (fun _ hq => wpAny_of_eq (rfl : isSame (.ref a) (.str z t) = pure false) hq) (.inr hu) q,
      fun prog w E Q q => rc_eq_decline_or (k := false) hN hT (by decide) F.sub_dict_str F.slot_str_eq F.slot_dict_eq_refl (fun _ hq => c1 _ hq) (fun _ hq => dict_eq_no hT hN F.sub_str_dict hq) (fun _ hq => wpAny_of_eq (rfl : isSame (.str z t) (.ref a) = pure false) hq) (.inr hu) q⟩
  | _ => cases h
theorem pure_rc {A : Around} {x y : V} {u v : Value} (I : Inv X pins σ H s) (r1 : RelV x u) (r2 : RelV y v) (p : PureNe X.K H x y) (hu : A.units < cLine) : RcAt A s u v false ∧ (u == v) = false ∧ ((∃ a, v = .ref a) ∨ ∃ a, u = .ref a) := by
  cases p with
  | @L a C dx fs _ ha nq d =>
    cases (show u = Value.ref a from r1)
    obtain ⟨mA, J, _⟩ := ins_get I.hok ha
    obtain ⟨od, J, _⟩ := J.look
    obtain ⟨T, d⟩ := dec_at I r2 d J nq.nb
    refine ⟨rc_dL hu I.kIn J nq d, ?_, .inr ⟨_, rfl⟩⟩
    rw [beq_eq_false_iff_ne]
    exact fun z => absurd d.ne (by rw [← z]; simp)
  | @R a C dx fs _ ha nq d =>
    cases (show v = Value.ref a from r2)
    obtain ⟨mA, J, _⟩ := ins_get I.hok ha
    obtain ⟨od, J, _⟩ := J.look
    obtain ⟨T, d⟩ := dec_at I r1 d J nq.nb
    exact ⟨rc_dR hu I.kIn J nq d, d.ne, .inl ⟨_, rfl⟩⟩
  | @I a b C D dx dy fs gs ha hb nq nr ne hn =>
    cases (show u = Value.ref a from r1)
    cases (show v = Value.ref b from r2)
    obtain ⟨mA, J, _⟩ := ins_get I.hok ha
    obtain ⟨od, J, _⟩ := J.look
    obtain ⟨mB, L, _⟩ := ins_get I.hok hb
    obtain ⟨oe, L, _⟩ := L.look
    exact ⟨rc_II hu I.kIn J L nq nr ne hn, beq_eq_false_iff_ne.mpr fun z => ne (Value.ref.inj z), .inl ⟨_, rfl⟩⟩
  | @LF a xs _ ha f =>
    cases (show u = Value.ref a from r1)
    obtain ⟨its, rl, pl, hz⟩ := I.list ha
    exact ⟨(rc_seqF hu r2 f pl.isList).1, (flat_ne r2 f).2, .inr ⟨_, rfl⟩⟩
  | @FL a xs _ ha f =>
    cases (show v = Value.ref a from r2)
    obtain ⟨its, rl, pl, hz⟩ := I.list ha
    exact ⟨(rc_seqF hu r1 f pl.isList).2, (flat_ne r1 f).1, .inl ⟨_, rfl⟩⟩
  | @TF a xs _ ha f =>
    cases (show u = Value.ref a from r1)
    obtain ⟨its, rl, pl, hz⟩ := I.tuple ha
    exact ⟨(rc_tupF hu r2 f pl).1, (flat_ne r2 f).2, .inr ⟨_, rfl⟩⟩
  | @FT a xs _ ha f =>
    cases (show v = Value.ref a from r2)
    obtain ⟨its, rl, pl, hz⟩ := I.tuple ha
    exact ⟨(rc_tupF hu r1 f pl).2, (flat_ne r1 f).1, .inl ⟨_, rfl⟩⟩
  | @DF a kvs _ ha f =>
    cases (show u = Value.ref a from r1)
    obtain ⟨_, _, vs, _, o, es, ep, h1, h2, h3, _⟩ := (show ObjOk _ _ H s.heap a (.dK kvs) from I.hok a _ ha)
    exact ⟨(rc_dctF hu r2 f ⟨o, es, ep, h1, h2.1, h3⟩).1, (flat_ne r2 f).2, .inr ⟨_, rfl⟩⟩
  | @FD a kvs _ ha f =>
    cases (show v = Value.ref a from r2)
    obtain ⟨_, _, vs, _, o, es, ep, h1, h2, h3, _⟩ := (show ObjOk _ _ H s.heap a (.dK kvs) from I.hok a _ ha)
    exact ⟨(rc_dctF hu r1 f ⟨o, es, ep, h1, h2.1, h3⟩).2, (flat_ne r1 f).1, .inl ⟨_, rfl⟩⟩
/-- == of two values, pure -/
def EqP (K : PySem.W.Frag) (H : Hp) (x y : V) (b : Bool) : Prop := (flatV x = true ∧ flatV y = true ∧ b = eqV x y) ∨ (PureNe K H x y ∧ b = false) ∨ (∃ a, x = .ref a ∧ y = .ref a ∧ b = true)
theorem eqp_at {A : Around} {x y : V} {u v : Value} {b : Bool} (I : Inv X pins σ H s) (r1 : RelV x u) (r2 : RelV y v) (p : EqP X.K H x y b) (hu : A.units < cLine) : EqAt A s u v b := by
  rcases p with ⟨f1, f2, rfl⟩ | ⟨p, rfl⟩ | ⟨a, rfl, rfl, rfl⟩
  · exact eqAt_V r1 r2 f1 f2
  · obtain ⟨h1, h2, h3⟩ := pure_rc (A := A) I r1 r2 p hu
    exact eqAt_rc h2 h1 h3
  · cases (show u = Value.ref a from r1)
    cases (show v = Value.ref a from r2)
    exact EqAt.same _
/-- a value of ours back from the machine's -/
def vOf : Value → V
  | .none => .non
  | .bool b => .bl b
  | .int i _ => .int i
  | .str z _ => .str z
  | .bytes b _ => .byt b
  | .float f _ => .flt f
  | .ref a => .ref a
  | .type n => .ty n
  | _ => .non
theorem vOf_rel {z : V} {u : Value} (r : RelV z u) : vOf u = z := by
  cases z with
  | non => cases (show u = Value.none from r); rfl
  | bl b => cases (show u = Value.bool b from r); rfl
  | int i => obtain ⟨t, rfl⟩ := (show ∃ t, u = Value.int i t from r); rfl
  | str i => obtain ⟨t, rfl⟩ := (show ∃ t, u = Value.str i t from r); rfl
  | byt i => obtain ⟨t, rfl⟩ := (show ∃ t, u = Value.bytes i t from r); rfl
  | flt i => obtain ⟨t, rfl⟩ := (show ∃ t, u = Value.float i t from r); rfl
  | ref a => cases (show u = Value.ref a from r); rfl
  | ty n => cases (show u = Value.type n from r); rfl
theorem vals_of : ∀ {ys : List V} {us : List Value}, Vals ys us → us.map vOf = ys
  | _, _, .nil => rfl
  | _, _, .cons r t => by rw [List.map_cons, vOf_rel r, vals_of t]
theorem eqps_at {A : Around} {x : V} {v : Value} {e : V → Bool} (I : Inv X pins σ H s) (r2 : RelV x v) (hu : A.units < cLine) : ∀ {ys : List V} {us : List Value}, Vals ys us → (∀ z ∈ ys, EqP X.K H z x (e z)) → ∀ u ∈ us, EqAt A s u v (e (vOf u))
  | _, _, .nil, _ => fun u hu' => by cases hu'
  | y :: ys, u :: us, .cons r t, f => fun u' hu' => by
    rcases List.mem_cons.mp hu' with e' | hu'
    · subst e'
      rw [vOf_rel r]
      exact eqp_at I r r2 (f y List.mem_cons_self) hu
    · exact eqps_at I r2 hu t (fun z hz => f z (List.mem_cons_of_mem _ hz)) u' hu'
/-- ys.count(x) -/
def rCountP (K : PySem.W.Frag) : V → List V → Hp → VK → Prop := fun x xs H Q => ∃ (a : Addr) (ys : List V) (y : V) (e : V → Bool), x = .ref a ∧ xs = [y] ∧ SqL K H a ys ∧ (∀ z ∈ ys, EqP K H z y (e z)) ∧ Q (.int ((ys.countP e : Nat) : Int)) H
theorem mt_countP (K : PySem.W.Frag) (hu : X.A.units + 64 < cLine) (hK : X.K = K := by rfl) : MtR X "list.count" (rCountP K) := by
  subst hK
  intro pins s σ H x xs v us Q I rx rxs h
  obtain ⟨a, ys, y, e, rfl, rfl, hs, f, q⟩ := h
  cases rx
  cases rxs with
  | cons ry rt =>
    rename_i uy ut
    cases rt
    obtain ⟨its, rv, ⟨⟨cls, dd, data, sl⟩, n, ho, hc, hdn, hd⟩, hlen⟩ := I.list hs
    simp only at hc hd
    subst hc hd
    have hu1 : X.A.in1.units < cLine := by show X.A.units + 1 < cLine; omega
    refine call_meets PySem.F.slot_list_count ⟨_, ho, rfl⟩ PySem.F.entry_list_count (PySem.F.args_list_count_2 _ _) (SeqAt.list_countAt a its.toArray n dd sl uy (fun u => e (vOf u))) ⟨ho, fun u' hu' => ?_, ?_⟩
    · exact eqps_at (A := X.A.in1) I ry hu1 rv f u' (by simpa using hu')
    · have e1 : its.toArray.toList.countP (fun u => e (vOf u)) = ys.countP e := by rw [← vals_of rv, List.countP_map]; rfl
      rw [e1]
      exact ⟨.int _, H, I.tok _, ⟨_, rfl⟩, q⟩
end
end L3
set_option Elab.async false
set_option linter.all false
set_option maxRecDepth 100000
set_option maxHeartbeats 4000000
namespace L3
open PySem PySem.Spec PyProof.Rows L2 PySem.SeqAt PySem.Calls
section
variable {X : Cx} {k : Nat} {f C : Addr} {sp : Sp} {pins : List (Addr × Obj)} {σ : L2.St} {H : Hp} {s : Shared}
def rNotInO (r : R2) (K : PySem.W.Frag) : R2 := fun x y H Q => ∃ b a ys, x = .ref b ∧ y = .ref a ∧ inW r K a ys b ys H fun b H' => Q (.bl (!b)) H'
theorem op_notInO {r : R2} (K : PySem.W.Frag) (h : RcO X k r) (hr : Rm (k + 1) X.A) (e : X.K = K := by rfl) : OpR X (compareOp .NotIn) (rNotInO r K) := by
  subst e
  intro pins s σ H x y u v Q I rx ry hq
  obtain ⟨b, a, ys, rfl, rfl, hq⟩ := hq
  cases (show u = Value.ref b from rx)
  cases (show v = Value.ref a from ry)
  have hS : SqL X.K H a ys := by cases ys with | nil => exact hq.1 | cons _ _ => exact hq.1
  obtain ⟨its, rl, pl, hz⟩ := I.list hS
  obtain ⟨o, n, ho, hc, _⟩ := pl
  have hT : s.TypeIs (.ref a) "list" := ⟨_, ho, hc⟩
  show wpAny _ X.A (contains (.ref a) (.ref b) >>= fun z => pure (Value.bool (!z))) _ _ s
  refine wpAny_bind (wpAny_contains_slot hT PySem.F.slot_list_contains (wpAny_mono (Q := fun (v : Value) s' => ∃ z, v = Value.bool z ∧ EP X pins σ Q (Value.bool (!z)) s') (GQ.call_here PySem.F.slot_list_contains hT PySem.F.entry_list_contains (PySem.F.args_list_contains_2 _ _) ?_) (fun v s' hv => ?_) fun _ _ e => e))
  · have hrec := in_loop h (R := wants (fun v s' => ∃ z, v = .bool z ∧ EP X pins σ Q (.bool (!z)) s') X.xe) (fun e s' x => x) hr (fun b H' => Q (.bl (!b)) H') (fun z H' s' I' q => ⟨z, rfl, .bl (!z), H', I', rfl, q⟩) ys 0 H s rfl I hq
    obtain ⟨hp, g, d, tk, os⟩ := s
    wp_walk
    exact ⟨plainId_quiet MeetsSeq.plain_contains_loop _, codeAny_builtin MeetsSeq.entry_contains_loop (by
      rw [Around.under_plainId MeetsSeq.plain_contains_loop _]
      exact hrec)⟩
  · obtain ⟨z, rfl, hq⟩ := hv
    exact wpAny_truthy_bool (wpAny_pure hq)
end
end L3
set_option Elab.async false
set_option linter.all false
set_option maxRecDepth 100000
set_option maxHeartbeats 4000000
namespace L3
open PySem PySem.Spec PyProof.Rows L2 PySem.SeqAt PySem.Calls
end L3
set_option Elab.async false
set_option linter.all false
set_option maxRecDepth 100000
set_option maxHeartbeats 4000000
namespace L3
open PySem PySem.Spec PyProof.Rows L2 PySem.SeqAt PySem.Calls
end L3
set_option Elab.async false
set_option linter.all false
set_option maxRecDepth 100000
set_option maxHeartbeats 4000000
namespace L3
open PySem PySem.Spec PyProof.Rows L2 PySem.SeqAt PySem.Calls
end L3
set_option Elab.async false
set_option linter.all false
set_option maxRecDepth 100000
set_option maxHeartbeats 4000000
namespace L3
open PySem PySem.Spec PyProof.Rows L2
/-- the texts of a row, each once, behind those of acc -/
def dst : List Str → List Str → List Str
  | acc, [] => acc
  | acc, x :: r => dst (if x ∈ acc then acc else x :: acc) r
theorem dst_len : ∀ (xs acc : List Str), (dst acc xs).length ≤ acc.length + xs.length
  | [], acc => Nat.le_refl _
  | x :: r, acc => by
    unfold dst
    have h := dst_len r (if x ∈ acc then acc else x :: acc)
    by_cases hx : x ∈ acc
    · rw [if_pos hx] at h ⊢
      rw [List.length_cons]
      omega
    · rw [if_neg hx] at h ⊢
      rw [List.length_cons] at h ⊢
      omega
/-- none stands twice: as many as they are; one twice: fewer -/
theorem dst_full : ∀ (xs acc : List Str), xs.Nodup → (∀ x ∈ xs, x ∉ acc) → (dst acc xs).length = acc.length + xs.length
  | [], acc, _, _ => rfl
  | x :: r, acc, h, ha => by
    unfold dst
    obtain ⟨h1, h2⟩ := List.nodup_cons.mp h
    have e := dst_full r (x :: acc) h2 fun y hy z => (List.mem_cons.mp z).elim (fun e => h1 (by rw [← e]; exact hy)) (ha y (List.mem_cons_of_mem _ hy))
    rw [if_neg (ha x List.mem_cons_self), e, List.length_cons, List.length_cons]
    omega
theorem dst_less : ∀ (xs acc : List Str), ¬ (xs.Nodup ∧ ∀ x ∈ xs, x ∉ acc) → (dst acc xs).length < acc.length + xs.length
  | [], acc, h => absurd ⟨List.nodup_nil, nofun⟩ h
  | x :: r, acc, h => by
    unfold dst
    by_cases hx : x ∈ acc
    · rw [if_pos hx, List.length_cons]
      have := dst_len r acc
      omega
    · rw [if_neg hx, List.length_cons]
      have := dst_less r (x :: acc) fun ⟨h1, h2⟩ => h ⟨List.nodup_cons.mpr ⟨fun z => h2 x z List.mem_cons_self, h1⟩, fun y hy => (List.mem_cons.mp hy).elim (fun e => e ▸ hx) fun hy z => h2 y hy (List.mem_cons_of_mem _ z)⟩
      rw [List.length_cons] at this
      omega
def leS (a b : Str) : Bool := !decide (b.cps.toList < a.cps.toList)
def srtS (xs : List Str) : List Str := xs.mergeSort leS
theorem srtS_perm (xs : List Str) : (srtS xs).Perm xs := List.mergeSort_perm xs _
theorem leS_iff {a b : Str} : leS a b = true ↔ a.cps.toList ≤ b.cps.toList := by
  unfold leS
  rw [Bool.not_eq_true', decide_eq_false_iff_not]
  exact List.not_lt
theorem leS_total (a b : Str) : (leS a b || leS b a) = true := by
  rw [Bool.or_eq_true, leS_iff, leS_iff]
  exact List.le_total _ _
theorem leS_trans (a b c : Str) (h1 : leS a b = true) (h2 : leS b c = true) : leS a c = true := leS_iff.mpr (List.le_trans (leS_iff.mp h1) (leS_iff.mp h2))
theorem leS_anti {a b : Str} (h1 : leS a b = true) (h2 : leS b a = true) : a = b := by
  obtain ⟨⟨a⟩⟩ := a
  obtain ⟨⟨b⟩⟩ := b
  have h : a = b := List.le_antisymm (leS_iff.mp h1) (leS_iff.mp h2)
  rw [h]
theorem srtS_sorted (xs : List Str) : (srtS xs).Pairwise fun a b => leS a b = true := List.pairwise_mergeSort leS_trans leS_total xs
theorem sortedS_uniq : ∀ {xs ys : List Str}, xs.Perm ys → (xs.Pairwise fun a b => leS a b = true) → (ys.Pairwise fun a b => leS a b = true) → xs = ys
  | [], ys, p, _, _ => p.nil_eq
  | x :: xs, [], p, _, _ => absurd p.symm.nil_eq (by simp)
  | x :: xs, y :: ys, p, hx, hy => by
    have e : x = y := by
      rcases List.mem_cons.mp (p.mem_iff.mp (List.mem_cons_self (a := x) (l := xs))) with e | m
      · exact e
      rcases List.mem_cons.mp (p.mem_iff.mpr (List.mem_cons_self (a := y) (l := ys))) with e | m2
      · exact e.symm
      exact leS_anti ((List.pairwise_cons.mp hx).1 y m2) ((List.pairwise_cons.mp hy).1 x m)
    subst e
    rw [sortedS_uniq (List.perm_cons x |>.mp p) (List.pairwise_cons.mp hx).2 (List.pairwise_cons.mp hy).2]
theorem srtS_eq {xs ns : List Str} (p : xs.Perm ns) (h : xs.Pairwise fun a b => leS a b = true) : xs = srtS ns := sortedS_uniq (p.trans (srtS_perm ns).symm) h (srtS_sorted ns)
theorem srtS_congr {xs ys : List Str} (p : xs.Perm ys) : srtS xs = srtS ys := srtS_eq ((srtS_perm xs).trans p) (srtS_sorted xs)
section
variable {prog : Program} {w : World} {A : Around} {E : Value → Shared → Prop} {s : Shared}
def ltSv (v u : Value) : Bool := decide ((strOf v).cps.toList < (strOf u).cps.toList)
theorem swo_txt : SrtO.Swo ltSv := by
  refine ⟨fun x y h => ?_, fun x y z h1 h2 => ?_⟩
  · exact decide_eq_false (List.lt_asymm (of_decide_eq_true h))
  · exact decide_eq_false (List.not_lt.mpr (List.le_trans (List.not_lt.mp (of_decide_eq_false h1)) (List.not_lt.mp (of_decide_eq_false h2))))
theorem txts_sortable {a : Addr} {vs : List Value} {ss : List Str} (hI : StrsAre vs ss) (h2 : 2 ≤ vs.length) : SrtO.SortableO prog w A s a vs ltSv := by
  intro h' _
  refine ⟨oneType', fun Q E hq => ?_, fun p q hm hm' => ?_⟩
  · match vs, hI, h2 with
    | v1 :: v2 :: rest, hI, _ =>
      rw [keyKind_strs hI]
      exact wpAny_pure hq
    | [], _, h => exact absurd h (by decide)
    | [v], _, h => exact absurd h (by simp)
  · obtain ⟨x, t, e⟩ := hI.all _ hm
    obtain ⟨y, u, e'⟩ := hI.all _ hm'
    show wpAny (model prog w) A (keyLt' oneType' p.1 q.1) (fun r s' => s' = _ ∧ r = ltSv p.1 q.1) (fun _ _ => False) _
    rw [e, e', keyLt'_oneType]
    exact oneLt_str ⟨rfl, rfl⟩
theorem txts_out {vs out : List Value} {ss : List Str} (hI : StrsAre vs ss) (hs : SrtO.Srtd ltSv out) (hb : SrtO.Stb ltSv out vs) : StrsAre out (srtS ss) := by
  have h1 : StrsAre out (out.map strOf) := strsAre_map out fun v hv => hI.all v (hb.perm.mem_iff.mp hv)
  have h2 : (out.map strOf).Perm ss := by
    have q := hb.perm.map strOf
    rw [hI.strs] at q
    exact q
  have h3 : (out.map strOf).Pairwise fun a b => leS a b = true := List.pairwise_map.mpr (hs.imp fun {x y} h => by
    show (!decide ((strOf y).cps.toList < (strOf x).cps.toList)) = true
    have h' : decide ((strOf y).cps.toList < (strOf x).cps.toList) = false := h
    rw [h']
    rfl)
  rw [← srtS_eq h2 h3]
  exact h1
end
section
variable {X : Cx}
/-- sorted(xs), xs a list or a tuple of texts -/
def rSortedT (K : PySem.W.Frag) : List V → Hp → VK → Prop := fun vs H Q => ∃ (a : Addr) (xs : List Str), vs = [V.ref a] ∧ (SqL K H a (xs.map V.str) ∨ SqT K H a (xs.map V.str)) ∧ ∀ p : Addr, H p = none → Q (.ref p) (upd H p (.lst ((srtS xs).map V.str)))
theorem cr_sortedT (K : PySem.W.Frag) (hK : X.K = K := by rfl) : CallR X (.builtin "sorted") (rSortedT K) := by
  subst hK
  intro pins s σ H vs us Q I r h
  obtain ⟨a, xs, rfl, hs, q⟩ := h
  rw [Vals.ref1 r]
  have fin : ∀ (its out : List Value), Vals (xs.map V.str) its → SrtO.Srtd ltSv out → SrtO.Stb ltSv out its → (xs.map V.str).length ≤ sizeLine → EP X pins σ Q (.ref (s.heap.objs.size + 1)) { s with heap := sortedAll s.heap its out.toArray } := fun its out rv h1 h2 hz => by
    have k := txts_out rv.strs h1 h2
    obtain ⟨ep, he'⟩ := PyProof.Rows.sortedAll_at s.heap its out.toArray
    have hlen : ((srtS xs).map V.str).length ≤ sizeLine := by
      rw [List.length_map, (srtS_perm xs).length_eq]
      rw [List.length_map] at hz
      exact hz
    exact ⟨.ref _, upd H (s.heap.objs.size + 1) (.lst ((srtS xs).map V.str)), I.laid (t' := s.toks) (fun _ _ => PyProof.Rows.sortedAll_old) (Nat.le_succ _) ⟨hlen, out, ep, vals_of_strs k, he'⟩, rfl, q _ (I.hok.fresh (Nat.le_succ _))⟩
  rcases hs with hs | hs
  · obtain ⟨its, rv, hl, hz⟩ := I.list hs
    exact SrtO.sorted_ord swo_txt hl.isList (by rw [← rv.length]; exact hz) (fun h2 h₁ a' _ _ => txts_sortable rv.strs h2) fun out h1 h2 => fin its out rv h1 h2 hz
  · obtain ⟨its, rv, hl, hz⟩ := I.tuple hs
    exact SrtA.sorted_tup swo_txt hl (by rw [← rv.length]; exact hz) (fun h2 h₁ a' _ _ => txts_sortable rv.strs h2) fun out h1 h2 => fin its out rv h1 h2 hz
end
theorem strsAre_len : ∀ {vs : List Value} {xs : List Str}, StrsAre vs xs → vs.length = xs.length
  | _, _, .nil => rfl
  | _, _, .cons _ _ r => congrArg (· + 1) (strsAre_len r)
section
variable {P : Program} {w : World} {A : Around} {E : Value → Shared → Prop} {s : Shared}
open PySem.Froz
/-- the set of texts at a: its members, in some order -/
def SetT (P : Program) (w : World) (h : Heap) (a : Addr) (l : List Str) : Prop := ∃ D : SD, h.get? a = some (sObj "set" D) ∧ TxOk P w D l ∧ l.length < scanBound ∧ Ris D.2.2.place.toList ∧ (w.params.followText "set-order" = true ∨ D.2.2.led = true)
theorem SetT.at {h h' : Heap} {a : Addr} {l : List Str} (R : SetT P w h a l) (k : ∀ o, h.get? a = some o → h'.get? a = some o) : SetT P w h' a l := by
  obtain ⟨D, ho, r⟩ := R
  exact ⟨D, k _ ho, r⟩
theorem ris_tail {ep : Nat} {es : Array (Int × Value)} {t : SetTable} {b : Bool} (r : Ris t.place.toList) : Ris (tailTx ep es t b).2.2.place.toList := by
  unfold tailTx
  by_cases c : (!b && t.tooFull) = true
  · rw [if_pos c]
    exact relayAll_ris _ _ _
  · rw [if_neg c]
    exact r
theorem led_tail {ep : Nat} {es : Array (Int × Value)} {t : SetTable} {b : Bool} : (tailTx ep es t b).2.2.led = t.led := by
  unfold tailTx
  by_cases c : (!b && t.tooFull) = true
  · rw [if_pos c]
    exact relayAll_led _ _ _
  · rw [if_neg c]
theorem ris_addTx {h : Int} {v : Value} {D : SD} (r : Ris D.2.2.place.toList) : Ris (addTx h v D).2.2.place.toList := by
  unfold addTx
  refine ris_tail ?_
  have z := layNew_ris D.2.2 D.1 h v r
  by_cases c : (layNew D.2.2 D.1 h v).2.1.plain = true
  · rw [if_pos c]
    exact z
  · rw [if_neg c]
    exact z
theorem led_addTx {h : Int} {v : Value} {D : SD} : (addTx h v D).2.2.led = D.2.2.led := by
  unfold addTx
  rw [led_tail]
  have z := layNew_led D.2.2 D.1 h v
  by_cases c : (layNew D.2.2 D.1 h v).2.1.plain = true
  · rw [if_pos c]
    exact z
  · rw [if_neg c]
    exact z
/-- a text that is there already -/
theorem add_old {a : Addr} {D : SD} {l : List Str} {k : Str} {u : Tok} {Q : Bool → Shared → Prop} (ho : s.heap.get? a = some (sObj "set" D)) (F : TxOk P w D l) (hk : k ∈ l) (hb : l.length < scanBound) (q : Q false s) :
    wpAny (model P w) A (setAddHashed a (.str k u) (hashStr w k)) Q E s := by
  obtain ⟨es, ep, t⟩ := D
  have hd : (sObj "set" (es, ep, t)).data = .set es ep t := rfl
  have hf : t.fits es.size = true := F.fit
  have hel : ElemsOf (PySem.strKind P w) es.toList := F.el
  have hsz : es.size = l.length := F.sz
  have hkey : (PySem.strKind P w).is k (.str k u) = true := is_str k u
  unfold setAddHashed setAddHashedIn
  refine wpAny_holding (wpAny_bind (wpAny_setState_of ho hd hf ?_))
  dsimp only
  rw [byScan_of rfl (by omega) hel]
  simp only [↓reduceIte]
  unfold setAddByScan
  refine wpAny_bind ?_
  refine wpAny_bind (wpAny_rule ?_)
  refine wpAny_bind (wpAny_setScan_of (knd := PySem.strKind P w) (k := k) hkey ho hd hf hel ?_)
  cases hr : List.findIdx? (fun e => (PySem.strKind P w).is k e.2) es.toList with
  | some j =>
    dsimp only
    exact wpAny_pure (wpAny_pure q)
  | none =>
    obtain ⟨e, he, hp⟩ := (F.mem k).mp hk
    have c := List.findIdx?_eq_none_iff.mp hr e he
    rw [hp] at c
    cases c
/-- a text is put in -/
theorem setT_add {a : Addr} {l : List Str} {k : Str} {u : Tok} {Q : Bool → Shared → Prop} (R : SetT P w s.heap a l) (hb : l.length + 1 < scanBound)
    (q : ∀ b h', (∀ c o, c ≠ a → s.heap.get? c = some o → h'.get? c = some o) → SetT P w h' a (if k ∈ l then l else k :: l) → Q b { s with heap := h' }) :
    wpAny (model P w) A (setAddHashed a (.str k u) (hashStr w k)) Q E s := by
  obtain ⟨D, ho, F, hl, hr, hled⟩ := R
  by_cases hk : k ∈ l
  · exact add_old ho F hk hl (q false s.heap (fun _ _ _ e => e) (by rw [if_pos hk]; exact ⟨D, ho, F, hl, hr, hled⟩))
  · refine add_x ho F hk hb (q true _ (fun c o hc e => (Heap.get?_update_other _ _ (Ne.symm hc)).trans e) ?_)
    rw [if_neg hk]
    exact ⟨_, get_upd _ ho rfl, add_ok u F, hb, ris_addTx hr, hled.imp id fun z => by rw [led_addTx]; exact z⟩
theorem update_txts {I : Addr} {fp wr : List Addr} {G : Array GenState → Array GenState → Prop} {n : Nat} {Pv : Nat → Value → Prop} {St : Nat → Shared → Prop} {R : Result → Shared → Prop}
    (W : WalksS P w A.in1 I fp wr G n Pv St) (S : Addr) (hSf : S ∉ fp) (hval : ∀ i v, Pv i v → ∃ k t, v = .str k t) :
    ∀ (xs : List Str) (i : Nat) (acc : List Str) (s : Shared), i + xs.length = n → (∀ j v, Pv (i + j) v → ∃ k t, xs[j]? = some k ∧ v = .str k t) → acc.length + xs.length + 1 < scanBound → St i s → SetT P w s.heap S acc →
      (∀ s', Moved (S :: wr) G s s' → SetT P w s'.heap S (dst acc xs) → R (.ok (.ret .none)) s') →
      codeAny (model P w) A (.builtin "set.update.loop" ⟨[.ref S, .ref I], []⟩) R s := by
  have hSw : S ∉ wr := fun h => hSf (W.sub _ h)
  have hsub : ∀ b ∈ wr, b ∈ S :: wr := fun b hb => List.mem_cons_of_mem _ hb
  intro xs
  induction xs with
  | nil =>
    intro i acc s hn _ _ hst hS fin
    rw [List.length_nil, Nat.add_zero] at hn
    subst hn
    refine codeAny_builtin F.entry_set_update_loop ?_
    rw [Around.under_plainId F.plain_set_update_loop _]
    show wpAny _ A.in1 (pyNext (.ref I) >>= _) _ _ s
    refine wpAny_bind (W.done s _ _ hst fun s' hm => ?_)
    show wpAny _ A.in1 (ret Value.none) _ _ s'
    exact wpAny_pure (fin s' (hm.mono hsub) (hS.at fun o e => hm.heap S o hSw e))
  | cons x r ih =>
    intro i acc s hn hx hb hst hS fin
    rw [List.length_cons] at hn hb
    have hlt : i < n := by omega
    refine codeAny_builtin F.entry_set_update_loop ?_
    rw [Around.under_plainId F.plain_set_update_loop _]
    show wpAny _ A.in1 (pyNext (.ref I) >>= _) _ _ s
    refine wpAny_bind (W.item i s _ _ hlt hst fun v s' hP hst' hm => ?_)
    obtain ⟨z, t, hz, rfl⟩ := hx 0 v hP
    cases hz
    have hS' : SetT P w s'.heap S acc := hS.at fun o e => hm.heap S o hSw e
    show wpAny _ A.in1 (holding [Value.str x t] (setAdd S (.str x t)) >>= _) _ _ s'
    refine wpAny_bind (wpAny_holding ?_)
    unfold setAdd
    refine wpAny_holding ?_
    refine wpAny_bind ((PySem.strKind P w).pyHash (k := x) (Froz.is_str x t) ?_)
    refine setT_add (s := { s' with toks := s'.toks + 1 }) hS' (by omega) fun b h' hsb hS2 => ?_
    refine wpAny_pure ⟨plainId_quiet F.plain_set_update_loop _, ih (i + 1) (if x ∈ acc then acc else x :: acc) _ (by omega) (fun j v hv => ?_) ?_ (W.frame _ s' _ _ hst' (Nat.le_succ _) fun b hb o e => hsb b o (fun h : b = S => hSf (by rw [← h]; exact hb)) e) hS2 fun s'' hm'' hS'' => ?_⟩
    · obtain ⟨k, t2, e1, e2⟩ := hx (j + 1) v (by rw [show i + (j + 1) = i + 1 + j by omega]; exact hv)
      exact ⟨k, t2, e1, e2⟩
    · by_cases hxa : x ∈ acc
      · rw [if_pos hxa]
        omega
      · rw [if_neg hxa, List.length_cons]
        omega
    · exact fin s'' (Moved.trans W.gtrans ((hm.mono hsub).then_heap (Nat.le_succ _) fun b o hb e => hsb b o (fun h : b = S => hb (by rw [h]; exact List.mem_cons_self)) e) hm'') hS''
/-- set(xs), xs a thing of the type T whose walk gives texts -/
theorem call_set_txts {l : Addr} {T : String} {its : Array Value} {xs : List Str} {io : Obj} {Q : Value → Shared → Prop} (calm : A.handled = none) (few : xs.length + 1 < scanBound) (size : its.size = xs.length)
    (isT : ∀ z : Shared, (∀ b o, s.heap.get? b = some o → z.heap.get? b = some o) → z.TypeIs (.ref l) T) (lt : l < s.heap.objs.size) (vs : StrsAre its.toList xs)
    (m1 : isSubtype (.type T) (.type "set") = pure false) (m2 : isSubtype (.type T) (.type "frozenset") = pure false) (m3 : (Value.type T == Value.type "dict") = false)
    (iter : ∀ (z : Shared) (A2 : Around) (E2 : Value → Shared → Prop) (Q2 : Value → Shared → Prop), (∀ b o, s.heap.get? b = some o → z.heap.get? b = some o) → Q2 (.ref z.heap.objs.size) { z with heap := z.heap.push io } → wpAny (model P w) A2 (pyIter (.ref l)) Q2 E2 z)
    (St : Addr → Nat → Heap → Prop) (W : ∀ (A2 : Around) (I : Addr), A2.handled = none → l ≠ I → Walks P w A2 I [I, l] [I] its.size (fun i v => its[i]? = some v) (St I))
    (start : ∀ h : Heap, (∀ b o, s.heap.get? b = some o → h.get? b = some o) → St h.objs.size 0 (h.push io))
    (fin : ∀ (h' : Heap) (tk : Nat), SetT P w h' s.heap.objs.size (dst [] xs) → (∀ b o, s.heap.get? b = some o → h'.get? b = some o) → Q (.ref s.heap.objs.size) { s with heap := h', toks := tk }) :
    wpAny (model P w) A (call (.type "set") [.ref l]) Q E s := by
  obtain ⟨c, tl, k1⟩ := F.called_set.mro
  have k2 := F.called_set.made
  have k3 := F.called_set.sub
  refine wpAny_call (codeAny_of_tree ?_)
  show wpAny _ _ (callAny (.type "set") _) _ _ _
  refine wpAny_pure ⟨Code.quiet_builtin _ (by decide +kernel), codeAny_builtin F.entry_type_call ?_⟩
  rw [Around.under_plain (weight_type_call_type "set" [.ref l] []) rfl]
  have k4 := F.called_set.notType
  have k5 := F.called_set.canCreate
  have k6 := F.typeCall_set_1 (.ref l)
  repeat (any_goals (first | assumption | wp_step))
  refine codeAny_mono (code_set_led1 (.ref l) (E := E) (Q₁ := fun obj z => obj = .ref s.heap.objs.size ∧ z = { s with heap := s.heap.push (newSet w) }) ⟨rfl, rfl⟩) fun r z hr => ?_
  cases r with
  | error e => exact hr
  | ok fl =>
    cases fl with
    | ret obj =>
      obtain ⟨rfl, rfl⟩ := hr
      have there : (s.heap.push (newSet w)).get? s.heap.objs.size = some (newSet w) := Heap.get?_push_size _ rfl
      have ty : Shared.TypeIs { s with heap := s.heap.push (newSet w) } (.ref s.heap.objs.size) "set" := ⟨_, there, rfl⟩
      have tl1 := isT { s with heap := s.heap.push (newSet w) } fun b o e => Heap.get?_push_of_some _ e
      have k7 := F.called_set.init.lookup
      have k8 := F.called_set.init.bind (.ref s.heap.objs.size)
      repeat (any_goals (first | assumption | wp_step))
      refine codeAny_mono (codeAny_call_builtin (R := wants (fun r z => r = .none ∧ ∃ h' tk, z = { s with heap := h', toks := tk } ∧ SetT P w h' s.heap.objs.size (dst [] xs) ∧ (∀ b o, s.heap.get? b = some o → h'.get? b = some o)) E) F.called_set.init.plain F.entry_set_init (check_set_init_1 ty ?_)) fun r₂ z hr₂ => ?_
      · unfold Builtin.«set.__init__» noKeywords Builtin.Frozenset.updateFrom
        generalize hPI : pyIter = PI
        wp_walk
        subst hPI
        have lt2 : l ≠ (s.heap.push (newSet w)).objs.size := by
          rw [Heap.size_push]
          exact Nat.ne_of_lt (Nat.lt_succ_of_lt lt)
        have calm3 : A.in1.in1.in1.handled = none := by simp [calm]
        have ne2 : s.heap.objs.size ∉ [(s.heap.push (newSet w)).objs.size, l] := by
          rw [Heap.size_push]
          intro hm
          rcases List.mem_cons.mp hm with hm | hm
          · exact Nat.ne_of_lt (Nat.lt_succ_self _) hm
          · exact Nat.ne_of_gt lt (List.mem_singleton.mp hm)
        refine iter { s with heap := s.heap.push (newSet w) } _ _ _ (fun b o e => Heap.get?_push_of_some _ e) ?_
        refine wpAny_bind (wpAny_runValue ?_)
        have vals : ∀ (i : Nat) (v : Value), its[i]? = some v → ∃ k t, xs[i]? = some k ∧ v = .str k t := fun i v hv => by
          have hi : i < xs.length := by rw [← size]; exact (Array.getElem?_eq_some_iff.mp hv).1
          obtain ⟨t, e⟩ := SS.strs_at vs i v (by rw [Array.getElem?_toList]; exact hv)
          refine ⟨xs[i], t, List.getElem?_eq_getElem hi, ?_⟩
          rw [e, List.getD_eq_getElem?_getD, List.getElem?_eq_getElem hi] <;> rfl
        refine update_txts ((W _ _ calm3 lt2).toS) s.heap.objs.size ne2 (fun i v hv => by obtain ⟨k, t, _, e⟩ := vals i v hv; exact ⟨k, t, e⟩) xs 0 [] _ (by rw [Nat.zero_add]; exact size.symm) (fun j v hv => vals j v (by rw [Nat.zero_add] at hv; exact hv)) (by rw [List.length_nil]; omega) (start (s.heap.push (newSet w)) fun b o e => Heap.get?_push_of_some _ e) ?g1 ?g2
        case g1 =>
          have at2 : ((s.heap.push (newSet w)).push io).get? s.heap.objs.size = some (newSet w) := Heap.get?_push_of_some _ there
          exact ⟨(#[], 0, .fresh 0 0 (!w.params.followText "set-order")), at2, TxOk.nil (by first | rfl | decide), by decide, by first | exact List.Pairwise.nil | trivial, by
            show _ ∨ (!w.params.followText "set-order") = true
            cases w.params.followText "set-order"
            · exact .inr rfl
            · exact .inl rfl⟩
        case g2 =>
          intro z mv sr
          obtain ⟨h2, gn, dr, tk2, os2⟩ := z
          have e1 : gn = s.gens := mv.gens
          have e2 : dr = s.drawn := mv.drawn
          have e3 : os2 = s.os := mv.os
          subst e1; subst e2; subst e3
          show wpAny _ _ _ _ _ _
          refine wpAny_pure ?_
          show wpAny _ _ (ret Value.none) _ _ _
          refine wpAny_pure ⟨rfl, h2, tk2, rfl, sr, fun b o e => ?_⟩
          have l0 : b < s.heap.objs.size := Heap.lt_size e
          refine mv.heap b o (fun hm => ?_) (Heap.get?_push_of_some _ (Heap.get?_push_of_some _ e))
          rcases List.mem_cons.mp hm with hm | hm
          · exact Nat.ne_of_lt l0 hm
          · have e9 := List.mem_singleton.mp hm
            rw [Heap.size_push] at e9
            exact Nat.ne_of_lt (Nat.lt_succ_of_lt l0) e9
      · cases r₂ with
        | error e => exact hr₂
        | ok fl₂ =>
          cases fl₂ with
          | ret r =>
            obtain ⟨rfl, h', tk, rfl, sr, kp⟩ := hr₂
            repeat (any_goals (first | assumption | wp_step))
            exact fin _ _ sr kp
          | _ => exact hr₂.elim
    | _ => exact hr.elim
theorem call_set_lstT {l : Addr} {its : Array Value} {xs : List Str} {Q : Value → Shared → Prop} (calm : A.handled = none) (few : xs.length + 1 < scanBound) (isl : s.heap.IsList l its) (vs : StrsAre its.toList xs)
    (fin : ∀ (h' : Heap) (tk : Nat), SetT P w h' s.heap.objs.size (dst [] xs) → (∀ b o, s.heap.get? b = some o → h'.get? b = some o) → Q (.ref s.heap.objs.size) { s with heap := h', toks := tk }) :
    wpAny (model P w) A (call (.type "set") [.ref l]) Q E s := by
  have up : ∀ h : Heap, (∀ b o, s.heap.get? b = some o → h.get? b = some o) → h.IsList l its := fun h k => by
    obtain ⟨o, ho, r⟩ := isl
    exact ⟨o, k _ _ ho, r⟩
  have size : its.size = xs.length := by
    have q := strsAre_len vs
    rwa [Array.length_toList] at q
  refine call_set_txts (T := "list") (io := { cls := .type "list_iterator", data := .fields #[.ref l, .int 0 0] }) calm few size (fun z k => ?_) ?_ vs F.sub_list_set F.sub_list_frozenset (by decide) (fun z A2 E2 Q2 k q => wpAny_pyIter_list (up z.heap k) q) (fun I i h => h.IsListIter I l i ∧ h.IsList l its) (fun A2 I hc ne => Walks.list hc I l ne its) (fun h k => ⟨⟨_, Heap.get?_push_size _ rfl, rfl, rfl⟩, (up h k).push _⟩) fin
  · obtain ⟨o, ho, hc, _⟩ := up z.heap k
    exact ⟨o, ho, hc⟩
  · obtain ⟨o, ho, _⟩ := isl
    exact Heap.lt_size ho
theorem call_set_tupT {l : Addr} {its : Array Value} {xs : List Str} {Q : Value → Shared → Prop} (calm : A.handled = none) (few : xs.length + 1 < scanBound) (isl : s.heap.IsTuple l its) (vs : StrsAre its.toList xs)
    (fin : ∀ (h' : Heap) (tk : Nat), SetT P w h' s.heap.objs.size (dst [] xs) → (∀ b o, s.heap.get? b = some o → h'.get? b = some o) → Q (.ref s.heap.objs.size) { s with heap := h', toks := tk }) :
    wpAny (model P w) A (call (.type "set") [.ref l]) Q E s := by
  have up : ∀ h : Heap, (∀ b o, s.heap.get? b = some o → h.get? b = some o) → h.IsTuple l its := fun h k => by
    obtain ⟨o, ho, r⟩ := isl
    exact ⟨o, k _ _ ho, r⟩
  have size : its.size = xs.length := by
    have q := strsAre_len vs
    rwa [Array.length_toList] at q
  refine call_set_txts (T := "tuple") (io := { cls := .type "tuple_iterator", data := .fields #[.ref l, .int 0 0] }) calm few size (fun z k => ?_) ?_ vs F.sub_tuple_set F.sub_tuple_frozenset (by decide) (fun z A2 E2 Q2 k q => wpAny_pyIter_tuple (up z.heap k) q) (fun I i h => h.IsTupleIter I l i ∧ h.IsTuple l its) (fun A2 I hc ne => Walks.tuple hc I l ne its) (fun h k => ⟨⟨_, Heap.get?_push_size _ rfl, rfl, rfl⟩, up _ fun b o e => Heap.get?_push_of_some _ (k b o e)⟩) fin
  · obtain ⟨o, ho, hc, _⟩ := up z.heap k
    exact ⟨o, ho, hc⟩
  · obtain ⟨o, ho, _⟩ := isl
    exact Heap.lt_size ho
/-- len(x), x a set of texts -/
theorem len_setT {a : Addr} {l : List Str} {Q : Value → Shared → Prop} (R : SetT P w s.heap a l) (fin : Q (.int (l.length : Nat) (s.toks + 1)) { s with toks := s.toks + 1 + 1 }) :
    wpAny (model P w) A (call (.builtin "len") [.ref a]) Q E s := by
  obtain ⟨⟨es, ep, t⟩, ho, F, hb, hr, hl⟩ := R
  have hsz : es.size = l.length := F.sz
  refine call_len_set (o := sObj "set" (es, ep, t)) (es := es) (ep := ep) (t := t) ho ⟨rfl, rfl, rfl⟩ rfl F.fit ?_ ?_
  · unfold scanBound at hb
    omega
  · rw [hsz]
    exact fin
end
section
variable {X : Cx}
/-- a set of texts, l its members -/
def SetTO (P : Program) (w : World) (a : Addr) (l : List Str) : HO := .ext fun h => SetT P w h a l
theorem setTO_new {w : World} {P : Program} {H : Hp} {h : Heap} {a : Addr} {l : List Str} (R : SetT P w h a l) : ObjOk P w H h a (SetTO P w a l) := by
  have ⟨o, ho, _⟩ := R
  exact ⟨R, ⟨_, ho⟩, fun h1 h2 p k => SetT.at p k⟩
theorem setTO_get {pins : List (Addr × Obj)} {σ : L2.St} {H : Hp} {s : Shared} {a : Addr} {l : List Str} (I : Inv X pins σ H s) (ha : H a = some (SetTO X.prog X.w a l)) : SetT X.prog X.w s.heap a l := (I.hok a _ ha).1
/-- set(xs), xs a list or a tuple of texts -/
def rSetT (P : Program) (w : World) (K : PySem.W.Frag) : List V → Hp → VK → Prop := fun vs H Q => ∃ (a : Addr) (xs : List Str), vs = [.ref a] ∧ (SqL K H a (xs.map V.str) ∨ SqT K H a (xs.map V.str)) ∧ xs.length ≤ 3000 ∧ ∀ p, H p = none → Q (.ref p) (upd H p (SetTO P w p (dst [] xs)))
theorem cr_setT (K : PySem.W.Frag) (cm : X.calm = true) (hK : X.K = K := by rfl) : CallR X (.type "set") (rSetT X.prog X.w K) := by
  subst hK
  intro pins s σ H vs us Q I r h
  obtain ⟨a, xs, rfl, hs, few, q⟩ := h
  rw [Vals.ref1 r]
  have done : ∀ (h' : Heap) (tk : Nat), SetT X.prog X.w h' s.heap.objs.size (dst [] xs) → (∀ b o, s.heap.get? b = some o → h'.get? b = some o) → EP X pins σ Q (.ref s.heap.objs.size) { s with heap := h', toks := tk } := fun h' tk R keep =>
    ⟨.ref _, upd H s.heap.objs.size (SetTO X.prog X.w s.heap.objs.size (dst [] xs)), I.laid (t' := tk) keep (Nat.le_refl _) (setTO_new R), rfl, q _ (I.hok.fresh (Nat.le_refl _))⟩
  have sb : xs.length + 1 < scanBound := by unfold scanBound; omega
  rcases hs with hs | hs
  · obtain ⟨its, rv, pl, hz⟩ := I.list hs
    exact call_set_lstT (I.ok.hd cm) sb pl.isList (by simpa using rv.strs) done
  · obtain ⟨its, rv, pl, hz⟩ := I.tuple hs
    exact call_set_tupT (I.ok.hd cm) sb (show s.heap.IsTuple a its.toArray from pl) (by simpa using rv.strs) done
def rLenT (P : Program) (w : World) : List V → Hp → VK → Prop := fun vs H Q => ∃ (a : Addr) (l : List Str), vs = [V.ref a] ∧ H a = some (SetTO P w a l) ∧ Q (.int (l.length : Nat)) H
theorem cr_lenT : CallR X (.builtin "len") (rLenT X.prog X.w) := by
  intro pins s σ H vs us Q I r h
  obtain ⟨a, l, rfl, ha, q⟩ := h
  rw [Vals.ref1 r]
  exact len_setT (setTO_get I ha) ⟨.int _, H, I.tok _, ⟨_, rfl⟩, q⟩
end
theorem roomHU {k : Nat} {A : Around} (r : L2H.RoomH k A) : A.units + 64 < cLine := by have := r.un; omega
end L3
set_option Elab.async false
set_option linter.all false
set_option maxRecDepth 100000
set_option maxHeartbeats 4000000
namespace Toy
open PySem PySem.Spec PyProof.Rows L2 L3
def top (i : Nat) : Stmt := PySem.Challenge.pw_shortgoings_k51_goings_made.main.body.getD i (.Pass ⟨0, 0, 0, 0⟩)
abbrev s_NoText_init : Stmt := inClass (top 10) 0
abbrev s_is_whole : Stmt := top 16
abbrev s_is_moment : Stmt := top 17
abbrev s_want_moment : Stmt := top 18
abbrev s_clock_of : Stmt := top 19
abbrev s_show_moment : Stmt := top 20
abbrev s_is_name : Stmt := top 24
abbrev s_notes_of : Stmt := top 25
abbrev s_Going_init : Stmt := inClass (top 26) 0
abbrev s_Going_eq : Stmt := inClass (top 26) 1
abbrev s_Going_str : Stmt := inClass (top 26) 2
abbrev s_Going_repr : Stmt := inClass (top 26) 3
abbrev s__law_pot : Stmt := top 28
abbrev s__law_take : Stmt := top 29
abbrev s__law_great : Stmt := top 30
abbrev s__law_name : Stmt := top 31
abbrev s__law_notes_drawn : Stmt := top 32
abbrev s__law_text : Stmt := top 33
abbrev s__law_word : Stmt := top 34
abbrev s__law_refused : Stmt := top 35
abbrev s__law_made_right : Stmt := top 36
abbrev s__law_alike_right : Stmt := top 37
abbrev s__law_refusals_right : Stmt := top 38
abbrev s_law : Stmt := top 39
theorem sc_is_whole : FnScope ["thing"] ["thing"] (defScope s_is_whole) := ⟨rfl, rfl, rfl, by decide +kernel, rfl, by decide +kernel, by decide +kernel⟩
theorem sc_is_moment : FnScope ["thing"] ["thing"] (defScope s_is_moment) := ⟨rfl, rfl, rfl, by decide +kernel, rfl, by decide +kernel, by decide +kernel⟩
theorem sc_want_moment : FnScope ["thing"] ["thing"] (defScope s_want_moment) := ⟨rfl, rfl, rfl, by decide +kernel, rfl, by decide +kernel, by decide +kernel⟩
theorem sc_clock_of : FnScope ["moment"] ["moment"] (defScope s_clock_of) := ⟨rfl, rfl, rfl, by decide +kernel, rfl, by decide +kernel, by decide +kernel⟩
theorem sc_show_moment : FnScope ["moment", "day", "hour", "minute", "text"] ["moment"] (defScope s_show_moment) := ⟨rfl, rfl, rfl, by decide +kernel, rfl, by decide +kernel, by decide +kernel⟩
theorem sc_is_name : FnScope ["thing", "sign"] ["thing"] (defScope s_is_name) := ⟨rfl, rfl, rfl, by decide +kernel, rfl, by decide +kernel, by decide +kernel⟩
theorem sc_notes_of : FnScope ["notes", "note"] ["notes"] (defScope s_notes_of) := ⟨rfl, rfl, rfl, by decide +kernel, rfl, by decide +kernel, by decide +kernel⟩
theorem sc_Going_init : FnScope ["self", "moment", "notes"] ["self", "moment", "notes"] (defScope s_Going_init) := ⟨rfl, rfl, rfl, by decide +kernel, rfl, by decide +kernel, by decide +kernel⟩
theorem sc_Going_eq : FnScope ["self", "other"] ["self", "other"] (defScope s_Going_eq) := ⟨rfl, rfl, rfl, by decide +kernel, rfl, by decide +kernel, by decide +kernel⟩
theorem sc_Going_str : FnScope ["self"] ["self"] (defScope s_Going_str) := ⟨rfl, rfl, rfl, by decide +kernel, rfl, by decide +kernel, by decide +kernel⟩
theorem sc_Going_repr : FnScope ["self"] ["self"] (defScope s_Going_repr) := ⟨rfl, rfl, rfl, by decide +kernel, rfl, by decide +kernel, by decide +kernel⟩
theorem sc__law_pot : FnScope ["_law_script", "_law_k", "_law_cell", "_law_seed"] ["_law_script", "_law_k"] (defScope s__law_pot) := ⟨rfl, rfl, rfl, by decide +kernel, rfl, by decide +kernel, by decide +kernel⟩
theorem sc__law_take : FnScope ["_law_pot_here", "_law_many", "_law_digit"] ["_law_pot_here", "_law_many"] (defScope s__law_take) := ⟨rfl, rfl, rfl, by decide +kernel, rfl, by decide +kernel, by decide +kernel⟩
theorem sc__law_great : FnScope ["_law_pot_here", "_law_way"] ["_law_pot_here"] (defScope s__law_great) := ⟨rfl, rfl, rfl, by decide +kernel, rfl, by decide +kernel, by decide +kernel⟩
theorem sc__law_name : FnScope ["_law_pot_here", "_law_letters", "_law_size", "_law_k"] ["_law_pot_here"] (defScope s__law_name) := ⟨rfl, rfl, rfl, by decide +kernel, rfl, by decide +kernel, by decide +kernel⟩
theorem sc__law_notes_drawn : FnScope ["_law_pot_here", "_law_found", "_law_k", "_law_name_here"] ["_law_pot_here"] (defScope s__law_notes_drawn) := ⟨rfl, rfl, rfl, by decide +kernel, rfl, by decide +kernel, by decide +kernel⟩
theorem sc__law_text : FnScope ["_law_when", "_law_tags", "_law_day", "_law_minute", "_law_hour", "_law_left", "_law_text_here"] ["_law_when", "_law_tags"] (defScope s__law_text) := ⟨rfl, rfl, rfl, by decide +kernel, rfl, by decide +kernel, by decide +kernel⟩
theorem sc__law_word : FnScope ["_law_e", "_law_others", "_law_some"] ["_law_e"] (defScope s__law_word) := ⟨rfl, rfl, rfl, by decide +kernel, rfl, by decide +kernel, by decide +kernel⟩
theorem sc__law_refused : FnScope ["_law_when", "_law_tags", "_law_word_here", "_law_e"] ["_law_when", "_law_tags"] (defScope s__law_refused) := ⟨rfl, rfl, rfl, by decide +kernel, rfl, by decide +kernel, by decide +kernel⟩
theorem sc__law_made_right : FnScope ["_law_going", "_law_when", "_law_tags", "_law_text_here"] ["_law_going", "_law_when", "_law_tags"] (defScope s__law_made_right) := ⟨rfl, rfl, rfl, by decide +kernel, rfl, by decide +kernel, by decide +kernel⟩
theorem sc__law_alike_right : FnScope ["_law_going", "_law_other", "_law_when", "_law_tags", "_law_like", "_law_things", "_law_thing"] ["_law_going", "_law_other", "_law_when", "_law_tags"] (defScope s__law_alike_right) := ⟨rfl, rfl, rfl, by decide +kernel, rfl, by decide +kernel, by decide +kernel⟩
theorem sc__law_refusals_right : FnScope ["_law_when", "_law_tags", "_law_bad", "_law_thing"] ["_law_when", "_law_tags"] (defScope s__law_refusals_right) := ⟨rfl, rfl, rfl, by decide +kernel, rfl, by decide +kernel, by decide +kernel⟩
theorem sc_law : FnScope ["_law_script", "_law_pots", "_law_made", "_law_pot_here", "_law_when", "_law_tags", "_law_turn", "_law_handed", "_law_going", "_law_other"] ["_law_script"] (defScope s_law) := ⟨rfl, rfl, rfl, by decide +kernel, rfl, by decide +kernel, by decide +kernel⟩
structure Env (K : PySem.W.Frag) (mg : Str → Option Value) : Prop where
  g_is_whole : mg "is_whole" = some (.ref (He.ga K "is_whole"))
  g_is_moment : mg "is_moment" = some (.ref (He.ga K "is_moment"))
  g_want_moment : mg "want_moment" = some (.ref (He.ga K "want_moment"))
  g_clock_of : mg "clock_of" = some (.ref (He.ga K "clock_of"))
  g_show_moment : mg "show_moment" = some (.ref (He.ga K "show_moment"))
  g_is_name : mg "is_name" = some (.ref (He.ga K "is_name"))
  g_notes_of : mg "notes_of" = some (.ref (He.ga K "notes_of"))
  g__law_pot : mg "_law_pot" = some (.ref (He.ga K "_law_pot"))
  g__law_take : mg "_law_take" = some (.ref (He.ga K "_law_take"))
  g__law_great : mg "_law_great" = some (.ref (He.ga K "_law_great"))
  g__law_name : mg "_law_name" = some (.ref (He.ga K "_law_name"))
  g__law_notes_drawn : mg "_law_notes_drawn" = some (.ref (He.ga K "_law_notes_drawn"))
  g__law_text : mg "_law_text" = some (.ref (He.ga K "_law_text"))
  g__law_word : mg "_law_word" = some (.ref (He.ga K "_law_word"))
  g__law_refused : mg "_law_refused" = some (.ref (He.ga K "_law_refused"))
  g__law_made_right : mg "_law_made_right" = some (.ref (He.ga K "_law_made_right"))
  g__law_alike_right : mg "_law_alike_right" = some (.ref (He.ga K "_law_alike_right"))
  g__law_refusals_right : mg "_law_refusals_right" = some (.ref (He.ga K "_law_refusals_right"))
  g_law : mg "law" = some (.ref (He.ga K "law"))
  v_HOUR : ∃ u, mg "HOUR" = some u ∧ RelV (.int (60)) u
  v_DAY : ∃ u, mg "DAY" = some u ∧ RelV (.int (1440)) u
  v_COLON : ∃ u, mg "COLON" = some u ∧ RelV (.str ":") u
  v_BLANK : ∃ u, mg "BLANK" = some u ∧ RelV (.str " ") u
  v_NAME_SIGNS : ∃ u, mg "NAME_SIGNS" = some u ∧ RelV (.str "abcdefghijklmnopqrstuvwxyz") u
  v_LONGEST_NAME : ∃ u, mg "LONGEST_NAME" = some u ∧ RelV (.int (8)) u
  n_ValueError : mg "ValueError" = none
  n_all : mg "all" = none
  n_bool : mg "bool" = none
  n_divmod : mg "divmod" = none
  n_int : mg "int" = none
  n_isinstance : mg "isinstance" = none
  n_len : mg "len" = none
  n_list : mg "list" = none
  n_max : mg "max" = none
  n_range : mg "range" = none
  n_repr : mg "repr" = none
  n_set : mg "set" = none
  n_sorted : mg "sorted" = none
  n_str : mg "str" = none
  n_tuple : mg "tuple" = none
  g_GoingError : mg "GoingError" = some (.ref (He.ga K "GoingError"))
  x_GoingError : Exo K (He.ga K "GoingError") bmV "ValueError.__new__"
  g_LackError : mg "LackError" = some (.ref (He.ga K "LackError"))
  x_LackError : Exo K (He.ga K "LackError") bmL "LookupError.__new__"
  g_BookError : mg "BookError" = some (.ref (He.ga K "BookError"))
  x_BookError : Exo K (He.ga K "BookError") bmR "RuntimeError.__new__"
  g_NoTime : mg "NoTime" = some (.ref (He.ga K "NoTime"))
  x_NoTime : Exo K (He.ga K "NoTime") bmV "ValueError.__new__"
  g_NoPiece : mg "NoPiece" = some (.ref (He.ga K "NoPiece"))
  x_NoPiece : Exo K (He.ga K "NoPiece") bmV "ValueError.__new__"
  g_NoDays : mg "NoDays" = some (.ref (He.ga K "NoDays"))
  x_NoDays : Exo K (He.ga K "NoDays") bmV "ValueError.__new__"
  g_NoCard : mg "NoCard" = some (.ref (He.ga K "NoCard"))
  x_NoCard : Exo K (He.ga K "NoCard") bmV "ValueError.__new__"
  g_NoName : mg "NoName" = some (.ref (He.ga K "NoName"))
  x_NoName : Exo K (He.ga K "NoName") bmV "ValueError.__new__"
  g_NoRow : mg "NoRow" = some (.ref (He.ga K "NoRow"))
  x_NoRow : Exo K (He.ga K "NoRow") bmV "ValueError.__new__"
  g_NoText : mg "NoText" = some (.ref (He.ga K "NoText"))
  g_Going : mg "Going" = some (.ref (He.ga K "Going"))
  sys : SysK K
  c_Going : Cls K (He.ga K "Going")
  i_Going : InsC K (He.ga K "Going")
  a_Going_moment : NoAttr K (He.ga K "Going") "moment"
  a_Going_notes : NoAttr K (He.ga K "Going") "notes"
  m_Going_init : Meth K (He.ga K "Going") "__init__" (He.ma K (He.ga K "Going") "__init__")
  m_Going_eq : Meth K (He.ga K "Going") "__eq__" (He.ma K (He.ga K "Going") "__eq__")
  m_Going_str : Meth K (He.ga K "Going") "__str__" (He.ma K (He.ga K "Going") "__str__")
  m_Going_repr : Meth K (He.ga K "Going") "__repr__" (He.ma K (He.ga K "Going") "__repr__")
  mk_Going : Mk K (He.ga K "Going") (He.ma K (He.ga K "Going") "__init__")
  nb_Going : NoBase K (He.ga K "Going")
  kit_Going_Going : PySem.W.kitOne K (.ref (He.ga K "Going")) (.ref (He.ga K "Going")) = some true
  kit_Going_int : PySem.W.kitOne K (.ref (He.ga K "Going")) (.type "int") = some false
  kit_Going_bool : PySem.W.kitOne K (.ref (He.ga K "Going")) (.type "bool") = some false
  kit_Going_str : PySem.W.kitOne K (.ref (He.ga K "Going")) (.type "str") = some false
  kit_Going_list : PySem.W.kitOne K (.ref (He.ga K "Going")) (.type "list") = some false
  kit_Going_tuple : PySem.W.kitOne K (.ref (He.ga K "Going")) (.type "tuple") = some false
  kit_Going_ValueError : PySem.W.kitOne K (.ref (He.ga K "Going")) (.type "ValueError") = some false
  kit_int_Going : PySem.W.kitOne K (.type "int") (.ref (He.ga K "Going")) = some false
  kit_bool_Going : PySem.W.kitOne K (.type "bool") (.ref (He.ga K "Going")) = some false
  kit_str_Going : PySem.W.kitOne K (.type "str") (.ref (He.ga K "Going")) = some false
  kit_NoneType_Going : PySem.W.kitOne K (.type "NoneType") (.ref (He.ga K "Going")) = some false
  kit_list_Going : PySem.W.kitOne K (.type "list") (.ref (He.ga K "Going")) = some false
  kit_tuple_Going : PySem.W.kitOne K (.type "tuple") (.ref (He.ga K "Going")) = some false
  kit_dict_Going : PySem.W.kitOne K (.type "dict") (.ref (He.ga K "Going")) = some false
  exm_NoTime_GoingError : PySem.W.exmOne K (.ref (He.ga K "NoTime")) (.ref (He.ga K "GoingError")) = some true
  xc_NoTime : ExcC K (He.ga K "NoTime")
  kit_NoTime_GoingError : PySem.W.kitOne K (.ref (He.ga K "NoTime")) (.ref (He.ga K "GoingError")) = some true
  kit_NoTime_LackError : PySem.W.kitOne K (.ref (He.ga K "NoTime")) (.ref (He.ga K "LackError")) = some false
  kit_NoTime_BookError : PySem.W.kitOne K (.ref (He.ga K "NoTime")) (.ref (He.ga K "BookError")) = some false
  kit_NoTime_NoTime : PySem.W.kitOne K (.ref (He.ga K "NoTime")) (.ref (He.ga K "NoTime")) = some true
  kit_NoTime_NoPiece : PySem.W.kitOne K (.ref (He.ga K "NoTime")) (.ref (He.ga K "NoPiece")) = some false
  kit_NoTime_NoDays : PySem.W.kitOne K (.ref (He.ga K "NoTime")) (.ref (He.ga K "NoDays")) = some false
  kit_NoTime_NoCard : PySem.W.kitOne K (.ref (He.ga K "NoTime")) (.ref (He.ga K "NoCard")) = some false
  kit_NoTime_NoName : PySem.W.kitOne K (.ref (He.ga K "NoTime")) (.ref (He.ga K "NoName")) = some false
  kit_NoTime_NoRow : PySem.W.kitOne K (.ref (He.ga K "NoTime")) (.ref (He.ga K "NoRow")) = some false
  kit_NoTime_NoText : PySem.W.kitOne K (.ref (He.ga K "NoTime")) (.ref (He.ga K "NoText")) = some false
  kit_NoTime_ValueError : PySem.W.kitOne K (.ref (He.ga K "NoTime")) (.type "ValueError") = some true
  kit_NoTime_LookupError : PySem.W.kitOne K (.ref (He.ga K "NoTime")) (.type "LookupError") = some false
  kit_NoTime_RuntimeError : PySem.W.kitOne K (.ref (He.ga K "NoTime")) (.type "RuntimeError") = some false
  exm_NoTime : PySem.W.exmAny K (.ref (He.ga K "NoTime")) [.ref (He.ga K "GoingError"), .ref (He.ga K "LackError"), .ref (He.ga K "BookError")] = some true
  exm_NoCard_GoingError : PySem.W.exmOne K (.ref (He.ga K "NoCard")) (.ref (He.ga K "GoingError")) = some true
  xc_NoCard : ExcC K (He.ga K "NoCard")
  kit_NoCard_GoingError : PySem.W.kitOne K (.ref (He.ga K "NoCard")) (.ref (He.ga K "GoingError")) = some true
  kit_NoCard_LackError : PySem.W.kitOne K (.ref (He.ga K "NoCard")) (.ref (He.ga K "LackError")) = some false
  kit_NoCard_BookError : PySem.W.kitOne K (.ref (He.ga K "NoCard")) (.ref (He.ga K "BookError")) = some false
  kit_NoCard_NoTime : PySem.W.kitOne K (.ref (He.ga K "NoCard")) (.ref (He.ga K "NoTime")) = some false
  kit_NoCard_NoPiece : PySem.W.kitOne K (.ref (He.ga K "NoCard")) (.ref (He.ga K "NoPiece")) = some false
  kit_NoCard_NoDays : PySem.W.kitOne K (.ref (He.ga K "NoCard")) (.ref (He.ga K "NoDays")) = some false
  kit_NoCard_NoCard : PySem.W.kitOne K (.ref (He.ga K "NoCard")) (.ref (He.ga K "NoCard")) = some true
  kit_NoCard_NoName : PySem.W.kitOne K (.ref (He.ga K "NoCard")) (.ref (He.ga K "NoName")) = some false
  kit_NoCard_NoRow : PySem.W.kitOne K (.ref (He.ga K "NoCard")) (.ref (He.ga K "NoRow")) = some false
  kit_NoCard_NoText : PySem.W.kitOne K (.ref (He.ga K "NoCard")) (.ref (He.ga K "NoText")) = some false
  kit_NoCard_ValueError : PySem.W.kitOne K (.ref (He.ga K "NoCard")) (.type "ValueError") = some true
  kit_NoCard_LookupError : PySem.W.kitOne K (.ref (He.ga K "NoCard")) (.type "LookupError") = some false
  kit_NoCard_RuntimeError : PySem.W.kitOne K (.ref (He.ga K "NoCard")) (.type "RuntimeError") = some false
  exm_NoCard : PySem.W.exmAny K (.ref (He.ga K "NoCard")) [.ref (He.ga K "GoingError"), .ref (He.ga K "LackError"), .ref (He.ga K "BookError")] = some true
  f_NoText_init : ∃ fd, FunD K "__init__" "NoText.__init__" (defArgs s_NoText_init) (defBody s_NoText_init) (defScope s_NoText_init) [] [] (He.ma K (He.ga K "NoText") "__init__") fd
  f_is_whole : ∃ fd, FunD K "is_whole" "is_whole" (defArgs s_is_whole) (defBody s_is_whole) (defScope s_is_whole) [] [] (He.ga K "is_whole") fd
  f_is_moment : ∃ fd, FunD K "is_moment" "is_moment" (defArgs s_is_moment) (defBody s_is_moment) (defScope s_is_moment) [] [] (He.ga K "is_moment") fd
  f_want_moment : ∃ fd, FunD K "want_moment" "want_moment" (defArgs s_want_moment) (defBody s_want_moment) (defScope s_want_moment) [] [] (He.ga K "want_moment") fd
  f_clock_of : ∃ fd, FunD K "clock_of" "clock_of" (defArgs s_clock_of) (defBody s_clock_of) (defScope s_clock_of) [] [] (He.ga K "clock_of") fd
  f_show_moment : ∃ fd, FunD K "show_moment" "show_moment" (defArgs s_show_moment) (defBody s_show_moment) (defScope s_show_moment) [] [] (He.ga K "show_moment") fd
  f_is_name : ∃ fd, FunD K "is_name" "is_name" (defArgs s_is_name) (defBody s_is_name) (defScope s_is_name) [] [] (He.ga K "is_name") fd
  f_notes_of : ∃ fd, FunD K "notes_of" "notes_of" (defArgs s_notes_of) (defBody s_notes_of) (defScope s_notes_of) [] [] (He.ga K "notes_of") fd
  f_Going_init : ∃ fd, FunD K "__init__" "Going.__init__" (defArgs s_Going_init) (defBody s_Going_init) (defScope s_Going_init) [.non] [] (He.ma K (He.ga K "Going") "__init__") fd
  f_Going_eq : ∃ fd, FunD K "__eq__" "Going.__eq__" (defArgs s_Going_eq) (defBody s_Going_eq) (defScope s_Going_eq) [] [] (He.ma K (He.ga K "Going") "__eq__") fd
  f_Going_str : ∃ fd, FunD K "__str__" "Going.__str__" (defArgs s_Going_str) (defBody s_Going_str) (defScope s_Going_str) [] [] (He.ma K (He.ga K "Going") "__str__") fd
  f_Going_repr : ∃ fd, FunD K "__repr__" "Going.__repr__" (defArgs s_Going_repr) (defBody s_Going_repr) (defScope s_Going_repr) [] [] (He.ma K (He.ga K "Going") "__repr__") fd
  f__law_pot : ∃ fd, FunD K "_law_pot" "_law_pot" (defArgs s__law_pot) (defBody s__law_pot) (defScope s__law_pot) [] [] (He.ga K "_law_pot") fd
  f__law_take : ∃ fd, FunD K "_law_take" "_law_take" (defArgs s__law_take) (defBody s__law_take) (defScope s__law_take) [] [] (He.ga K "_law_take") fd
  f__law_great : ∃ fd, FunD K "_law_great" "_law_great" (defArgs s__law_great) (defBody s__law_great) (defScope s__law_great) [] [] (He.ga K "_law_great") fd
  f__law_name : ∃ fd, FunD K "_law_name" "_law_name" (defArgs s__law_name) (defBody s__law_name) (defScope s__law_name) [] [] (He.ga K "_law_name") fd
  f__law_notes_drawn : ∃ fd, FunD K "_law_notes_drawn" "_law_notes_drawn" (defArgs s__law_notes_drawn) (defBody s__law_notes_drawn) (defScope s__law_notes_drawn) [] [] (He.ga K "_law_notes_drawn") fd
  f__law_text : ∃ fd, FunD K "_law_text" "_law_text" (defArgs s__law_text) (defBody s__law_text) (defScope s__law_text) [] [] (He.ga K "_law_text") fd
  f__law_word : ∃ fd, FunD K "_law_word" "_law_word" (defArgs s__law_word) (defBody s__law_word) (defScope s__law_word) [] [] (He.ga K "_law_word") fd
  f__law_refused : ∃ fd, FunD K "_law_refused" "_law_refused" (defArgs s__law_refused) (defBody s__law_refused) (defScope s__law_refused) [] [] (He.ga K "_law_refused") fd
  f__law_made_right : ∃ fd, FunD K "_law_made_right" "_law_made_right" (defArgs s__law_made_right) (defBody s__law_made_right) (defScope s__law_made_right) [] [] (He.ga K "_law_made_right") fd
  f__law_alike_right : ∃ fd, FunD K "_law_alike_right" "_law_alike_right" (defArgs s__law_alike_right) (defBody s__law_alike_right) (defScope s__law_alike_right) [] [] (He.ga K "_law_alike_right") fd
  f__law_refusals_right : ∃ fd, FunD K "_law_refusals_right" "_law_refusals_right" (defArgs s__law_refusals_right) (defBody s__law_refusals_right) (defScope s__law_refusals_right) [] [] (He.ga K "_law_refusals_right") fd
  f_law : ∃ fd, FunD K "law" "law" (defArgs s_law) (defBody s_law) (defScope s_law) [] [] (He.ga K "law") fd
end Toy
namespace Toy
open PySem PySem.Spec PyProof.Rows L2 L3
theorem Env.k_is_whole {K : PySem.W.Frag} {mg : Str → Option Value} (T : Env K mg) : PySem.W.keepIn K (.ref (He.ga K "is_whole")) = true := let ⟨_, F⟩ := T.f_is_whole; F.kp
theorem Env.k_is_moment {K : PySem.W.Frag} {mg : Str → Option Value} (T : Env K mg) : PySem.W.keepIn K (.ref (He.ga K "is_moment")) = true := let ⟨_, F⟩ := T.f_is_moment; F.kp
theorem Env.k_want_moment {K : PySem.W.Frag} {mg : Str → Option Value} (T : Env K mg) : PySem.W.keepIn K (.ref (He.ga K "want_moment")) = true := let ⟨_, F⟩ := T.f_want_moment; F.kp
theorem Env.k_clock_of {K : PySem.W.Frag} {mg : Str → Option Value} (T : Env K mg) : PySem.W.keepIn K (.ref (He.ga K "clock_of")) = true := let ⟨_, F⟩ := T.f_clock_of; F.kp
theorem Env.k_show_moment {K : PySem.W.Frag} {mg : Str → Option Value} (T : Env K mg) : PySem.W.keepIn K (.ref (He.ga K "show_moment")) = true := let ⟨_, F⟩ := T.f_show_moment; F.kp
theorem Env.k_is_name {K : PySem.W.Frag} {mg : Str → Option Value} (T : Env K mg) : PySem.W.keepIn K (.ref (He.ga K "is_name")) = true := let ⟨_, F⟩ := T.f_is_name; F.kp
theorem Env.k_notes_of {K : PySem.W.Frag} {mg : Str → Option Value} (T : Env K mg) : PySem.W.keepIn K (.ref (He.ga K "notes_of")) = true := let ⟨_, F⟩ := T.f_notes_of; F.kp
theorem Env.k__law_pot {K : PySem.W.Frag} {mg : Str → Option Value} (T : Env K mg) : PySem.W.keepIn K (.ref (He.ga K "_law_pot")) = true := let ⟨_, F⟩ := T.f__law_pot; F.kp
theorem Env.k__law_take {K : PySem.W.Frag} {mg : Str → Option Value} (T : Env K mg) : PySem.W.keepIn K (.ref (He.ga K "_law_take")) = true := let ⟨_, F⟩ := T.f__law_take; F.kp
theorem Env.k__law_great {K : PySem.W.Frag} {mg : Str → Option Value} (T : Env K mg) : PySem.W.keepIn K (.ref (He.ga K "_law_great")) = true := let ⟨_, F⟩ := T.f__law_great; F.kp
theorem Env.k__law_name {K : PySem.W.Frag} {mg : Str → Option Value} (T : Env K mg) : PySem.W.keepIn K (.ref (He.ga K "_law_name")) = true := let ⟨_, F⟩ := T.f__law_name; F.kp
theorem Env.k__law_notes_drawn {K : PySem.W.Frag} {mg : Str → Option Value} (T : Env K mg) : PySem.W.keepIn K (.ref (He.ga K "_law_notes_drawn")) = true := let ⟨_, F⟩ := T.f__law_notes_drawn; F.kp
theorem Env.k__law_text {K : PySem.W.Frag} {mg : Str → Option Value} (T : Env K mg) : PySem.W.keepIn K (.ref (He.ga K "_law_text")) = true := let ⟨_, F⟩ := T.f__law_text; F.kp
theorem Env.k__law_word {K : PySem.W.Frag} {mg : Str → Option Value} (T : Env K mg) : PySem.W.keepIn K (.ref (He.ga K "_law_word")) = true := let ⟨_, F⟩ := T.f__law_word; F.kp
theorem Env.k__law_refused {K : PySem.W.Frag} {mg : Str → Option Value} (T : Env K mg) : PySem.W.keepIn K (.ref (He.ga K "_law_refused")) = true := let ⟨_, F⟩ := T.f__law_refused; F.kp
theorem Env.k__law_made_right {K : PySem.W.Frag} {mg : Str → Option Value} (T : Env K mg) : PySem.W.keepIn K (.ref (He.ga K "_law_made_right")) = true := let ⟨_, F⟩ := T.f__law_made_right; F.kp
theorem Env.k__law_alike_right {K : PySem.W.Frag} {mg : Str → Option Value} (T : Env K mg) : PySem.W.keepIn K (.ref (He.ga K "_law_alike_right")) = true := let ⟨_, F⟩ := T.f__law_alike_right; F.kp
theorem Env.k__law_refusals_right {K : PySem.W.Frag} {mg : Str → Option Value} (T : Env K mg) : PySem.W.keepIn K (.ref (He.ga K "_law_refusals_right")) = true := let ⟨_, F⟩ := T.f__law_refusals_right; F.kp
section
def sp_is_whole (K : PySem.W.Frag) : Sp := fun vs H Q _ => ∃ x, vs = [x] ∧ Cl K H x ∧ Q (.bl (isW x)) H
theorem fb_is_whole {P : Program} {w : World} {K : PySem.W.Frag} {mg : Str → Option Value} {base : Heap} (T : Env K mg) : ∃ fd, FunD K "is_whole" "is_whole" (defArgs s_is_whole) (defBody s_is_whole) (defScope s_is_whole) [] [] (He.ga K "is_whole") fd ∧ Fb P w K mg base 1 (He.ga K "is_whole") fd ["thing"] (sp_is_whole K) := by
  obtain ⟨fd, F⟩ := T.f_is_whole
  refine ⟨fd, F, fb_of F sc_is_whole (fun vs H Q E h => ?_) (fun cdv A outer s H vs Q E hr h => ?_)⟩
  · obtain ⟨x, rfl, _⟩ := h
    rfl
  · obtain ⟨x, rfl, ⟨t, b, c, ty, h1, h2, e⟩, q⟩ := h
    refine ⟨_, (pss_one (ps_ret (pe_and (pe_callB call_isi (by rfl) T.n_isinstance (by decide +kernel) (pa_cons (pv 0) (pa_cons (pe_bltn (v := .ty "int") (by rfl) T.n_int (by decide +kernel) rfl) pa_nil))) (pe_one (pe_not (pe_callB call_isi (by rfl) T.n_isinstance (by decide +kernel) (pa_cons (pv 0) (pa_cons (pe_bltn (v := .ty "bool") (by rfl) T.n_bool (by decide +kernel) rfl) pa_nil)))))))), ?_⟩
    refine ⟨x, rfl, x, .ty "int", t, _, b, rfl, .ty "int", ty, h1, b, rfl, ?_⟩
    rw [e] at q
    cases b with
    | false => exact q
    | true => exact ⟨x, rfl, x, .ty "bool", t, _, c, rfl, .ty "bool", ty, h2, c, rfl, q⟩
theorem ok_is_whole {P : Program} {w : World} {K : PySem.W.Frag} {mg : Str → Option Value} {base : Heap} (T : Env K mg) : Fc P w K mg base 1 (He.ga K "is_whole") [] (sp_is_whole K ) := by
  obtain ⟨fd, D, F⟩ := fb_is_whole T
  exact F.all (D.bindsN fun _ _ _ _ _ _ us hl => match us, hl with | [_], _ => rfl)
end
section
def sp_is_moment (K : PySem.W.Frag) : Sp := fun vs H Q _ => ∃ x, vs = [x] ∧ Cl K H x ∧ Q (.bl (isM x)) H
theorem fb_is_moment {P : Program} {w : World} {K : PySem.W.Frag} {mg : Str → Option Value} {base : Heap} (T : Env K mg) : ∃ fd, FunD K "is_moment" "is_moment" (defArgs s_is_moment) (defBody s_is_moment) (defScope s_is_moment) [] [] (He.ga K "is_moment") fd ∧ Fb P w K mg base 2 (He.ga K "is_moment") fd ["thing"] (sp_is_moment K) := by
  obtain ⟨fd, F⟩ := T.f_is_moment
  refine ⟨fd, F, fb_of F sc_is_moment (fun vs H Q E h => ?_) (fun cdv A outer s H vs Q E hr h => ?_)⟩
  · obtain ⟨x, rfl, _⟩ := h
    rfl
  · obtain ⟨x, rfl, cl, q⟩ := h
    refine ⟨_, (pss_one (ps_ret (pe_and (c_call (ok_is_whole T) (hr.mono (by decide)) T.g_is_whole T.k_is_whole takes0 (pa_cons (pv 0) pa_nil)) (pe_one (pe_cmpR op_ge (pv 0) pe_int (nomark _)))))), ?_⟩
    refine ⟨x, rfl, x, rfl, cl, isW x, rfl, ?_⟩
    cases x with
    | int i => exact ⟨_, rfl, i, 0, rfl, rfl, q⟩
    | _ => exact q
theorem ok_is_moment {P : Program} {w : World} {K : PySem.W.Frag} {mg : Str → Option Value} {base : Heap} (T : Env K mg) : Fc P w K mg base 2 (He.ga K "is_moment") [] (sp_is_moment K ) := by
  obtain ⟨fd, D, F⟩ := fb_is_moment T
  exact F.all (D.bindsN fun _ _ _ _ _ _ us hl => match us, hl with | [_], _ => rfl)
end
section
def sp_want_moment (K : PySem.W.Frag) : Sp := fun vs H Q E => ∃ x, vs = [x] ∧ Cl K H x ∧ (isM x = true → Q .non H) ∧ (isM x = false → E (.ref (He.ga K "NoTime")) none H)
theorem fb_want_moment {P : Program} {w : World} {K : PySem.W.Frag} {mg : Str → Option Value} {base : Heap} (T : Env K mg) : ∃ fd, FunD K "want_moment" "want_moment" (defArgs s_want_moment) (defBody s_want_moment) (defScope s_want_moment) [] [] (He.ga K "want_moment") fd ∧ FbN P w K mg base 3 (He.ga K "want_moment") fd ["thing"] (sp_want_moment K) := by
  obtain ⟨fd, F⟩ := T.f_want_moment
  refine ⟨fd, F, fbN_of F sc_want_moment (fun vs H Q E h => ?_) (fun cdv A outer s H vs Q E hr h => ?_)⟩
  · obtain ⟨x, rfl, _⟩ := h
    rfl
  · obtain ⟨x, rfl, cl, q, qe⟩ := h
    refine ⟨_, (pss_one (ps_if (pt_not (pt_val (c_call (ok_is_moment T) (hr.mono (by decide)) T.g_is_moment T.k_is_moment takes0 (pa_cons (pv 0) pa_nil))))
      (pss_one (L2N.ps_raise rfl (L2N.takes_of rfl rfl rfl rfl) (L2N.pmk_own PySem.F.excBase_ValueError T.x_NoTime.x T.g_NoTime T.x_NoTime.kp (raises_own T.x_NoTime.sub T.x_NoTime.ty) rfl)))
      pss_nil)), ?_⟩
    refine ⟨x, rfl, x, rfl, cl, isM x, rfl, ?_⟩
    cases e : isM x with
    | true => exact q e
    | false => exact qe e
theorem okN_want_moment {P : Program} {w : World} {K : PySem.W.Frag} {mg : Str → Option Value} {base : Heap} (T : Env K mg) : FcN P w K mg base 3 (He.ga K "want_moment") [] (sp_want_moment K ) := by
  obtain ⟨fd, D, F⟩ := fb_want_moment T
  exact F.all (D.bindsN fun _ _ _ _ _ _ us hl => match us, hl with | [_], _ => rfl)
theorem ok_want_moment {P : Program} {w : World} {K : PySem.W.Frag} {mg : Str → Option Value} {base : Heap} (T : Env K mg) : Fc P w K mg base 3 (He.ga K "want_moment") [] (sp_want_moment K ) := (okN_want_moment T).fc
end
section
def clockV (m : Int) : List V := [.int (m / 1440), .int (m % 1440 / 60), .int (m % 60)]
def sp_clock_of (K : PySem.W.Frag) : Sp := fun vs H Q E => ∃ x, vs = [x] ∧ Cl K H x ∧ (∀ m : Int, x = .int m → 0 ≤ m → ∀ p, H p = none → Q (.ref p) (upd H p (.tup (clockV m)))) ∧ (isM x = false → E (.ref (He.ga K "NoTime")) none H)
theorem fb_clock_of {P : Program} {w : World} {K : PySem.W.Frag} {mg : Str → Option Value} {base : Heap} (T : Env K mg) : ∃ fd, FunD K "clock_of" "clock_of" (defArgs s_clock_of) (defBody s_clock_of) (defScope s_clock_of) [] [] (He.ga K "clock_of") fd ∧ Fb P w K mg base 4 (He.ga K "clock_of") fd ["moment"] (sp_clock_of K) := by
  obtain ⟨fd, F⟩ := T.f_clock_of
  refine ⟨fd, F, fb_of F sc_clock_of (fun vs H Q E h => ?_) (fun cdv A outer s H vs Q E hr h => ?_)⟩
  · obtain ⟨x, rfl, _⟩ := h
    rfl
  · obtain ⟨x, rfl, cl, q, qe⟩ := h
    refine ⟨_, (pss_cons (ps_expr (c_call (ok_want_moment T) (hr.mono (by decide)) T.g_want_moment T.k_want_moment (takes_of rfl rfl rfl rfl) (pa_cons (pv 0) pa_nil)))
      (pss_one (ps_ret (pe_tup (pa_cons (pe_op op_fdiv (pv 0) (pe_k T.v_DAY)) (pa_cons (pe_op op_fdiv (pe_op op_mod (pv 0) (pe_k T.v_DAY)) (pe_k T.v_HOUR)) (pa_cons (pe_op op_mod (pv 0) (pe_k T.v_HOUR)) pa_nil))))))), ?_⟩
    refine ⟨x, rfl, x, rfl, cl, fun e => ?_, qe⟩
    obtain ⟨m, rfl, hm⟩ := isM_w e
    refine ⟨_, rfl, _, _, rfl, rfl, ⟨by decide, by decide⟩, _, rfl, _, _, rfl, rfl, (by show (0 : Int) < 1440; decide), _, _, rfl, rfl, ⟨by decide, by decide⟩, _, rfl, _, _, rfl, rfl, (by show (0 : Int) < 60; decide), by show 3 ≤ sizeLine; decide, fun p hp => ?_⟩
    exact q m rfl hm p hp
theorem ok_clock_of {P : Program} {w : World} {K : PySem.W.Frag} {mg : Str → Option Value} {base : Heap} (T : Env K mg) : Fc P w K mg base 4 (He.ga K "clock_of") [] (sp_clock_of K ) := by
  obtain ⟨fd, D, F⟩ := fb_clock_of T
  exact F.all (D.bindsN fun _ _ _ _ _ _ us hl => match us, hl with | [_], _ => rfl)
end
section
def sp_show_moment (K : PySem.W.Frag) : Sp := fun vs H Q E => ∃ x, vs = [x] ∧ Cl K H x ∧ (∀ m : Nat, x = .int m → m < 10 ^ 255 ∧ ∀ H', Ex H H' → Q (.str (SX.S (Mo.shw m))) H') ∧ (isM x = false → E (.ref (He.ga K "NoTime")) none H)
theorem str_two : ∀ m : Nat, m < 60 → Txt.zfill (Str.ofString (toString ((m : Nat) : Int))) 2 = SX.S (Mo.two m) := by
  intro m h
  have all : ∀ m, m < 60 → TL.tl (Txt.zfill (Str.ofString (toString ((m : Nat) : Int))) 2) = Mo.two m := by decide +kernel
  exact TL.ext_tl (all m h)
theorem log_small {n : Nat} (h : n < 10 ^ 255) : ((n : Nat) : Int).natAbs.log2 < 1920 := PySem.Flt.log2_lt_of (by decide) (Nat.lt_trans (show ((n : Nat) : Int).natAbs < 10 ^ 255 by rw [Int.natAbs_natCast]; exact h) (by decide +kernel))
theorem fb_show_moment {P : Program} {w : World} {K : PySem.W.Frag} {mg : Str → Option Value} {base : Heap} (T : Env K mg) : ∃ fd, FunD K "show_moment" "show_moment" (defArgs s_show_moment) (defBody s_show_moment) (defScope s_show_moment) [] [] (He.ga K "show_moment") fd ∧ Fb P w K mg base 5 (He.ga K "show_moment") fd ["moment"] (sp_show_moment K) := by
  obtain ⟨fd, F⟩ := T.f_show_moment
  refine ⟨fd, F, fb_of F sc_show_moment (fun vs H Q E h => ?_) (fun cdv A outer s H vs Q E hr h => ?_)⟩
  · obtain ⟨x, rfl, _⟩ := h
    rfl
  · obtain ⟨x, rfl, cl, q, qe⟩ := h
    refine ⟨_, (pss_cons (ps_asg (c_call (ok_clock_of T) (hr.mono (by decide)) T.g_clock_of T.k_clock_of (takes_of rfl rfl rfl rfl) (pa_cons (pv 0) pa_nil)) (pg_tup (by rfl) (pgs_cons (pg_name (i := 1) sc_show_moment.nd rfl (Or.inl rfl)) (pgs_cons (pg_name (i := 2) sc_show_moment.nd rfl (Or.inl rfl)) (pgs_cons (pg_name (i := 3) sc_show_moment.nd rfl (Or.inl rfl)) pgs_nil)))))
      (pss_cons (ps_set (i := 4) sc_show_moment.nd rfl (Or.inl rfl) (pe_op op_add_str (pe_op op_add_str (pe_callTy call_str_int (by rfl) T.n_str (by decide +kernel) (pa_cons (pv 2) pa_nil)) (pe_k T.v_COLON)) (pe_bm PySem.F.plainAttrs_str PySem.F.slot_str_zfill PySem.F.type_str_zfill mt_zfill (pe_callTy call_str_int (by rfl) T.n_str (by decide +kernel) (pa_cons (pv 3) pa_nil)) (pa_cons pe_int pa_nil))))
      (pss_cons (ps_if (pt_cmpR op_eq (pv 1) pe_int (nomark _))
      (pss_one (ps_ret (pv 4)))
      pss_nil)
      (pss_one (ps_ret (pe_op op_add_str (pe_op op_add_str (pe_callTy call_str_int (by rfl) T.n_str (by decide +kernel) (pa_cons (pv 1) pa_nil)) (pe_k T.v_BLANK)) (pv 4))))))), ?_⟩
    refine ⟨x, rfl, x, rfl, cl, fun m e m0 t nt => ?_, qe⟩
    obtain ⟨m, rfl⟩ := Int.eq_ofNat_of_zero_le m0
    subst e
    obtain ⟨mb, q⟩ := q m rfl
    have X1 : Ex H (upd H t (.tup (clockV m))) := ex_new nt
    refine ⟨t, _, rfl, sq_tup upd_same, rfl, _, _, rfl, _, _, rfl, _, _, rfl, rfl, ?_⟩
    have e1 : ((m : Nat) : Int) / 1440 = ((m / 1440 : Nat) : Int) := by omega
    have e2 : ((m : Nat) : Int) % 1440 / 60 = ((m % 1440 / 60 : Nat) : Int) := by omega
    have e3 : ((m : Nat) : Int) % 60 = ((m % 60 : Nat) : Int) := by omega
    rw [e1, e2, e3]
    have l1 : (Mo.shw m).length ≤ 263 := Mo.shw_len (by decide) mb
    have l2 : (TL.numL (m % 1440 / 60)).length ≤ 2 := TL.numL_len (by decide) (by omega)
    have l3 : (TL.numL (m / 1440)).length ≤ 255 := TL.numL_len (by decide) (Nat.lt_of_le_of_lt (Nat.div_le_self _ _) mb)
    refine ⟨_, rfl, _, rfl, log_small (Nat.lt_of_le_of_lt (by omega) mb), ?_⟩
    rw [SX.num_S]
    have c1 : (SX.S (TL.numL (m % 1440 / 60)) ++ Str.ofString ":").length ≤ 1000 := by
      rw [TL.len_tl, TL.tl_append]
      simp only [List.length_append]
      have : (TL.tl (Str.ofString ":")).length = 1 := rfl
      show (TL.numL (m % 1440 / 60)).length + _ ≤ 1000
      omega
    refine ⟨_, _, rfl, rfl, Nat.le_of_lt (small_len (by have := SX.S_len (TL.numL (m % 1440 / 60)); have : (Str.ofString ":").length = 1 := rfl; omega)), ?_⟩
    refine ⟨_, rfl, _, rfl, log_small (Nat.lt_of_le_of_lt (Nat.mod_le _ _) mb), rfl, _, _, rfl, rfl, rfl, ?_⟩
    rw [show Txt.zfill (Str.ofString (toString ((m % 60 : Nat) : Int))) 2 = SX.S (Mo.two (m % 60)) from str_two _ (by omega)]
    refine ⟨_, _, rfl, rfl, Nat.le_of_lt (small_len (by have : (SX.S (Mo.two (m % 60))).length = 2 := rfl; omega)), ?_⟩
    have e4 : SX.S (TL.numL (m % 1440 / 60)) ++ Str.ofString ":" ++ SX.S (Mo.two (m % 60)) = SX.S (Mo.clk m) := by
      rw [show Str.ofString ":" = SX.S [58] from rfl, SX.S_cat, SX.S_cat]
      unfold Mo.clk
      simp
    rw [e4]
    have l4 : (Mo.clk m).length ≤ 5 := by
      unfold Mo.clk Mo.two
      simp
      omega
    refine ⟨_, rfl, rfl, _, rfl, ite2 (fun c => ?_) (fun c => ?_)⟩
    · have c2 : m / 1440 = 0 := by
        have := of_decide_eq_true c
        injection this with this
        omega
      refine ⟨_, rfl, ?_⟩
      have e5 : Mo.shw m = Mo.clk m := by unfold Mo.shw; rw [if_pos c2]
      rw [← e5]
      exact q _ X1
    · have c2 : ¬ m / 1440 = 0 := fun z => c (decide_eq_true (by rw [z]; rfl))
      refine ⟨_, rfl, _, rfl, log_small (Nat.lt_of_le_of_lt (Nat.div_le_self _ _) mb), ?_⟩
      rw [SX.num_S]
      refine ⟨_, _, rfl, rfl, Nat.le_of_lt (small_len (by have := SX.S_len (TL.numL (m / 1440)); have : (Str.ofString " ").length = 1 := rfl; omega)), ?_⟩
      rw [show Str.ofString " " = SX.S [32] from rfl, SX.S_cat]
      refine ⟨_, rfl, _, _, rfl, rfl, Nat.le_of_lt (small_len (by rw [SX.S_len, SX.S_len]; simp; omega)), ?_⟩
      rw [SX.S_cat]
      have e5 : Mo.shw m = TL.numL (m / 1440) ++ [32] ++ Mo.clk m := by unfold Mo.shw; rw [if_neg c2]; simp
      rw [← e5]
      exact q _ X1
theorem ok_show_moment {P : Program} {w : World} {K : PySem.W.Frag} {mg : Str → Option Value} {base : Heap} (T : Env K mg) : Fc P w K mg base 5 (He.ga K "show_moment") [] (sp_show_moment K ) := by
  obtain ⟨fd, D, F⟩ := fb_show_moment T
  exact F.all (D.bindsN fun _ _ _ _ _ _ us hl => match us, hl with | [_], _ => rfl)
end
section
/-- a name: one to eight small letters -/
def nmN (w : List Nat) : Bool := decide (1 ≤ w.length) && (decide (w.length ≤ 8) && w.all fun c => decide (97 ≤ c) && decide (c < 123))
def isNm : V → Bool
  | .str z => nmN z.cps.toList
  | _ => false
/-- a text, or what is none -/
def ClS (K : PySem.W.Frag) (H : Hp) (x : V) : Prop := (∃ z : Str, x = .str z ∧ z.length ≤ 10000) ∨ ((∀ z, x ≠ .str z) ∧ ∃ t, TyX K H x t ∧ PySem.W.kitOne K t (.type "str") = some false)
theorem ClS.no {K : PySem.W.Frag} {H : Hp} {x : V} (h : ∀ z, x ≠ .str z) : isNm x = false := by
  cases x <;> first | rfl | exact absurd rfl (h _)
theorem ClS.mono {K : PySem.W.Frag} {H H' : Hp} {x : V} (h : ClS K H x) (e : Ex H H') : ClS K H' x := h.imp id fun ⟨n, t, ty, k⟩ => ⟨n, t, tyX_mono e ty, k⟩
theorem S_of (z : Str) : SX.S z.cps.toList = z := by
  obtain ⟨⟨l⟩⟩ := z
  rfl
/-- the texts of a row of texts -/
def strL : List V → List Str
  | [] => []
  | .str z :: r => z :: strL r
  | _ :: r => strL r
theorem strL_map (ws : List Str) : strL (ws.map V.str) = ws := by
  induction ws with
  | nil => rfl
  | cons z r ih =>
    show z :: strL (r.map V.str) = _
    rw [ih]
theorem names_str : ∀ {xs : List V}, xs.all isNm = true → xs = (strL xs).map V.str
  | [], _ => rfl
  | x :: r, h => by
    rw [List.all_cons, Bool.and_eq_true] at h
    have e := names_str h.2
    cases x with
    | str z =>
      show _ = V.str z :: (strL r).map V.str
      rw [← e]
    | _ => exact absurd h.1 (by simp [isNm])
/-- the notes that a row of things stands for, or none -/
def notesR (xs : List V) : Option (List Str) := if xs.all isNm then (if (strL xs).Nodup then some (srtS (strL xs)) else none) else none
/-- what notes_of makes of a thing -/
def NtX (K : PySem.W.Frag) (H : Hp) (y : V) (r : Option (List Str)) : Prop :=
  (y = .non ∧ r = some []) ∨ (∃ a xs, y = .ref a ∧ (H a = some (.lst xs) ∨ H a = some (.tup xs)) ∧ xs.length ≤ 1000 ∧ (∀ v ∈ xs, ClS K H v) ∧ r = notesR xs) ∨
  (y ≠ .non ∧ ∃ t, TyX K H y t ∧ PySem.W.kitAny K t [.type "list", .type "tuple"] = some false ∧ r = none)
theorem NtX.mono {K : PySem.W.Frag} {H H' : Hp} {y : V} {r : Option (List Str)} (h : NtX K H y r) (e : Ex H H') : NtX K H' y r := by
  rcases h with h | ⟨a, xs, rfl, h1, h2, h3, h4⟩ | ⟨n, t, ty, k, h⟩
  · exact .inl h
  · exact .inr (.inl ⟨a, xs, rfl, h1.imp (e _ _) (e _ _), h2, fun v hv => (h3 v hv).mono e, h4⟩)
  · exact .inr (.inr ⟨n, t, tyX_mono e ty, k, h⟩)
/-- a row of names -/
def Nms (ws : List Str) : Prop := ∀ z ∈ ws, nmN z.cps.toList = true
theorem nm_facts {w : List Nat} (h : nmN w = true) : 1 ≤ w.length ∧ w.length ≤ 8 ∧ ∀ c ∈ w, 97 ≤ c ∧ c < 123 := by
  unfold nmN at h
  simp only [Bool.and_eq_true, decide_eq_true_eq, List.all_eq_true] at h
  exact ⟨h.1, h.2.1, h.2.2⟩
theorem names_nms : ∀ {xs : List V}, xs.all isNm = true → Nms (strL xs)
  | [], _, _, hz => nomatch hz
  | x :: r, h, z, hz => by
    rw [List.all_cons, Bool.and_eq_true] at h
    cases x with
    | str y =>
      rcases List.mem_cons.mp (show z ∈ y :: strL r from hz) with rfl | hz
      · exact h.1
      · exact names_nms h.2 z hz
    | _ => exact absurd h.1 (by simp [isNm])
theorem strL_len : ∀ xs : List V, (strL xs).length ≤ xs.length
  | [] => Nat.le_refl _
  | x :: r => by
    have := strL_len r
    cases x <;> simp only [strL, List.length_cons] <;> omega
theorem nt_nms {K : PySem.W.Frag} {H : Hp} {y : V} {ws : List Str} (h : NtX K H y (some ws)) : Nms ws ∧ ws.length ≤ 1000 := by
  rcases h with ⟨_, h⟩ | ⟨a, xs, _, _, hl, _, h⟩ | ⟨_, t, _, _, h⟩
  · cases h
    exact ⟨nofun, Nat.zero_le _⟩
  · unfold notesR at h
    by_cases h1 : xs.all isNm = true
    · rw [if_pos h1] at h
      by_cases h2 : (strL xs).Nodup
      · rw [if_pos h2] at h
        injection h with h
        rw [h]
        refine ⟨fun z hz => names_nms h1 z ((srtS_perm _).mem_iff.mp hz), ?_⟩
        rw [(srtS_perm _).length_eq]
        exact Nat.le_trans (strL_len xs) hl
      · rw [if_neg h2] at h
        cases h
    · rw [if_neg h1] at h
      cases h
  · cases h
theorem inV_str (z : Str) (ws : List Str) : inV (.str z) (ws.map V.str) = decide (z ∈ ws) := by
  unfold inV
  rw [List.any_map]
  apply Bool.eq_iff_iff.mpr
  rw [List.any_eq_true, decide_eq_true_eq]
  constructor
  · rintro ⟨y, hy, e⟩
    have e' : (y == z) = true := e
    rw [← eq_of_beq e']
    exact hy
  · intro h
    exact ⟨z, h, (beq_self_eq_true z : (z == z) = true)⟩
theorem names_all {ws : List Str} (h : Nms ws) : (ws.map V.str).all isNm = true := by
  rw [List.all_map]
  exact List.all_eq_true.mpr fun z hz => h z hz
theorem clS_names {K : PySem.W.Frag} {H : Hp} {ws : List Str} (h : Nms ws) : ∀ v ∈ ws.map V.str, ClS K H v := fun v hv => by
  obtain ⟨z, hz, rfl⟩ := List.mem_map.mp hv
  have h2 := (nm_facts (h z hz)).2.1
  have h3 : z.length = z.cps.toList.length := rfl
  exact .inl ⟨z, rfl, by omega⟩
theorem nt_names {K : PySem.W.Frag} {H : Hp} {a : Addr} {ws : List Str} (hx : H a = some (.lst (ws.map V.str)) ∨ H a = some (.tup (ws.map V.str))) (hw : Nms ws) (nd : ws.Nodup) (l : ws.length ≤ 1000) : NtX K H (.ref a) (some (srtS ws)) := by
  refine .inr (.inl ⟨a, _, rfl, hx, by rw [List.length_map]; exact l, clS_names hw, ?_⟩)
  unfold notesR
  rw [if_pos (names_all hw), strL_map, if_pos nd]
theorem nt_twice {K : PySem.W.Frag} {H : Hp} {a : Addr} {ws : List Str} (hx : H a = some (.lst (ws.map V.str)) ∨ H a = some (.tup (ws.map V.str))) (hw : Nms ws) (nd : ¬ ws.Nodup) (l : ws.length ≤ 1000) : NtX K H (.ref a) none := by
  refine .inr (.inl ⟨a, _, rfl, hx, by rw [List.length_map]; exact l, clS_names hw, ?_⟩)
  unfold notesR
  rw [if_pos (names_all hw), strL_map, if_neg nd]
theorem nms_perm {ws us : List Str} (p : ws.Perm us) (h : Nms us) : Nms ws := fun z hz => h z (p.mem_iff.mp hz)
theorem nt_bad {K : PySem.W.Frag} {H : Hp} {a : Addr} {xs : List V} (hx : H a = some (.lst xs)) (l : xs.length ≤ 1000) (hc : ∀ v ∈ xs, ClS K H v) (hb : xs.all isNm = false) : NtX K H (.ref a) none := by
  refine .inr (.inl ⟨a, xs, rfl, .inl hx, l, hc, ?_⟩)
  unfold notesR
  rw [hb]
  rfl
theorem nt_no {K : PySem.W.Frag} {H : Hp} {y : V} {t : Value} (n : y ≠ .non) (ty : TyX K H y t) (h1 : PySem.W.kitOne K t (.type "list") = some false) (h2 : PySem.W.kitOne K t (.type "tuple") = some false) : NtX K H y none :=
  .inr (.inr ⟨n, t, ty, kitAny_cons (b := false) h1 (fun _ => kitAny_cons (b := false) h2 (fun _ => kitAny_nil) (by decide)) (by decide), rfl⟩)
theorem clS_one {K : PySem.W.Frag} {H : Hp} {z : Str} (l : z.length ≤ 10000) : ∀ v ∈ [V.str z], ClS K H v := fun v hv => by
  rw [List.mem_singleton.mp hv]
  exact .inl ⟨z, rfl, l⟩
end
section
theorem abc_in (c : Nat) : decide (c ∈ (Str.ofString "abcdefghijklmnopqrstuvwxyz").cps.toList) = (decide (97 ≤ c) && decide (c < 123)) := by
  have e : (Str.ofString "abcdefghijklmnopqrstuvwxyz").cps.toList = [97, 98, 99, 100, 101, 102, 103, 104, 105, 106, 107, 108, 109, 110, 111, 112, 113, 114, 115, 116, 117, 118, 119, 120, 121, 122] := rfl
  rw [e, ← Bool.decide_and]
  apply decide_eq_decide.mpr
  simp only [List.mem_cons, List.not_mem_nil, or_false]
  omega
def sp_is_name (K : PySem.W.Frag) : Sp := fun vs H Q _ => ∃ x, vs = [x] ∧ ClS K H x ∧ ∀ H', Ex H H' → Q (.bl (isNm x)) H'
theorem fb_is_name {P : Program} {w : World} {K : PySem.W.Frag} {mg : Str → Option Value} {base : Heap} (T : Env K mg) : ∃ fd, FunD K "is_name" "is_name" (defArgs s_is_name) (defBody s_is_name) (defScope s_is_name) [] [] (He.ga K "is_name") fd ∧ Fb P w K mg base 1 (He.ga K "is_name") fd ["thing"] (sp_is_name K) := by
  obtain ⟨fd, F⟩ := T.f_is_name
  refine ⟨fd, F, fb_of F sc_is_name (fun vs H Q E h => ?_) (fun cdv A outer s H vs Q E hr h => ?_)⟩
  · obtain ⟨x, rfl, _⟩ := h
    rfl
  · obtain ⟨x, rfl, h, q⟩ := h
    refine ⟨_, (pss_cons (ps_if (PW.pt (pw_or (pt_not (pt_val (pe_callB call_isi (by rfl) T.n_isinstance (by decide +kernel) (pa_cons (pv 0) (pa_cons (pe_bltn (v := .ty "str") (by rfl) T.n_str (by decide +kernel) rfl) pa_nil))))) (pw_or (pt_cmpR op_lt (pe_callB call_len (by rfl) T.n_len (by decide +kernel) (pa_cons (pv 0) pa_nil)) pe_int (nomark _)) (pw_or1 (pt_cmpR op_gt (pe_callB call_len (by rfl) T.n_len (by decide +kernel) (pa_cons (pv 0) pa_nil)) (pe_k T.v_LONGEST_NAME) (nomark _))))))
      (pss_one (ps_ret pe_bl))
      pss_nil)
      (pss_one (ps_ret (pe_callB (cr_all rfl) (by rfl) T.n_all (by decide +kernel) (pa_cons (pe_lc (own := [("sign", 1)]) (by rfl) sc_is_name.nd (pi_str (pv 0)) (blkOk_by (own := [("sign", 1)]) (N := ["thing", "sign"]) (sc := defScope s_is_name) (by decide +kernel)) (fun _ _ _ _ _ => (pg_name (i := 1) sc_is_name.nd rfl (Or.inl rfl))) (fun _ _ _ _ _ => pts_nil) (fun _ _ _ _ _ => (pe_cmpR op_in_sign (pv 1) (pe_k T.v_NAME_SIGNS) (by rfl)))) pa_nil))))), ?_⟩
    rcases h with ⟨z, rfl, hz⟩ | ⟨n, t, ty, kt⟩
    · have q2 : ∀ H', Ex H H' → Q (.bl (nmN z.cps.toList)) H' := q
      have ez := S_of z
      generalize z.cps.toList = l at q2 ez
      subst ez
      rw [SX.S_len] at hz
      have kt : PySem.W.kitOne K (.type "str") (.type "str") = some true := kit_ty (by decide +kernel)
      by_cases c1 : l.length < 1
      · have e : nmN l = false := by unfold nmN; rw [decide_eq_false (by omega)]; rfl
        rw [e] at q2
        refine ⟨_, rfl, _, _, _, _, _, rfl, .ty _, .base (.str _), (kit_ty (r := true) (by decide +kernel)), _, rfl, _, rfl, _, _, rfl, ⟨(sz_big (by rw [SX.S_len]; omega)), rfl⟩, _, _, rfl, rfl, _, rfl, ?_⟩
        rw [SX.S_len, decide_eq_true (show ((l.length : Nat) : Int) < 1 by omega)]
        exact iteT (iteT (q2 H (.refl H)))
      by_cases c2 : 8 < l.length
      · have e : nmN l = false := by unfold nmN; rw [decide_eq_false (show ¬ l.length ≤ 8 by omega), Bool.false_and, Bool.and_false]
        rw [e] at q2
        refine ⟨_, rfl, _, _, _, _, _, rfl, .ty _, .base (.str _), (kit_ty (r := true) (by decide +kernel)), _, rfl, _, rfl, _, _, rfl, ⟨(sz_big (by rw [SX.S_len]; omega)), rfl⟩, _, _, rfl, rfl, _, rfl, ?_⟩
        rw [SX.S_len, decide_eq_false (show ¬ ((l.length : Nat) : Int) < 1 by omega)]
        refine iteF ⟨_, rfl, _, _, rfl, ⟨(sz_big (by rw [SX.S_len]; omega)), rfl⟩, _, _, rfl, rfl, _, rfl, ?_⟩
        rw [SX.S_len, decide_eq_true (show (8 : Int) < ((l.length : Nat) : Int) by omega)]
        exact iteT (q2 H (.refl H))
      have e : nmN l = l.all fun c => decide (97 ≤ c) && decide (c < 123) := by
        unfold nmN
        rw [decide_eq_true (by omega), decide_eq_true (by omega)]
        rfl
      rw [e] at q2
      refine ⟨_, rfl, _, _, _, _, _, rfl, .ty _, .base (.str _), (kit_ty (r := true) (by decide +kernel)), _, rfl, _, rfl, _, _, rfl, ⟨(sz_big (by rw [SX.S_len]; omega)), rfl⟩, _, _, rfl, rfl, _, rfl, ?_⟩
      rw [SX.S_len, decide_eq_false (show ¬ ((l.length : Nat) : Int) < 1 by omega)]
      refine iteF ⟨_, rfl, _, _, rfl, ⟨(sz_big (by rw [SX.S_len]; omega)), rfl⟩, _, _, rfl, rfl, _, rfl, ?_⟩
      rw [SX.S_len, decide_eq_false (show ¬ (8 : Int) < ((l.length : Nat) : Int) by omega)]
      refine iteF ⟨_, rfl, _, rfl, fun D nD => lc_fm L2.walk_str (fun i => some (.bl (decide (97 ≤ l.getD i 0) && decide (l.getD i 0 < 123)))) (fun H' => Ex H H') (fun H' z e => ex_mut e nD) (.refl H) (by show l.toArray.size ≤ 100000; simpa using Nat.le_trans hz (by decide)) (fun _ _ => trivial) (fun i x H1 H2 acc N hi e hD la y k => ?_) fun H1 e1 d1 => ?_⟩
      · obtain ⟨rfl, c, hc, rfl⟩ := y
        refine ⟨rfl, _, rfl, c, _, rfl, rfl, acc, hD, la, ?_⟩
        rw [abc_in]
        have e2 : l.getD i 0 = c := by
          have hc2 : l[i]? = some c := by simpa using hc
          rw [List.getD_eq_getElem?_getD, hc2]
          rfl
        have k2 := k H2 e hD
        rw [e2] at k2
        exact k2
      · refine ⟨D, l.map fun c => decide (97 ≤ c) && decide (c < 123), rfl, sq_lst ?_, ?_⟩
        · rw [d1]
          have e3 := range_map_get l 0 (fun c => V.bl (decide (97 ≤ c) && decide (c < 123)))
          have e4 : l.toArray.size = l.length := by simp
          show some (HO.lst (List.filterMap _ (List.range l.toArray.size))) = _
          rw [e4, e3, List.map_map]
          rfl
        · have e5 : (l.map fun c => decide (97 ≤ c) && decide (c < 123)).all id = l.all fun c => decide (97 ≤ c) && decide (c < 123) := by
            rw [List.all_map]
            rfl
          rw [e5]
          exact q2 H1 e1
    · rw [ClS.no (K := K) (H := H) n] at q
      exact ⟨_, rfl, _, _, _, _, false, rfl, .ty _, ty, kt, _, rfl, iteT (q H (.refl H))⟩
theorem ok_is_name {P : Program} {w : World} {K : PySem.W.Frag} {mg : Str → Option Value} {base : Heap} (T : Env K mg) : Fc P w K mg base 1 (He.ga K "is_name") [] (sp_is_name K ) := by
  obtain ⟨fd, D, F⟩ := fb_is_name T
  exact F.all (D.bindsN fun _ _ _ _ _ _ us hl => match us, hl with | [_], _ => rfl)
end
section
def sp_notes_of (K : PySem.W.Frag) : Sp := fun vs H Q E => ∃ y r, vs = [y] ∧ NtX K H y r ∧ (∀ ws, r = some ws → ∀ p H', Ex H H' → H p = none → H' p = some (.tup (ws.map V.str)) → Q (.ref p) H') ∧ (r = none → ∀ H', Ex H H' → E (.ref (He.ga K "NoCard")) none H')
theorem fb_notes_of {P : Program} {w : World} {K : PySem.W.Frag} {mg : Str → Option Value} {base : Heap} (T : Env K mg) : ∃ fd, FunD K "notes_of" "notes_of" (defArgs s_notes_of) (defBody s_notes_of) (defScope s_notes_of) [] [] (He.ga K "notes_of") fd ∧ Fb P w K mg base 2 (He.ga K "notes_of") fd ["notes"] (sp_notes_of K) := by
  obtain ⟨fd, F⟩ := T.f_notes_of
  refine ⟨fd, F, fb_of F sc_notes_of (fun vs H Q E h => ?_) (fun cdv A outer s H vs Q E hr h => ?_)⟩
  · obtain ⟨y, r, rfl, _⟩ := h
    rfl
  · obtain ⟨y, r, rfl, hN, q, qe⟩ := h
    refine ⟨_, (pss_cons (ps_if (pt_cmpR op_isN (pv 0) pe_non (nomark _))
      (pss_one (ps_ret (pe_tup pa_nil)))
      pss_nil)
      (pss_cons (ps_if (PW.pt (pw_or (pt_not (pt_val (pe_callB call_isiT (by rfl) T.n_isinstance (by decide +kernel) (pa_cons (pv 0) (pa_cons (pe_tup (pa_cons (pe_bltn (v := .ty "list") (by rfl) T.n_list (by decide +kernel) rfl) (pa_cons (pe_bltn (v := .ty "tuple") (by rfl) T.n_tuple (by decide +kernel) rfl) pa_nil))) pa_nil))))) (pw_or1 (pt_not (pt_val (pe_callB (cr_all rfl) (by rfl) T.n_all (by decide +kernel) (pa_cons (pe_lc (own := [("note", 1)]) (by rfl) sc_notes_of.nd (pi_seqB (pv 0) K) (blkOk_by (own := [("note", 1)]) (N := ["notes", "note"]) (sc := defScope s_notes_of) (by decide +kernel)) (fun _ _ _ _ _ => (pg_name (i := 1) sc_notes_of.nd rfl (Or.inl rfl))) (fun _ _ _ _ _ => pts_nil) (fun _ _ _ _ _ => (c_call (ok_is_name T) (hr.mono (by decide)) T.g_is_name T.k_is_name takes0 (pa_cons (pv 1) pa_nil)))) pa_nil)))))))
      (pss_one (ps_raise rfl (takes_of rfl rfl rfl rfl) (pmk_own PySem.F.excBase_ValueError T.x_NoCard.x T.g_NoCard T.x_NoCard.kp (raises_own T.x_NoCard.sub T.x_NoCard.ty) rfl)))
      pss_nil)
      (pss_cons (ps_if (pt_cmpR op_lt (pe_callB cr_lenT (by rfl) T.n_len (by decide +kernel) (pa_cons (pe_callTy (cr_setT K rfl) (by rfl) T.n_set (by decide +kernel) (pa_cons (pv 0) pa_nil)) pa_nil)) (pe_callB call_len (by rfl) T.n_len (by decide +kernel) (pa_cons (pv 0) pa_nil)) (nomark _))
      (pss_one (ps_raise rfl (takes_of rfl rfl rfl rfl) (pmk_own PySem.F.excBase_ValueError T.x_NoCard.x T.g_NoCard T.x_NoCard.kp (raises_own T.x_NoCard.sub T.x_NoCard.ty) rfl)))
      pss_nil)
      (pss_one (ps_ret (pe_callTy call_tuple_of (by rfl) T.n_tuple (by decide +kernel) (pa_cons (pe_callB (cr_sortedT K) (by rfl) T.n_sorted (by decide +kernel) (pa_cons (pv 0) pa_nil)) pa_nil))))))), ?_⟩
    rcases hN with ⟨rfl, rfl⟩ | ⟨a, xs, rfl, hx, hl, hv, rfl⟩ | ⟨n, t, ty, kt, rfl⟩
    · refine ⟨_, rfl, rfl, _, rfl, (by decide), fun a1 na1 => ?_⟩
      exact q [] rfl a1 _ (ex_new na1) na1 upd_same
    · refine ⟨_, rfl, rfl, _, rfl, ?_⟩
      rw [decide_eq_false (show ¬ V.ref a = V.non from nofun)]
      refine iteF ?_
      refine ⟨_, rfl, (by decide), ?_⟩
      intro a1 na1
      have Xa1 := ex_new (o := HO.tup [V.ty "list", V.ty "tuple"]) na1
      have ha1 : upd H a1 (HO.tup [V.ty "list", V.ty "tuple"]) a1 = some (HO.tup [V.ty "list", V.ty "tuple"]) := upd_same
      generalize upd H a1 (HO.tup [V.ty "list", V.ty "tuple"]) = Ga1 at Xa1 ha1 ⊢
      have ty : ∃ t, TyX K Ga1 (.ref a) t ∧ PySem.W.kitAny K t [.type "list", .type "tuple"] = some true := by
        rcases hx with h | h
        · exact ⟨_, .base (.lst (Xa1 _ _ h)), kitAny_cons (b := true) (kit_ty (by decide +kernel)) (fun z => nomatch z) (fun _ => rfl)⟩
        · exact ⟨_, .base (.tup (Xa1 _ _ h)), kitAny_cons (b := false) (kit_ty (by decide +kernel)) (fun _ => kitAny_cons (b := true) (kit_ty (by decide +kernel)) (fun z => nomatch z) (fun _ => rfl)) (by decide)⟩
      obtain ⟨t, ty, kt⟩ := ty
      have sq : ∀ {H' : Hp}, Ex H H' → SqS K H' a xs := fun {H'} e => by
        rcases hx with h | h
        · exact .inl (sq_lst (e _ _ h))
        · exact .inr (sq_tup (e _ _ h))
      refine ⟨.ref a, a1, _, t, _, true, rfl, ha1, .cons (.ty "list") (.cons (.ty "tuple") .nil), ty, kt, true, rfl, iteF ?_⟩
      refine ⟨_, rfl, a, xs, rfl, sq Xa1, fun J G wk hG A nA => lc_fm wk (fun i => (xs[i]?).map fun x => V.bl (isNm x)) (fun H' => Ex Ga1 H') (fun H' l e => ex_mut e nA) (.refl _) (by omega) (fun H' e => hG H' (stays_ex e)) (fun i x H1 H2 acc N hi e hD la y k => ?_) (fun H1 e hD => ?_)⟩
      · obtain ⟨rfl, y⟩ := y
        have cl := (hv x (List.mem_of_getElem? y)).mono (Xa1.trans e)
        rw [y] at k
        refine ⟨rfl, _, rfl, x, rfl, cl, fun H3 X3 => ?_⟩
        exact ⟨acc, X3 _ _ hD, la, k H3 (e.trans X3) (X3 _ _ hD)⟩
      have eD : (List.range xs.length).filterMap (fun i => (xs[i]?).map fun x => V.bl (isNm x)) = (xs.map isNm).map V.bl := by
        have := range_fm (fun x => some (V.bl (isNm x))) xs
        simp only [Option.map_eq_bind]
        rw [List.map_map, ← List.filterMap_eq_map']
        exact this
      rw [eD] at hD
      have X1 := Xa1.trans e
      refine ⟨A, _, rfl, sq_lst hD, ?_⟩
      rw [show (xs.map isNm).all id = xs.all isNm by rw [List.all_map]; rfl]
      cases hm : xs.all isNm with
      | false =>
        refine ⟨false, rfl, iteT (qe ?_ H1 X1)⟩
        unfold notesR
        rw [hm]
        rfl
      | true =>
        have er : notesR xs = if (strL xs).Nodup then some (srtS (strL xs)) else none := by
          unfold notesR
          rw [hm]
          rfl
        rw [er] at q qe
        have exs := names_str hm
        obtain ⟨ws, hws⟩ : ∃ ws, ws = strL xs := ⟨_, rfl⟩
        rw [← hws] at q qe exs
        have lw : ws.length = xs.length := by rw [exs, List.length_map]
        subst exs
        clear er hws eD
        have sqH : ∀ {G : Hp}, Ex H G → SqL K G a (ws.map V.str) ∨ SqT K G a (ws.map V.str) := fun {G} e => sq e
        have lenH : ∀ {G : Hp}, Ex H G → LenV K (.ref a) G ws.length := fun {G} e => (sqH e).elim (fun z => .inl ⟨_, z, by rw [List.length_map]⟩) (fun z => .inr ⟨_, z, by rw [List.length_map]⟩)
        refine ⟨true, rfl, iteF ⟨_, rfl, a, ws, rfl, sqH X1, by omega, fun s ns => ?_⟩⟩
        have Xs := ex_new (o := SetTO P w s (dst [] ws)) ns
        have hs : upd H1 s (SetTO P w s (dst [] ws)) s = some (SetTO P w s (dst [] ws)) := upd_same
        have hdl : (dst [] ws).length < ws.length ↔ ¬ ws.Nodup := by
          constructor
          · intro h1 h2
            have := dst_full ws [] h2 nofun
            rw [List.length_nil] at this
            omega
          · intro h1
            have := dst_less ws [] fun z => h1 z.1
            rw [List.length_nil] at this
            omega
        generalize dst [] ws = ds at hs hdl Xs ⊢
        have X2 := X1.trans Xs
        refine ⟨s, _, rfl, hs, _, rfl, _, _, rfl, lenH X2, _, _, rfl, rfl, _, rfl, ?_⟩
        by_cases nd : ws.Nodup
        · rw [decide_eq_false (show ¬ ((ds.length : Nat) : Int) < ((ws.length : Nat) : Int) from fun z => hdl.mp (by omega) nd)]
          refine iteF ⟨_, rfl, a, ws, rfl, sqH X2, fun p np => ?_⟩
          have Xp := ex_new (o := .lst ((srtS ws).map V.str)) np
          refine ⟨p, _, rfl, .inl ⟨sq_lst upd_same, fun t nt => ?_⟩⟩
          have Xt := ex_new (o := .tup ((srtS ws).map V.str)) nt
          exact q _ (if_pos nd) t _ ((X2.trans Xp).trans Xt) (ex_fresh (X2.trans Xp) nt) upd_same
        · rw [decide_eq_true (show ((ds.length : Nat) : Int) < ((ws.length : Nat) : Int) from by have := hdl.mpr nd; omega)]
          exact iteT (qe (if_neg nd) _ X2)
    · refine ⟨_, rfl, rfl, _, rfl, ?_⟩
      rw [decide_eq_false n]
      refine iteF ?_
      refine ⟨_, rfl, (by decide), ?_⟩
      intro a1 na1
      have Xa1 := ex_new (o := HO.tup [V.ty "list", V.ty "tuple"]) na1
      have ha1 : upd H a1 (HO.tup [V.ty "list", V.ty "tuple"]) a1 = some (HO.tup [V.ty "list", V.ty "tuple"]) := upd_same
      generalize upd H a1 (HO.tup [V.ty "list", V.ty "tuple"]) = Ga1 at Xa1 ha1 ⊢
      exact ⟨y, a1, _, t, _, false, rfl, ha1, .cons (.ty "list") (.cons (.ty "tuple") .nil), tyX_mono Xa1 ty, kt, false, rfl, iteT (iteT (qe rfl _ Xa1))⟩
theorem ok_notes_of {P : Program} {w : World} {K : PySem.W.Frag} {mg : Str → Option Value} {base : Heap} (T : Env K mg) : Fc P w K mg base 2 (He.ga K "notes_of") [] (sp_notes_of K ) := by
  obtain ⟨fd, D, F⟩ := fb_notes_of T
  exact F.all (D.bindsN fun _ _ _ _ _ _ us hl => match us, hl with | [_], _ => rfl)
end
section
abbrev GoingC (K : PySem.W.Frag) : Addr := He.ga K "Going"
def goF (n : Nat) (kp : Addr) : List (Str × V) := [("moment", .int (n : Nat)), ("notes", .ref kp)]
/-- at a a Going of a moment and notes -/
def GoAt (K : PySem.W.Frag) (H : Hp) (a : Addr) (n : Nat) (ws : List Str) : Prop := ∃ dx kp, H a = some (.ins (GoingC K) dx (goF n kp)) ∧ H kp = some (.tup (ws.map V.str)) ∧ Nms ws ∧ ws.length ≤ 1000
theorem GoAt.mono {K : PySem.W.Frag} {H H' : Hp} {a : Addr} {n : Nat} {ws : List Str} (h : GoAt K H a n ws) (e : Ex H H') : GoAt K H' a n ws := let ⟨dx, kp, h1, h2, h3⟩ := h; ⟨dx, kp, e _ _ h1, e _ _ h2, h3⟩
end
section
theorem ex_made {H : Hp} {x dx : Addr} {o1 o2 : HO} (nx : H x = none) (nd : H dx = none) (ne : dx ≠ x) : Ex H (upd (upd H dx o1) x o2) := fun b o e => by
  rw [upd_ne (ne_of_none e nx), upd_ne (ne_of_none e nd)]
  exact e
end
section
def sp_Going_init (K : PySem.W.Frag) : Sp := fun vs H Q E => ∃ (a dx : Addr) (x y : V) (H0 : Hp), vs = [.ref a, x, y] ∧ H a = some (.ins (GoingC K) dx []) ∧ H0 a = none ∧ Ex H0 H ∧ Cl K H x ∧ (isM x = false → E (.ref (He.ga K "NoTime")) none H) ∧
  (∀ n : Nat, x = .int (n : Nat) → ∃ r, NtX K H0 y r ∧ (∀ ws, r = some ws → ∀ H', Ex H0 H' → GoAt K H' a n ws → Q .non H') ∧ (r = none → ∀ H', Ex H0 H' → E (.ref (He.ga K "NoCard")) none H'))
theorem fb_Going_init {P : Program} {w : World} {K : PySem.W.Frag} {mg : Str → Option Value} {base : Heap} (T : Env K mg) : ∃ fd, FunD K "__init__" "Going.__init__" (defArgs s_Going_init) (defBody s_Going_init) (defScope s_Going_init) [.non] [] (He.ma K (He.ga K "Going") "__init__") fd ∧ Fb P w K mg base 4 (He.ma K (He.ga K "Going") "__init__") fd ["self", "moment", "notes"] (sp_Going_init K) := by
  obtain ⟨fd, F⟩ := T.f_Going_init
  refine ⟨fd, F, fb_of F sc_Going_init (fun vs H Q E h => ?_) (fun cdv A outer s H vs Q E hr h => ?_)⟩
  · obtain ⟨a, dx, x, y, H0, rfl, _⟩ := h
    rfl
  · obtain ⟨a, dx, x, y, H0, rfl, ha, na0, X0, cl, qt, qn⟩ := h
    refine ⟨_, (pss_cons (ps_expr (c_call (ok_want_moment T) (hr.mono (by decide)) T.g_want_moment T.k_want_moment (takes_of rfl rfl rfl rfl) (pa_cons (pv 1) pa_nil)))
      (pss_cons (ps_fld (pv 0) (pv 1) rfl)
      (pss_one (ps_fld (pv 0) (c_call (ok_notes_of T) (hr.mono (by decide)) T.g_notes_of T.k_notes_of (takes_of rfl rfl rfl rfl) (pa_cons (pv 2) pa_nil)) rfl)))), ?_⟩
    refine ⟨_, rfl, x, rfl, cl, fun hm => ?_, qt⟩
    obtain ⟨n, rfl⟩ : ∃ n : Nat, x = .int (n : Nat) := by
      cases x with
      | int i => exact ⟨i.toNat, by rw [Int.toNat_of_nonneg (of_decide_eq_true hm)]⟩
      | _ => cases hm
    obtain ⟨r, hN, q, qe⟩ := qn n rfl
    refine ⟨_, rfl, _, rfl, _, _, _, _, rfl, ha, T.c_Going, T.a_Going_moment, (by decide), _, rfl, ?_⟩
    have O1 : Oth a H (upd H a (HO.ins (GoingC K) dx (putF "moment" (V.int (n : Nat)) []))) := (Oth.refl a H).upd
    have h1 : upd H a (HO.ins (GoingC K) dx (putF "moment" (V.int (n : Nat)) [])) a = some (.ins (GoingC K) dx [("moment", .int (n : Nat))]) := upd_same
    generalize upd H a (HO.ins (GoingC K) dx (putF "moment" (V.int (n : Nat)) [])) = H1 at O1 h1 ⊢
    have X1 : Ex H0 H1 := Oth.ex X0 na0 O1
    refine ⟨y, r, rfl, hN.mono X1, fun ws er p H2 X2 np hp => ⟨_, rfl, a, _, dx, _, rfl, X2 _ _ h1, T.c_Going, T.a_Going_notes, Nat.le_of_ble_eq_true rfl, ?_⟩, fun er H2 X2 => qe er H2 (X1.trans X2)⟩
    have pa : p ≠ a := fun z => by rw [z, h1] at np; cases np
    subst er
    exact q ws rfl _ (Oth.ex (X1.trans X2) na0 (Oth.refl a H2).upd) ⟨dx, p, upd_same, by rw [upd_ne pa]; exact hp, nt_nms hN⟩
theorem go_new {K : PySem.W.Frag} {H : Hp} {x dx : Addr} {n : Nat} {y : V} {ws : List Str} {Q : VK} {E : XK} (nx : H x = none) (nd : H dx = none) (ne : dx ≠ x) (hN : NtX K H y (some ws)) (q : ∀ H', Ex H H' → GoAt K H' x n ws → Q .non H') :
    sp_Going_init K [.ref x, .int (n : Nat), y] (upd (upd H dx (.own x)) x (.ins (GoingC K) dx [])) Q E := by
  have X1 := ex_made (o1 := .own x) (o2 := .ins (GoingC K) dx []) nx nd ne
  refine ⟨x, dx, _, y, H, rfl, upd_same, nx, X1, cl_int _, fun z => ?_, fun m e => ?_⟩
  · have z' : decide (0 ≤ ((n : Nat) : Int)) = false := z
    rw [decide_eq_true (by omega)] at z'
    cases z'
  · injection e with e
    obtain rfl : n = m := by omega
    exact ⟨some ws, hN, fun us e H' X g => by cases e; exact q H' X g, fun e => nomatch e⟩
theorem ok_Going_init {P : Program} {w : World} {K : PySem.W.Frag} {mg : Str → Option Value} {base : Heap} (T : Env K mg) : Fc P w K mg base 4 (He.ma K (He.ga K "Going") "__init__") [] (fun vs H Q E => vs.length = 3 + ([] : List Str).length ∧ sp_Going_init K  (pick [.inl 0, .inl 1, .inl 2] vs [.non]) H Q E) := by
  obtain ⟨fd, D, F⟩ := fb_Going_init T
  exact Fb.shape D F 3 [] (fun us its => pick [.inl 0, .inl 1, .inl 2] us its) (by decide) (fun r1 r2 => pick_vals _ r1 r2) (fun T kV doc pm an cdv ct us ws its h1 h2 h3 => match us, ws, its, h1, h2, h3 with | [_, _, _], [], [_], _, _, _ => ⟨_, rfl, rfl⟩)
theorem ok_Going_init_1_notes_moment {P : Program} {w : World} {K : PySem.W.Frag} {mg : Str → Option Value} {base : Heap} (T : Env K mg) : Fc P w K mg base 4 (He.ma K (He.ga K "Going") "__init__") ["notes", "moment"] (fun vs H Q E => vs.length = 1 + (["notes", "moment"] : List Str).length ∧ sp_Going_init K  (pick [.inl 0, .inl 2, .inl 1] vs [.non]) H Q E) := by
  obtain ⟨fd, D, F⟩ := fb_Going_init T
  exact Fb.shape D F 1 ["notes", "moment"] (fun us its => pick [.inl 0, .inl 2, .inl 1] us its) (by decide) (fun r1 r2 => pick_vals _ r1 r2) (fun T kV doc pm an cdv ct us ws its h1 h2 h3 => match us, ws, its, h1, h2, h3 with | [_], [_, _], [_], _, _, _ => ⟨_, rfl, rfl⟩)
theorem ok_Going_init_2 {P : Program} {w : World} {K : PySem.W.Frag} {mg : Str → Option Value} {base : Heap} (T : Env K mg) : Fc P w K mg base 4 (He.ma K (He.ga K "Going") "__init__") [] (fun vs H Q E => vs.length = 2 + ([] : List Str).length ∧ sp_Going_init K  (pick [.inl 0, .inl 1, .inr 0] vs [.non]) H Q E) := by
  obtain ⟨fd, D, F⟩ := fb_Going_init T
  exact Fb.shape D F 2 [] (fun us its => pick [.inl 0, .inl 1, .inr 0] us its) (by decide) (fun r1 r2 => pick_vals _ r1 r2) (fun T kV doc pm an cdv ct us ws its h1 h2 h3 => match us, ws, its, h1, h2, h3 with | [_, _], [], [_], _, _, _ => ⟨_, rfl, rfl⟩)
end
section
def strD (ws : List Str) : List PyData := ws.map PyData.str
theorem dp_strs (K : PySem.W.Frag) (H : Hp) : ∀ ws : List Str, DpAll K H (ws.map V.str) (strD ws)
  | [] => .nil
  | n :: ns => .cons (.str _) (dp_strs K H ns)
theorem strOk_nm {z : Str} (h : nmN z.cps.toList = true) : PyData.strOk z = true := by
  unfold PyData.strOk
  rw [← Array.all_toList]
  exact List.all_eq_true.mpr fun c hc => decide_eq_true (by have := (nm_facts h).2.2 c hc; omega)
theorem strD_lay : ∀ ns : List Str, Nms ns → PyData.canLayAll0 (strD ns) = true
  | [], _ => rfl
  | n :: ns, h => by
    show (PyData.strOk n && PyData.canLayAll0 (strD ns)) = true
    rw [strD_lay ns fun z hz => h z (List.mem_cons_of_mem _ hz), strOk_nm (h n List.mem_cons_self)]
    rfl
theorem strD_dep : ∀ ns : List Str, PyData.depthAll (strD ns) = 0
  | [] => rfl
  | n :: ns => by
    show max 0 (PyData.depthAll (strD ns)) = 0
    rw [strD_dep ns]
    rfl
theorem shapedT_str {ns : List Str} (h : Nms ns) : SeqAt.shaped (.tuple (strD ns)) = true := by
  show (PyData.canLayAll0 (strD ns) && decide (PyData.depthAll (strD ns) + 1 ≤ 64)) = true
  rw [strD_lay _ h, strD_dep]
  rfl
theorem shaped_str {ns : List Str} (h : Nms ns) : SeqAt.shaped (.list (strD ns)) = true := by
  show (PyData.canLayAll0 (strD ns) && decide (PyData.depthAll (strD ns) + 1 ≤ 64)) = true
  rw [strD_lay _ h, strD_dep]
  rfl
theorem eqv_strD : ∀ a b : List Str, PyData.eqvAll (strD a) (strD b) = decide (a = b)
  | [], [] => rfl
  | [], _ :: _ => rfl
  | _ :: _, [] => rfl
  | x :: a, y :: b => by
    show (decide (x = y) && PyData.eqvAll (strD a) (strD b)) = _
    rw [eqv_strD a b]
    by_cases h : x = y
    · subst h
      simp
    · simp [h]
theorem okT_nm {z : Str} (h : nmN z.cps.toList = true) : okT z = true := by
  unfold okT
  refine List.all_eq_true.mpr fun c hc => ?_
  have := (nm_facts h).2.2 c hc
  exact decide_eq_true (Nat.lt_of_lt_of_le this.2 (by decide))
theorem strD_ok : ∀ ws : List Str, Nms ws → okL (strD ws) = true
  | [], _ => rfl
  | z :: r, h => by
    show (okT z && okL (strD r)) = true
    rw [okT_nm (h z List.mem_cons_self), strD_ok r fun y hy => h y (List.mem_cons_of_mem _ hy)]
    rfl
theorem strD_sz : ∀ ws : List Str, Nms ws → szL (strD ws) ≤ 84 * ws.length
  | [], _ => Nat.le_refl _
  | z :: r, h => by
    have h1 := strD_sz r fun y hy => h y (List.mem_cons_of_mem _ hy)
    have h2 := (nm_facts (h z List.mem_cons_self)).2.1
    have h3 : z.length = z.cps.toList.length := rfl
    show 10 * z.length + 2 + 2 + szL (strD r) ≤ 84 * (r.length + 1)
    omega
theorem rr_strT {K : PySem.W.Frag} {H : Hp} {q : Addr} {ws : List Str} {Q : VK} (h : Nms ws) (l : ws.length ≤ 8000) (e : H q = some (.tup (ws.map V.str))) (k : Q (.str (PyData.shown (.tuple (strD ws)))) H) : rRepr K [.ref q] H Q := by
  refine rr_data (.tup (sq_tup e) (dp_strs K H ws)) ?_ ?_ ?_ k
  · exact strD_ok ws h
  · show szL (strD ws) + 3 ≤ 16000000
    have := strD_sz ws h
    omega
  · show PyData.depthAll (strD ws) + 1 ≤ 60
    rw [strD_dep]
    decide
end
section
def sp_Going_eq (K : PySem.W.Frag) : Sp := fun vs H Q _ => ∃ a x n ws, vs = [.ref a, x] ∧ GoAt K H a n ws ∧ ((∃ b m us, x = .ref b ∧ GoAt K H b m us ∧ Q (.bl (decide (n = m ∧ ws = us))) H) ∨ (∃ t, TyX K H x t ∧ PySem.W.kitOne K t (.ref (GoingC K)) = some false ∧ Q (.bl false) H))
theorem fb_Going_eq {P : Program} {w : World} {K : PySem.W.Frag} {mg : Str → Option Value} {base : Heap} (T : Env K mg) : ∃ fd, FunD K "__eq__" "Going.__eq__" (defArgs s_Going_eq) (defBody s_Going_eq) (defScope s_Going_eq) [] [] (He.ma K (He.ga K "Going") "__eq__") fd ∧ Fb P w K mg base 1 (He.ma K (He.ga K "Going") "__eq__") fd ["self", "other"] (sp_Going_eq K) := by
  obtain ⟨fd, F⟩ := T.f_Going_eq
  refine ⟨fd, F, fb_of F sc_Going_eq (fun vs H Q E h => ?_) (fun cdv A outer s H vs Q E hr h => ?_)⟩
  · obtain ⟨a, x, n, ws, rfl, _⟩ := h
    rfl
  · obtain ⟨a, x, n, ws, rfl, hO, q⟩ := h
    refine ⟨_, (pss_cons (ps_if (pt_not (pt_val (pe_callB call_isi (by rfl) T.n_isinstance (by decide +kernel) (pa_cons (pv 1) (pa_cons (pe_glob (v := .ref _) (by rfl) T.g_Going rfl) pa_nil)))))
      (pss_one (ps_ret pe_bl))
      pss_nil)
      (pss_one (ps_ret (pe_and (pe_cmpR op_eq (pe_fld (pv 0) (by rfl)) (pe_fld (pv 1) (by rfl)) (nomark _)) (pe_one (pe_cmpR (op_eqD hr.rm.units) (pe_fld (pv 0) (by rfl)) (pe_fld (pv 1) (by rfl)) (nomark _))))))), ?_⟩
    rcases q with ⟨b, m, us, rfl, hb, q⟩ | ⟨t, ty, kt, q⟩
    · obtain ⟨dx, kp, ha, hk, nw, lw⟩ := id hO
      obtain ⟨dy, kq, hb1, hk1, nu, lu⟩ := id hb
      refine ⟨_, rfl, _, _, _, _, _, rfl, .own _, ty_ins T.i_Going T.c_Going hb1, T.kit_Going_Going, _, rfl, iteF ?_⟩
      refine ⟨_, rfl, _, _, _, _, _, rfl, ha, T.c_Going, T.a_Going_moment, rfl, _, rfl, _, _, _, _, _, rfl, hb1, T.c_Going, T.a_Going_moment, rfl, ?_⟩
      refine ⟨rfl, _, rfl, ?_⟩
      by_cases e : n = m
      · subst e
        rw [decide_eq_true rfl]
        refine iteT ⟨_, rfl, _, _, _, _, _, rfl, ha, T.c_Going, T.a_Going_notes, rfl, _, rfl, _, _, _, _, _, rfl, hb1, T.c_Going, T.a_Going_notes, rfl, ?_⟩
        refine ⟨_, _, .tup (sq_tup hk) (dp_strs K _ _), .tup (sq_tup hk1) (dp_strs K _ _), shapedT_str nw, shapedT_str nu, ?_⟩
        have e1 : PyData.eqv (.tuple (strD ws)) (.tuple (strD us)) = decide (ws = us) := by
          show PyData.eqvAll (strD ws) (strD us) = _
          rw [eqv_strD]
        rw [e1]
        rw [show decide (n = n ∧ ws = us) = decide (ws = us) by simp] at q
        exact q
      · rw [decide_eq_false (show ¬ V.int (n : Int) = V.int (m : Int) from fun z => e (by injection z with z; omega))]
        rw [decide_eq_false (fun z => e z.1)] at q
        exact iteF q
    · exact ⟨_, rfl, _, _, _, _, false, rfl, .own _, ty, kt, _, rfl, iteT q⟩
theorem ok_Going_eq {P : Program} {w : World} {K : PySem.W.Frag} {mg : Str → Option Value} {base : Heap} (T : Env K mg) : Fc P w K mg base 1 (He.ma K (He.ga K "Going") "__eq__") [] (sp_Going_eq K ) := by
  obtain ⟨fd, D, F⟩ := fb_Going_eq T
  exact F.all (D.bindsN fun _ _ _ _ _ _ us hl => match us, hl with | [_, _], _ => rfl)
end
section
theorem joinL_len {k : Nat} : ∀ {ws : List (List Nat)}, (∀ w ∈ ws, w.length ≤ k) → (TL.joinL [32] ws).length ≤ (k + 1) * ws.length
  | [], _ => Nat.zero_le _
  | [w], h => by
    have := h w List.mem_cons_self
    show w.length ≤ _
    simp
    omega
  | w :: x :: r, h => by
    have ih := joinL_len (ws := x :: r) fun y hy => h y (List.mem_cons_of_mem _ hy)
    have h1 := h w List.mem_cons_self
    have e : TL.joinL [32] (w :: x :: r) = w ++ ([32] ++ TL.joinL [32] (x :: r)) := rfl
    rw [e]
    simp only [List.length_append, List.length_cons, List.length_nil] at ih ⊢
    rw [Nat.mul_add]
    omega
theorem joinL_all {p : Nat → Bool} (h32 : p 32 = true) : ∀ {ws : List (List Nat)}, (∀ w ∈ ws, w.all p = true) → (TL.joinL [32] ws).all p = true
  | [], _ => rfl
  | [w], h => h w List.mem_cons_self
  | w :: x :: r, h => by
    have ih := joinL_all h32 (ws := x :: r) fun y hy => h y (List.mem_cons_of_mem _ hy)
    have e : TL.joinL [32] (w :: x :: r) = w ++ ([32] ++ TL.joinL [32] (x :: r)) := rfl
    rw [e, List.all_append, List.all_append, h w List.mem_cons_self, ih]
    simp [h32]
end
section
theorem fig_ok {c : Nat} (h : 48 ≤ c ∧ c ≤ 57) : okC c = true := by
  unfold okC
  rw [decide_eq_true (by omega), decide_eq_true (by omega), decide_eq_true (by omega), decide_eq_true (by omega)]
  rfl
theorem numL_ok (n : Nat) : (TL.numL n).all okC = true := List.all_eq_true.mpr fun c hc => fig_ok (TL.numL_digits n c hc)
theorem two_ok {m : Nat} (h : m < 60) : (Mo.two m).all okC = true := by
  unfold Mo.two
  simp only [List.all_cons, List.all_nil, Bool.and_true]
  rw [fig_ok (by omega), fig_ok (by omega)]
  rfl
theorem clk_ok (m : Nat) : (Mo.clk m).all okC = true := by
  unfold Mo.clk
  rw [List.all_append, numL_ok, List.all_cons, two_ok (by omega)]
  rfl
theorem shw_ok (m : Nat) : (Mo.shw m).all okC = true := by
  unfold Mo.shw
  split
  · exact clk_ok m
  · rw [List.all_append, numL_ok, List.all_cons, clk_ok]
    rfl
end
section
/-- a going as it is written -/
def goL (n : Nat) (ws : List Str) : List Nat := TL.joinL [32] (Mo.shw n :: ws.map fun z => z.cps.toList)
def goR (l : List Nat) : List Nat := [71, 111, 105, 110, 103, 40, 39] ++ l ++ [39, 41]
theorem go_join (n : Nat) (ws : List Str) : Txt.join (Str.ofString " ") (SX.S (Mo.shw n) :: ws) = SX.S (goL n ws) := by
  have e := SX.join_S [32] (Mo.shw n :: ws.map fun z => z.cps.toList)
  rw [List.map_cons, List.map_map, show (SX.S ∘ fun z : Str => z.cps.toList) = id from funext S_of, List.map_id] at e
  exact e
theorem goL_ok {n : Nat} {ws : List Str} (h : Nms ws) : (goL n ws).all okC = true := joinL_all (by decide) fun w hw => by
  rcases List.mem_cons.mp hw with rfl | hw
  · exact shw_ok n
  · obtain ⟨z, hz, rfl⟩ := List.mem_map.mp hw
    refine List.all_eq_true.mpr fun c hc => ?_
    have := (nm_facts (h z hz)).2.2 c hc
    unfold okC
    rw [decide_eq_true (by omega), decide_eq_true (by omega), decide_eq_true (by omega), decide_eq_true (by omega)]
    rfl
theorem goL_len {n : Nat} {ws : List Str} (h : Nms ws) (hn : n < 10 ^ 255) : (goL n ws).length ≤ 264 * (ws.length + 1) := by
  have e := joinL_len (k := 263) (ws := Mo.shw n :: ws.map fun z => z.cps.toList) fun w hw => by
    rcases List.mem_cons.mp hw with rfl | hw
    · exact Mo.shw_len (by decide) hn
    · obtain ⟨z, hz, rfl⟩ := List.mem_map.mp hw
      have := (nm_facts (h z hz)).2.1
      omega
  rw [List.length_cons, List.length_map] at e
  exact e
theorem nms_sum : ∀ ws : List Str, Nms ws → (ws.map (·.length)).sum ≤ 8 * ws.length
  | [], _ => Nat.le_refl _
  | z :: r, h => by
    have := nms_sum r fun y hy => h y (List.mem_cons_of_mem _ hy)
    have h2 := (nm_facts (h z List.mem_cons_self)).2.1
    have h3 : z.length = z.cps.toList.length := by rw [← S_of z, SX.S_len, S_of]
    rw [List.map_cons, List.sum_cons, List.length_cons]
    omega
theorem go_sz {n : Nat} {ws : List Str} (hw : Nms ws) (hn : n < 10 ^ 255) (lw : ws.length ≤ 1000) : ((SX.S (Mo.shw n) :: ws).map (·.length)).sum + (SX.S (Mo.shw n) :: ws).length * (Str.ofString " ").length ≤ 16777216 := by
  have h2 := nms_sum ws hw
  have h3 := Mo.shw_len (by decide) hn
  rw [List.map_cons, List.sum_cons, SX.S_len, List.length_cons, show (Str.ofString " ").length = 1 from rfl]
  omega
end
section
def sp_Going_str (K : PySem.W.Frag) : Sp := fun vs H Q _ => ∃ a n ws, vs = [.ref a] ∧ GoAt K H a n ws ∧ n < 10 ^ 255 ∧ ∀ H', Ex H H' → Q (.str (SX.S (goL n ws))) H'
theorem fb_Going_str {P : Program} {w : World} {K : PySem.W.Frag} {mg : Str → Option Value} {base : Heap} (T : Env K mg) : ∃ fd, FunD K "__str__" "Going.__str__" (defArgs s_Going_str) (defBody s_Going_str) (defScope s_Going_str) [] [] (He.ma K (He.ga K "Going") "__str__") fd ∧ Fb P w K mg base 6 (He.ma K (He.ga K "Going") "__str__") fd ["self"] (sp_Going_str K) := by
  obtain ⟨fd, F⟩ := T.f_Going_str
  refine ⟨fd, F, fb_of F sc_Going_str (fun vs H Q E h => ?_) (fun cdv A outer s H vs Q E hr h => ?_)⟩
  · obtain ⟨a, n, ws, rfl, _⟩ := h
    rfl
  · obtain ⟨a, n, ws, rfl, hO, hn, q⟩ := h
    refine ⟨_, (pss_one (ps_ret (pe_join pe_str (pe_op op_cat (pe_lst (pa_cons (c_call (ok_show_moment T) (hr.mono (by decide)) T.g_show_moment T.k_show_moment takes0 (pa_cons (pe_fld (pv 0) (by rfl)) pa_nil)) pa_nil)) (pe_callTy call_list_of (by rfl) T.n_list (by decide +kernel) (pa_cons (pe_fld (pv 0) (by rfl)) pa_nil)))))), ?_⟩
    obtain ⟨dx, kp, ha, hk, hw, lw⟩ := hO
    refine ⟨⟨_, rfl⟩, _, rfl, _, _, _, _, _, rfl, ha, T.c_Going, T.a_Going_moment, rfl, _, rfl, cl_int _, fun m e => ?_, fun z => by cases (show decide (0 ≤ ((n : Nat) : Int)) = true from decide_eq_true (by omega)).symm.trans z⟩
    injection e with e
    obtain rfl : n = m := by omega
    refine ⟨hn, fun H1 X1 => ?_⟩
    refine ⟨(by show 1 ≤ sizeLine; decide), ?_⟩
    intro a1 na1
    have Xa1 := ex_new (o := HO.lst [V.str (SX.S (Mo.shw n))]) na1
    have ha1 : upd H1 a1 (HO.lst [V.str (SX.S (Mo.shw n))]) a1 = some (HO.lst [V.str (SX.S (Mo.shw n))]) := upd_same
    generalize upd H1 a1 (HO.lst [V.str (SX.S (Mo.shw n))]) = Ga1 at Xa1 ha1 ⊢
    refine ⟨_, rfl, _, _, _, _, _, rfl, (Xa1 _ _ (X1 _ _ ha)), T.c_Going, T.a_Going_notes, rfl, _, _, rfl, (.inr (sq_tup (Xa1 _ _ (X1 _ _ hk)))), ?_⟩
    intro a2 na2
    have Xa2 := ex_new (o := HO.lst (List.map V.str ws)) na2
    have ha2 : upd Ga1 a2 (HO.lst (List.map V.str ws)) a2 = some (HO.lst (List.map V.str ws)) := upd_same
    generalize upd Ga1 a2 (HO.lst (List.map V.str ws)) = Ga2 at Xa2 ha2 ⊢
    refine ⟨_, _, _, _, rfl, rfl, (Xa2 _ _ ha1), ha2, ?_⟩
    have rl := goL_len hw hn
    refine ⟨sz_big (by rw [List.length_map]; show 1 + _ ≤ _; omega), fun p np => ?_⟩
    have Xp := ex_new (o := HO.lst ([V.str (SX.S (Mo.shw n))] ++ List.map V.str ws)) np
    refine ⟨_, p, SX.S (Mo.shw n) :: ws, rfl, rfl, .inl (sq_lst upd_same), go_sz hw hn lw, ?_⟩
    rw [go_join]
    exact q _ (((X1.trans Xa1).trans Xa2).trans Xp)
theorem ok_Going_str {P : Program} {w : World} {K : PySem.W.Frag} {mg : Str → Option Value} {base : Heap} (T : Env K mg) : Fc P w K mg base 6 (He.ma K (He.ga K "Going") "__str__") [] (sp_Going_str K ) := by
  obtain ⟨fd, D, F⟩ := fb_Going_str T
  exact F.all (D.bindsN fun _ _ _ _ _ _ us hl => match us, hl with | [_], _ => rfl)
end
section
def sp_Going_repr (K : PySem.W.Frag) : Sp := fun vs H Q _ => ∃ a n ws, vs = [.ref a] ∧ GoAt K H a n ws ∧ n < 10 ^ 255 ∧ ∀ H', Ex H H' → Q (.str (SX.S (goR (goL n ws)))) H'
theorem fb_Going_repr {P : Program} {w : World} {K : PySem.W.Frag} {mg : Str → Option Value} {base : Heap} (T : Env K mg) : ∃ fd, FunD K "__repr__" "Going.__repr__" (defArgs s_Going_repr) (defBody s_Going_repr) (defScope s_Going_repr) [] [] (He.ma K (He.ga K "Going") "__repr__") fd ∧ Fb P w K mg base 9 (He.ma K (He.ga K "Going") "__repr__") fd ["self"] (sp_Going_repr K) := by
  obtain ⟨fd, F⟩ := T.f_Going_repr
  refine ⟨fd, F, fb_of F sc_Going_repr (fun vs H Q E h => ?_) (fun cdv A outer s H vs Q E hr h => ?_)⟩
  · obtain ⟨a, n, ws, rfl, _⟩ := h
    rfl
  · obtain ⟨a, n, ws, rfl, hO, hn, q⟩ := h
    refine ⟨_, (pss_one (ps_ret (pe_joined (PJ.cons pe_str (PJ.cons (pe_fmtR (pe_callTy (call_strO T.m_Going_str (ok_Going_str T) (hr.mono (by decide))) (by rfl) T.n_str (by decide +kernel) (pa_cons (pv 0) pa_nil))) (PJ.cons pe_str PJ.nil)))))), ?_⟩
    obtain ⟨dx, kp, ha, hk, hw, lw⟩ := id hO
    have rl := goL_len hw hn
    have ok := goL_ok (n := n) hw
    have hl := repr_plain_len ok
    refine ⟨_, rfl, (by decide), _, rfl, a, dx, _, rfl, ha, a, n, ws, rfl, hO, hn, fun H1 X1 => ⟨trivial, .inl ⟨_, rfl, sz_big (by omega), ?_⟩⟩⟩
    rw [repr_plain ok, show Str.empty ++ Str.ofString "Going(" = SX.S [71, 111, 105, 110, 103, 40] from rfl]
    refine ⟨_, rfl, ?_⟩
    rw [SX.S_cat]
    refine ⟨sz_big (by rw [SX.S_len]; simp only [List.length_append, List.length_cons, List.length_nil]; omega), _, rfl, ?_⟩
    rw [show Str.ofString ")" = SX.S [41] from rfl, SX.S_cat]
    refine ⟨sz_big (by rw [SX.S_len]; simp only [List.length_append, List.length_cons, List.length_nil]; omega), ?_⟩
    have e : [71, 111, 105, 110, 103, 40] ++ (39 :: goL n ws ++ [39]) ++ [41] = goR (goL n ws) := by
      unfold goR
      simp
    rw [e]
    exact q H1 X1
theorem ok_Going_repr {P : Program} {w : World} {K : PySem.W.Frag} {mg : Str → Option Value} {base : Heap} (T : Env K mg) : Fc P w K mg base 9 (He.ma K (He.ga K "Going") "__repr__") [] (sp_Going_repr K ) := by
  obtain ⟨fd, D, F⟩ := fb_Going_repr T
  exact F.all (D.bindsN fun _ _ _ _ _ _ us hl => match us, hl with | [_], _ => rfl)
end
section
/-- a pot: what is left of a cell's digits, what mixes, and how often (m at most) it did -/
def PotN (m : Nat) (H : Hp) (p : Addr) : Prop := ∃ a b c : Int, H p = some (.lst [.int a, .int b, .int c]) ∧ 0 ≤ b ∧ b < 2147483647 ∧ 0 ≤ c ∧ c ≤ m
def Pot (H : Hp) (p : Addr) : Prop := ∃ a b c : Int, H p = some (.lst [.int a, .int b, .int c]) ∧ 0 ≤ b ∧ b < 2147483647 ∧ 0 ≤ c
def sp__law_pot (K : PySem.W.Frag) : Sp := fun vs H Q _ => ∃ (a : Addr) (ns : List Int) (k : Int), vs = [.ref a, .int k] ∧ SqL K H a (ns.map V.int) ∧ 0 ≤ k ∧ k < 1000 ∧ ∀ p H', H p = none → PotN 0 H' p → (∀ b, b ≠ p → H' b = H b) → Q (.ref p) H'
theorem fb__law_pot {P : Program} {w : World} {K : PySem.W.Frag} {mg : Str → Option Value} {base : Heap} (T : Env K mg) : ∃ fd, FunD K "_law_pot" "_law_pot" (defArgs s__law_pot) (defBody s__law_pot) (defScope s__law_pot) [] [] (He.ga K "_law_pot") fd ∧ Fb P w K mg base 1 (He.ga K "_law_pot") fd ["_law_script", "_law_k"] (sp__law_pot K) := by
  obtain ⟨fd, F⟩ := T.f__law_pot
  refine ⟨fd, F, fb_of F sc__law_pot (fun vs H Q E h => ?_) (fun cdv A outer s H vs Q E hr h => ?_)⟩
  · obtain ⟨a, ns, k, rfl, _⟩ := h
    rfl
  · obtain ⟨a, ns, k, rfl, hS, k0, k1, q⟩ := h
    refine ⟨_, (Evl.pss_cut (ps_set (i := 2) sc__law_pot.nd rfl (Or.inl rfl) (pe_ifExp (pt_cmpR op_lt (pv 1) (pe_callB call_len (by rfl) T.n_len (by decide +kernel) (pa_cons (pv 0) pa_nil)) (nomark _)) (pe_ix ix_list (pv 0) (pv 1) (fun _ _ => rfl)) pe_int))
      (pss_cons (ps_set (i := 3) sc__law_pot.nd rfl (Or.inl rfl) (pe_op op_add (pe_op op_mod (pe_op op_pow (pe_op op_add (pe_op op_mod (pv 2) pe_int) (pe_op op_mul pe_int (pe_op op_add (pv 1) pe_int))) pe_int) pe_int) pe_int))
      (pss_one (ps_ret (pe_lst (pa_cons (pe_callB (call_max2 rfl) (by rfl) T.n_max (by decide +kernel) (pa_cons pe_int (pa_cons (pe_op op_sub (pv 2) (pe_op op_pow pe_int pe_int)) pa_nil))) (pa_cons (pv 3) (pa_cons pe_int pa_nil)))))))), ?_⟩
    refine ⟨fun σ' H' => H' = H ∧ ∃ cell : Int, σ' = [some (.ref a), some (.int k), some (.int cell), none], ?_, ?_⟩
    · refine ⟨_, rfl, _, rfl, _, _, rfl, .inl ⟨_, hS, rfl⟩, _, _, rfl, rfl, _, rfl, ite2 (fun c => ?_) (fun c => ?_)⟩
      · have c2 : k < ((ns.map V.int).length : Int) := of_decide_eq_true c
        rw [List.length_map] at c2
        obtain ⟨i, rfl⟩ := Int.eq_ofNat_of_zero_le k0
        have hi : i < ns.length := Int.ofNat_lt.mp c2
        refine ⟨_, rfl, _, rfl, a, _, _, .int ns[i], rfl, rfl, hS, ?_, rfl, ns[i], rfl⟩
        exact atI_nat (by rw [List.getElem?_map, List.getElem?_eq_getElem hi]; rfl)
      · exact ⟨rfl, 0, rfl⟩
    · rintro σ' H' ⟨rfl, cell, rfl⟩
      have m1 := Int.emod_nonneg cell (show (2147483629 : Int) ≠ 0 by decide)
      have m2 := Int.emod_lt_of_pos cell (show (0 : Int) < 2147483629 by decide)
      refine ⟨_, rfl, _, _, rfl, rfl, (by omega), _, rfl, _, _, rfl, rfl, _, _, rfl, rfl, (.inl ⟨(by decide), (by decide)⟩), _, _, rfl, rfl, _, _, rfl, rfl, ⟨(by decide), ⟨(by decide), (by omega)⟩⟩, _, _, rfl, rfl, (by omega), _, _, rfl, rfl, _, rfl, _, _, rfl, rfl, ⟨(by decide), ⟨(by decide), (by decide)⟩⟩, _, _, rfl, rfl, _, _, rfl, _, rfl, (by show 3 ≤ sizeLine; decide), ?_⟩
      intro a1 na1
      refine q a1 _ na1 ⟨_, _, _, upd_same, Int.add_nonneg (Int.emod_nonneg _ (by decide)) (by decide), ?_, Int.le_refl _, Int.le_refl _⟩ fun b n => upd_ne n
      have z := Int.emod_lt_of_pos ((cell % 2147483629 + 40503 * (k + 1)) ^ Int.toNat 3) (show (0 : Int) < 2147483563 by decide)
      omega
theorem ok__law_pot {P : Program} {w : World} {K : PySem.W.Frag} {mg : Str → Option Value} {base : Heap} (T : Env K mg) : Fc P w K mg base 1 (He.ga K "_law_pot") [] (sp__law_pot K ) := by
  obtain ⟨fd, D, F⟩ := fb__law_pot T
  exact F.all (D.bindsN fun _ _ _ _ _ _ us hl => match us, hl with | [_, _], _ => rfl)
end
section
/-- the pot at p is drawn from: everything else stays -/
def PotOn (H H' : Hp) (p : Addr) : Prop := Pot H' p ∧ ∀ b o, b ≠ p → H b = some o → H' b = some o
def PotOnN (m : Nat) (H H' : Hp) (p : Addr) : Prop := PotN m H' p ∧ ∀ b o, b ≠ p → H b = some o → H' b = some o
theorem PotN.pot {m : Nat} {H : Hp} {p : Addr} (h : PotN m H p) : Pot H p := by
  obtain ⟨a, b, c, e, r1, r2, r3, _⟩ := h
  exact ⟨a, b, c, e, r1, r2, r3⟩
theorem PotN.le {m n : Nat} {H : Hp} {p : Addr} (h : PotN m H p) (l : m ≤ n) : PotN n H p := by
  obtain ⟨a, b, c, e, r1, r2, r3, r4⟩ := h
  exact ⟨a, b, c, e, r1, r2, r3, Int.le_trans r4 (Int.ofNat_le.mpr l)⟩
theorem PotOnN.le {m n : Nat} {H H' : Hp} {p : Addr} (h : PotOnN m H H' p) (l : m ≤ n) : PotOnN n H H' p := ⟨h.1.le l, h.2⟩
theorem PotOnN.on {m : Nat} {H H' : Hp} {p : Addr} (h : PotOnN m H H' p) : PotOn H H' p := ⟨h.1.pot, h.2⟩
theorem PotN.refl {m : Nat} {H : Hp} {p : Addr} (h : PotN m H p) : PotOnN m H H p := ⟨h, fun _ _ _ e => e⟩
theorem PotOnN.trans {m n : Nat} {H H1 H2 : Hp} {p : Addr} (a : PotOnN m H H1 p) (b : PotOnN n H1 H2 p) : PotOnN n H H2 p := ⟨b.1, fun c o n e => b.2 c o n (a.2 c o n e)⟩
theorem PotN.ex {m : Nat} {H H1 : Hp} {p : Addr} (h : PotN m H p) (e : Ex H H1) : PotN m H1 p := by
  obtain ⟨x, y, z, g, r⟩ := h
  exact ⟨x, y, z, e _ _ g, r⟩
theorem PotOnN.ex2 {m : Nat} {H H1 H2 : Hp} {p : Addr} (P : PotOnN m H H1 p) (e : Ex H1 H2) : PotOnN m H H2 p := ⟨P.1.ex e, fun b u nb h => e _ _ (P.2 b u nb h)⟩
theorem PotN.oth {m : Nat} {H : Hp} {p l : Addr} {o : HO} (h : PotN m H p) (n : l ≠ p) : PotN m (upd H l o) p := by
  obtain ⟨x, y, z, e, r⟩ := h
  exact ⟨x, y, z, by rw [upd_ne (Ne.symm n)]; exact e, r⟩
theorem PotOnN.upd {m : Nat} {H H' : Hp} {p l : Addr} {o : HO} (P : PotOnN m H H' p) (n : H l = none) (ne : l ≠ p) : PotOnN m H (upd H' l o) p :=
  ⟨P.1.oth ne, fun b u nb h => by rw [upd_ne (ne_of_none h n)]; exact P.2 b u nb h⟩
theorem PotOnN.ex {m : Nat} {H0 H H' : Hp} {p : Addr} (e : Ex H0 H) (n : H0 p = none) (P : PotOnN m H H' p) : Ex H0 H' := fun b o h => P.2 b o (ne_of_none h n) (e b o h)
theorem PotOn.refl {H : Hp} {p : Addr} (h : Pot H p) : PotOn H H p := ⟨h, fun _ _ _ e => e⟩
theorem PotOn.trans {H H1 H2 : Hp} {p : Addr} (a : PotOn H H1 p) (b : PotOn H1 H2 p) : PotOn H H2 p := ⟨b.1, fun c o n e => b.2 c o n (a.2 c o n e)⟩
def sp__law_take (K : PySem.W.Frag) : Sp := fun vs H Q _ => ∃ (p : Addr) (m : Nat) (n : Int), vs = [.ref p, .int n] ∧ PotN m H p ∧ m ≤ 4611686018427387904 ∧ 0 < n ∧ n.natAbs.log2 < 9000 ∧ ∀ (d : Int) H', 0 ≤ d → d < n → PotOnN (m + 1) H H' p → Q (.int d) H'
theorem fb__law_take {P : Program} {w : World} {K : PySem.W.Frag} {mg : Str → Option Value} {base : Heap} (T : Env K mg) : ∃ fd, FunD K "_law_take" "_law_take" (defArgs s__law_take) (defBody s__law_take) (defScope s__law_take) [] [] (He.ga K "_law_take") fd ∧ Fb P w K mg base 1 (He.ga K "_law_take") fd ["_law_pot_here", "_law_many"] (sp__law_take K) := by
  obtain ⟨fd, F⟩ := T.f__law_take
  refine ⟨fd, F, fb_of F sc__law_take (fun vs H Q E h => ?_) (fun cdv A outer s H vs Q E hr h => ?_)⟩
  · obtain ⟨p, m, n, rfl, _⟩ := h
    rfl
  · obtain ⟨p, m, n, rfl, ⟨a, b, c, hp, b0, b1, c0, c1⟩, hm, n0, n1, q⟩ := h
    refine ⟨_, (pss_cons (ps_if (pt_cmpR op_gt (pe_ix ix_list (pv 0) pe_int (fun _ _ => rfl)) pe_int (nomark _))
      (pss_cons (ps_asg (pe_callB call_divmodW (by rfl) T.n_divmod (by decide +kernel) (pa_cons (pe_ix ix_list (pv 0) pe_int (fun _ _ => rfl)) (pa_cons (pv 1) pa_nil))) (pg_tup (by rfl) (pgs_cons (pg_sub (pv 0) pe_int set_list) (pgs_cons (pg_name (i := 2) sc__law_take.nd rfl (Or.inl rfl)) pgs_nil))))
      (pss_one (ps_ret (pv 2))))
      pss_nil)
      (pss_cons (ps_asg (pe_op op_add (pe_ix ix_list (pv 0) pe_int (fun _ _ => rfl)) pe_int) (pg_sub (pv 0) pe_int set_list))
      (pss_cons (ps_asg (pe_op op_mod (pe_op op_add (pe_op op_add (pe_op op_mul (pe_ix ix_list (pv 0) pe_int (fun _ _ => rfl)) pe_int) (pe_op op_mul (pe_op op_mul (pe_ix ix_list (pv 0) pe_int (fun _ _ => rfl)) (pe_ix ix_list (pv 0) pe_int (fun _ _ => rfl))) pe_int)) pe_int) pe_int) (pg_sub (pv 0) pe_int set_list))
      (pss_one (ps_ret (pe_op op_mod (pe_op op_fdiv (pe_op op_mod (pe_op op_mul (pe_ix ix_list (pv 0) pe_int (fun _ _ => rfl)) (pe_ix ix_list (pv 0) pe_int (fun _ _ => rfl))) pe_int) pe_int) (pv 1))))))), ?_⟩
    refine ⟨_, rfl, p, _, _, .int a, rfl, rfl, sq_lst hp, rfl, _, _, rfl, rfl, _, rfl, ite2 (fun _ => ?_) (fun _ => ?_)⟩
    · refine ⟨_, rfl, p, _, _, .int a, rfl, rfl, sq_lst hp, rfl, _, rfl, a, n, rfl, ⟨n0, PyProof.noPylong_of_log2 n1⟩, fun t ht => ?_⟩
      have pt : p ≠ t := ne_of_none hp ht
      refine ⟨t, _, rfl, sq_tup upd_same, rfl, _, _, rfl, _, rfl, p, [.int a, .int b, .int c], 0, 0, rfl, rfl, (by rw [upd_ne pt]; exact hp), rfl, _, _, rfl, rfl, _, rfl, ?_⟩
      refine q _ _ (Int.emod_nonneg _ (by omega)) (Int.emod_lt_of_pos _ n0) ⟨⟨_, _, _, upd_same, b0, b1, c0, by omega⟩, fun x o nx e => ?_⟩
      rw [upd_ne nx, upd_ne (ne_of_none e ht)]
      exact e
    · refine ⟨_, rfl, p, _, _, .int c, rfl, rfl, sq_lst hp, rfl, _, _, rfl, rfl, _, rfl, p, _, 2, 2, rfl, rfl, hp, rfl, ?_⟩
      refine ⟨_, rfl, _, _, _, _, rfl, rfl, (sq_lst upd_same), rfl, _, _, rfl, rfl, (.inl ⟨(by omega), (by omega)⟩), _, rfl, _, _, _, _, rfl, rfl, (sq_lst upd_same), rfl, _, rfl, _, _, _, _, rfl, rfl, (sq_lst upd_same), rfl, _, _, rfl, rfl, (.inl ⟨(by omega), (by omega)⟩), _, _, rfl, rfl, (.inr ⟨(by decide), (by decide)⟩), _, _, rfl, rfl, _, _, rfl, rfl, _, _, rfl, rfl, (by omega), _, rfl, _, _, _, _, rfl, rfl, upd_same, rfl, _, rfl, _, _, _, _, rfl, rfl, (sq_lst upd_same), rfl, _, rfl, _, _, _, _, rfl, rfl, (sq_lst upd_same), rfl, _, _, rfl, rfl, (.inl ⟨(by omega), (by omega)⟩), _, _, rfl, rfl, (by omega), _, _, rfl, rfl, ⟨(by decide), (by decide)⟩, _, rfl, _, _, rfl, rfl, n0, ?_⟩
      try dsimp only [tNil]
      refine q _ _ (Int.emod_nonneg _ (by omega)) (Int.emod_lt_of_pos _ n0) ⟨⟨_, _, _, upd_same, Int.emod_nonneg _ (by decide), Int.emod_lt_of_pos _ (by decide), by omega, by omega⟩, fun x o nx e => ?_⟩
      rw [upd_ne nx, upd_ne nx]
      exact e
theorem PotOn.ex {H0 H H' : Hp} {p : Addr} (e : Ex H0 H) (n : H0 p = none) (P : PotOn H H' p) : Ex H0 H' := fun b o h => P.2 b o (ne_of_none h n) (e b o h)
theorem PotOn.ex2 {H H1 H2 : Hp} {p : Addr} (P : PotOn H H1 p) (e : Ex H1 H2) : PotOn H H2 p := by
  obtain ⟨⟨x, y, z, h, r⟩, k⟩ := P
  exact ⟨⟨x, y, z, e _ _ h, r⟩, fun b u nb h => e _ _ (k b u nb h)⟩
theorem pot_ne {H H' : Hp} {p l : Addr} (P : PotOn H H' p) (n : H' l = none) : l ≠ p := fun z => by
  obtain ⟨_, _, _, e, _⟩ := P.1
  rw [z, e] at n
  cases n
theorem PotOn.fresh {H H' : Hp} {p b : Addr} (P : PotOn H H' p) (n : H' b = none) : H b = none := by
  cases e : H b with
  | none => rfl
  | some o =>
    by_cases hb : b = p
    · obtain ⟨_, _, _, e2, _⟩ := P.1
      rw [hb, e2] at n
      cases n
    · rw [P.2 b o hb e] at n
      cases n
theorem ok__law_take {P : Program} {w : World} {K : PySem.W.Frag} {mg : Str → Option Value} {base : Heap} (T : Env K mg) : Fc P w K mg base 1 (He.ga K "_law_take") [] (sp__law_take K ) := by
  obtain ⟨fd, D, F⟩ := fb__law_take T
  exact F.all (D.bindsN fun _ _ _ _ _ _ us hl => match us, hl with | [_, _], _ => rfl)
end
section
def sp__law_great (K : PySem.W.Frag) : Sp := fun vs H Q _ => ∃ (p : Addr) (m : Nat), vs = [.ref p] ∧ PotN m H p ∧ m ≤ 4611686018427380000 ∧ ∀ (d : Nat) H', d < 10 ^ 56 → PotOnN (m + 3) H H' p → Q (.int (d : Int)) H'
theorem fb__law_great {P : Program} {w : World} {K : PySem.W.Frag} {mg : Str → Option Value} {base : Heap} (T : Env K mg) : ∃ fd, FunD K "_law_great" "_law_great" (defArgs s__law_great) (defBody s__law_great) (defScope s__law_great) [] [] (He.ga K "_law_great") fd ∧ Fb P w K mg base 2 (He.ga K "_law_great") fd ["_law_pot_here"] (sp__law_great K) := by
  obtain ⟨fd, F⟩ := T.f__law_great
  refine ⟨fd, F, fb_of F sc__law_great (fun vs H Q E h => ?_) (fun cdv A outer s H vs Q E hr h => ?_)⟩
  · obtain ⟨p, m, rfl, _⟩ := h
    rfl
  · obtain ⟨p, m, rfl, hp, hm, q⟩ := h
    refine ⟨_, (pss_cons (ps_set (i := 1) sc__law_great.nd rfl (Or.inl rfl) (c_call (ok__law_take T) (hr.mono (by decide)) T.g__law_take T.k__law_take takes0 (pa_cons (pv 0) (pa_cons pe_int pa_nil))))
      (pss_cons (ps_if (pt_cmpR op_eq (pv 1) pe_int (nomark _))
      (pss_one (ps_ret (c_call (ok__law_take T) (hr.mono (by decide)) T.g__law_take T.k__law_take takes0 (pa_cons (pv 0) (pa_cons pe_int pa_nil)))))
      pss_nil)
      (pss_cons (ps_if (pt_cmpR op_eq (pv 1) pe_int (nomark _))
      (pss_one (ps_ret (c_call (ok__law_take T) (hr.mono (by decide)) T.g__law_take T.k__law_take takes0 (pa_cons (pv 0) (pa_cons pe_int pa_nil)))))
      pss_nil)
      (pss_cons (ps_if (pt_cmpR op_eq (pv 1) pe_int (nomark _))
      (pss_one (ps_ret (pe_op op_add (pe_op op_mul (pe_op op_add pe_int (c_call (ok__law_take T) (hr.mono (by decide)) T.g__law_take T.k__law_take takes0 (pa_cons (pv 0) (pa_cons pe_int pa_nil)))) (pe_op op_pow pe_int pe_int)) (c_call (ok__law_take T) (hr.mono (by decide)) T.g__law_take T.k__law_take takes0 (pa_cons (pv 0) (pa_cons pe_int pa_nil))))))
      pss_nil)
      (pss_one (ps_ret (c_call (ok__law_take T) (hr.mono (by decide)) T.g__law_take T.k__law_take takes0 (pa_cons (pv 0) (pa_cons (pe_op op_pow pe_int pe_int) pa_nil))))))))), ?_⟩
    refine ⟨_, rfl, p, m, 4, rfl, hp, by omega, by decide, by decide, fun w H1 w0 w1 P1 => ?_⟩
    have nn : ∀ d : Int, 0 ≤ d → ∃ n : Nat, d = (n : Int) := fun d h => ⟨d.toNat, by omega⟩
    rcases (by omega : w = 0 ∨ w = 1 ∨ w = 2 ∨ w = 3) with rfl | rfl | rfl | rfl
    · refine ⟨_, rfl, rfl, _, rfl, iteT ⟨_, rfl, p, m + 1, 5, rfl, P1.1, by omega, by decide, by decide, fun d H2 d0 d1 P2 => ?_⟩⟩
      obtain ⟨d, rfl⟩ := nn d d0
      exact q d H2 (Nat.lt_of_lt_of_le (Int.ofNat_lt.mp d1) (by decide)) ((P1.trans P2).le (by omega))
    · refine ⟨_, rfl, rfl, _, rfl, iteF ⟨_, rfl, rfl, _, rfl, iteT ⟨_, rfl, p, m + 1, 1000, rfl, P1.1, by omega, by decide, by decide, fun d H2 d0 d1 P2 => ?_⟩⟩⟩
      obtain ⟨d, rfl⟩ := nn d d0
      exact q d H2 (Nat.lt_of_lt_of_le (Int.ofNat_lt.mp d1) (by decide)) ((P1.trans P2).le (by omega))
    · refine ⟨_, rfl, rfl, _, rfl, iteF ⟨_, rfl, rfl, _, rfl, iteF ⟨_, rfl, rfl, _, rfl, iteT ⟨_, rfl, p, m + 1, 9, rfl, P1.1, by omega, by decide, by decide, fun d H2 d0 d1 P2 => ?_⟩⟩⟩⟩
      obtain ⟨d, rfl⟩ := nn d d0
      refine ⟨_, _, rfl, rfl, _, _, rfl, rfl, ⟨by decide, by decide, by decide⟩, _, _, rfl, rfl, .inl ⟨by omega, by omega⟩, _, rfl, p, m + 2, 1000, rfl, P2.1, by omega, by decide, by decide, fun e H3 e0 e1 P3 => ?_⟩
      obtain ⟨e, rfl⟩ := nn e e0
      refine ⟨_, _, rfl, rfl, ?_⟩
      have z : (1 + (d : Int)) * 10 ^ (54 : Int).toNat + (e : Int) = (((1 + d) * 10 ^ 54 + e : Nat) : Int) := by
        rw [show (54 : Int).toNat = 54 from rfl, Int.natCast_add, Int.natCast_mul, Int.natCast_add, Int.natCast_pow]
        rfl
      show Q (.int ((1 + (d : Int)) * 10 ^ (54 : Int).toNat + (e : Int))) H3
      rw [z]
      refine q _ H3 ?_ (P1.trans (P2.trans P3))
      have d2 : d < 9 := by omega
      have e2 : e < 1000 := by omega
      have m1 : (1 + d) * 10 ^ 54 ≤ 9 * 10 ^ 54 := Nat.mul_le_mul_right _ (by omega)
      have m2 : 9 * 10 ^ 54 + 1000 ≤ 10 ^ 56 := by decide +kernel
      omega
    · refine ⟨_, rfl, rfl, _, rfl, iteF ⟨_, rfl, rfl, _, rfl, iteF ⟨_, rfl, rfl, _, rfl, iteF ⟨_, rfl, _, _, rfl, rfl, ⟨by decide, by decide, by decide⟩, p, m + 1, _, rfl, P1.1, by omega, by decide +kernel, by decide +kernel, fun d H2 d0 d1 P2 => ?_⟩⟩⟩⟩
      obtain ⟨d, rfl⟩ := nn d d0
      have d3 : (d : Int) < ((10 ^ 56 : Nat) : Int) := Int.lt_of_lt_of_le d1 (by decide +kernel)
      exact q d H2 (Int.ofNat_lt.mp d3) ((P1.trans P2).le (by omega))
theorem ok__law_great {P : Program} {w : World} {K : PySem.W.Frag} {mg : Str → Option Value} {base : Heap} (T : Env K mg) : Fc P w K mg base 2 (He.ga K "_law_great") [] (sp__law_great K ) := by
  obtain ⟨fd, D, F⟩ := fb__law_great T
  exact F.all (D.bindsN fun _ _ _ _ _ _ us hl => match us, hl with | [_], _ => rfl)
end
section
theorem joinL_ones : ∀ l : List Nat, TL.joinL [] (l.map fun c => [c]) = l
  | [] => rfl
  | [c] => rfl
  | c :: d :: r => by
    show [c] ++ [] ++ TL.joinL [] ((d :: r).map fun c => [c]) = _
    rw [joinL_ones (d :: r)]
    rfl
theorem join_signs (l : List Nat) : Txt.join (Str.ofString "") (l.map fun c => SX.S [c]) = SX.S l := by
  have e := SX.join_S [] (l.map fun c => [c])
  rw [List.map_map, joinL_ones] at e
  exact e
end
section
theorem abc_at (d : Nat) (h : d < 26) : atI (Str.ofString "abcdefghijklmnopqrstuvwxyz").cps.toList (d : Int) = some (97 + d) := by
  have z : ∀ d ∈ List.range 26, atI (Str.ofString "abcdefghijklmnopqrstuvwxyz").cps.toList ((d : Nat) : Int) = some (97 + d) := by decide +kernel
  exact z d (List.mem_range.mpr h)
theorem lens_one : ∀ l : List Nat, ((l.map (fun c => SX.S [c])).map (·.length)).sum = l.length
  | [] => rfl
  | c :: r => by
    have := lens_one r
    show 1 + ((r.map (fun c => SX.S [c])).map (·.length)).sum = r.length + 1
    omega
def sp__law_name (K : PySem.W.Frag) : Sp := fun vs H Q _ => ∃ (p : Addr) (m : Nat), vs = [.ref p] ∧ PotN m H p ∧ m ≤ 4611686018427380000 ∧ ∀ (z : Str) H', nmN z.cps.toList = true → PotOnN (m + 20) H H' p → Q (.str z) H'
theorem fb__law_name {P : Program} {w : World} {K : PySem.W.Frag} {mg : Str → Option Value} {base : Heap} (T : Env K mg) : ∃ fd, FunD K "_law_name" "_law_name" (defArgs s__law_name) (defBody s__law_name) (defScope s__law_name) [] [] (He.ga K "_law_name") fd ∧ Fb P w K mg base 2 (He.ga K "_law_name") fd ["_law_pot_here"] (sp__law_name K) := by
  obtain ⟨fd, F⟩ := T.f__law_name
  refine ⟨fd, F, fb_of F sc__law_name (fun vs H Q E h => ?_) (fun cdv A outer s H vs Q E hr h => ?_)⟩
  · obtain ⟨p, m, rfl, _⟩ := h
    rfl
  · obtain ⟨p, m, rfl, hp, hm, q⟩ := h
    refine ⟨_, (pss_cons (ps_set (i := 1) sc__law_name.nd rfl (Or.inr rfl) pe_str)
      (Evl.pss_cut (ps_set (i := 2) sc__law_name.nd rfl (Or.inl rfl) (pe_op op_add pe_int (c_call (ok__law_take T) (hr.mono (by decide)) T.g__law_take T.k__law_take takes0 (pa_cons (pv 0) (pa_cons (pe_ix ix_list (pe_lst (pa_cons pe_int (pa_cons pe_int pa_nil))) (c_call (ok__law_take T) (hr.mono (by decide)) T.g__law_take T.k__law_take takes0 (pa_cons (pv 0) (pa_cons pe_int pa_nil))) (fun _ _ => rfl)) pa_nil)))))
      (pss_one (ps_ret (pe_join pe_str (pe_lc (own := [("_law_k", 3)]) (by rfl) sc__law_name.nd (pi_range1 (by rfl) T.n_range (pa_cons (pv 2) pa_nil)) (blkOk_by (own := [("_law_k", 3)]) (N := ["_law_pot_here", "_law_letters", "_law_size", "_law_k"]) (sc := defScope s__law_name) (by decide +kernel)) (fun _ _ _ _ _ => (pg_name (i := 3) sc__law_name.nd rfl (Or.inl rfl))) (fun _ _ _ _ _ => pts_nil) (fun _ _ _ _ _ => (pe_ix ix_str (pv 1) (c_call (ok__law_take T) (hr.mono (by decide)) T.g__law_take T.k__law_take takes0 (pa_cons (pv 0) (pa_cons (pe_ix (ix_listK K) (pe_lst (pa_cons pe_int (pa_cons pe_int pa_nil))) (c_call (ok__law_take T) (hr.mono (by decide)) T.g__law_take T.k__law_take takes0 (pa_cons (pv 0) (pa_cons pe_int pa_nil))) (fun _ _ => rfl)) pa_nil))) (fun _ _ => rfl))))))))), ?_⟩
    refine ⟨fun σ G => ∃ s : Nat, 1 ≤ s ∧ s ≤ 8 ∧ PotOnN (m + 2) H G p ∧ σ = [some (.ref p), some (.str (Str.ofString "abcdefghijklmnopqrstuvwxyz")), some (.int (s : Nat)), none], ?_, ?_⟩
    · refine ⟨_, rfl, by show 2 ≤ sizeLine; decide, fun a na => ?_⟩
      have X1 := ex_new (o := HO.lst [V.int 1, V.int 8]) na
      have ha : upd H a (HO.lst [V.int 1, V.int 8]) a = some (HO.lst [V.int 1, V.int 8]) := upd_same
      generalize upd H a (HO.lst [V.int 1, V.int 8]) = H1 at X1 ha ⊢
      have ap : a ≠ p := pot_ne (PotOn.refl hp.pot) na
      refine ⟨_, rfl, p, m, 2, rfl, hp.ex X1, by omega, by decide, by decide, fun d H2 d0 d1 P2 => ?_⟩
      have at_ : ∃ n : Nat, atI [V.int 1, V.int 8] d = some (.int (n : Int)) ∧ 0 < n ∧ n ≤ 8 := by
        rcases (by omega : d = 0 ∨ d = 1) with rfl | rfl
        · exact ⟨1, rfl, by decide, by decide⟩
        · exact ⟨8, rfl, by decide, by decide⟩
      obtain ⟨n, en, n0, n1⟩ := at_
      have P02 : PotOnN (m + 1) H H2 p := (hp.refl.ex2 X1).le (Nat.le_refl _) |>.trans P2
      refine ⟨a, _, d, _, rfl, rfl, sq_lst (P2.2 _ _ ap ha), en, p, m + 1, n, rfl, P2.1, by omega, by omega, ?_, fun d2 H3 e0 e1 P3 => ?_⟩
      · exact Nat.lt_of_le_of_lt (Nat.log2_le_self _) (by omega)
      obtain ⟨d2, rfl⟩ := Int.eq_ofNat_of_zero_le e0
      refine ⟨_, _, rfl, rfl, d2 + 1, by omega, by omega, P02.trans P3, ?_⟩
      show _ = [some (V.ref p), some (V.str (Str.ofString "abcdefghijklmnopqrstuvwxyz")), some (V.int ((d2 + 1 : Nat) : Int)), none]
      rw [show ((d2 + 1 : Nat) : Int) = 1 + (d2 : Int) by omega]
      rfl
    · rintro σ G ⟨s, s1, s2, P1, rfl⟩
      refine ⟨⟨_, rfl⟩, _, rfl, _, rfl, (by omega), (by omega), fun D nD => ?_⟩
      have Dp : D ≠ p := fun z => by
        obtain ⟨_, _, _, e, _⟩ := P1.1
        rw [z, e] at nD
        cases nD
      have nD0 : H D = none := P1.on.fresh nD
      refine lc_any (n := ((s : Nat) : Int).toNat) (J := Itr 0 ((s : Nat) : Int).toNat) L2.walk_range (fun i acc G => PotOnN (m + 2 + 2 * i) H G p ∧ ∃ l : List Nat, acc = l.map (fun c => V.str (SX.S [c])) ∧ l.length = i ∧ ∀ c ∈ l, 97 ≤ c ∧ c < 123) (fun i acc G l e => ⟨e.1.upd nD0 Dp, e.2⟩) ⟨P1, [], rfl, rfl, nofun⟩ (by omega) (fun i acc G e => ?_) (fun _ _ _ _ => trivial) (fun i x H2 H3 acc N hi e hD la y k _ => ?_) (fun acc H2 e hD => ?_)
      · obtain ⟨_, l, rfl, hl, _⟩ := e
        simp [hl]
      · obtain ⟨rfl, rfl⟩ := y
        obtain ⟨P2, l, rfl, hl, ha⟩ := e
        have hi8 : i < 8 := by omega
        refine ⟨rfl, _, rfl, _, rfl, (by decide), ?_⟩
        intro a1 na1
        have Xa1 := ex_new (o := HO.lst [V.int 3, V.int 26]) na1
        have ha1 : upd H3 a1 (HO.lst [V.int 3, V.int 26]) a1 = some (HO.lst [V.int 3, V.int 26]) := upd_same
        generalize upd H3 a1 (HO.lst [V.int 3, V.int 26]) = Ga1 at Xa1 ha1 ⊢
        refine ⟨_, rfl, ?_⟩
        have P3 := P2.ex2 Xa1
        have hD1 := Xa1 _ _ hD
        have ap : a1 ≠ p := pot_ne P2.on na1
        refine ⟨p, m + 2 + 2 * i, 2, rfl, P3.1, by omega, by decide, by decide, fun d H4 d0 d1 P4 => ?_⟩
        have at_ : ∃ n : Nat, atI [V.int 3, V.int 26] d = some (.int (n : Int)) ∧ 0 < n ∧ n ≤ 26 := by
          rcases (by omega : d = 0 ∨ d = 1) with rfl | rfl
          · exact ⟨3, rfl, by decide, by decide⟩
          · exact ⟨26, rfl, by decide, by decide⟩
        obtain ⟨n, en, n0, n1⟩ := at_
        refine ⟨a1, _, d, _, rfl, rfl, sq_lst (P4.2 _ _ ap ha1), en, p, m + 2 + 2 * i + 1, n, rfl, P4.1, by omega, by omega, ?_, fun c H5 c0 c1 P5 => ?_⟩
        · exact Nat.lt_of_le_of_lt (Nat.log2_le_self _) (by omega)
        obtain ⟨c, rfl⟩ := Int.eq_ofNat_of_zero_le c0
        have hD5 := P5.2 _ _ Dp (P4.2 _ _ Dp hD1)
        refine ⟨_, _, _, rfl, rfl, by decide, abc_at c (by omega), _, hD5, la, ?_⟩
        exact k _ H5 hD5 ⟨((P3.trans P4).trans P5).le (by omega), l ++ [97 + c], by simp, by simp [hl], fun x hx => (List.mem_append.mp hx).elim (ha x) fun z => by
          rw [List.mem_singleton.mp z]
          omega⟩
      · obtain ⟨P2, l, rfl, hl, ha⟩ := e
        refine ⟨_, _, l.map (fun c => SX.S [c]), rfl, rfl, .inl (sq_lst (by rw [hD, List.map_map]; rfl)), ?_, ?_⟩
        · rw [lens_one, List.length_map]
          have z : (Str.ofString "").length = 0 := rfl
          rw [z]
          omega
        rw [join_signs]
        refine q (SX.S l) H2 ?_ (P2.le (by omega))
        show nmN l = true
        unfold nmN
        rw [decide_eq_true (by omega), decide_eq_true (by omega), Bool.true_and, Bool.true_and, List.all_eq_true]
        exact fun c hc => by
          have := ha c hc
          rw [decide_eq_true (by omega), decide_eq_true (by omega)]
          rfl
theorem ok__law_name {P : Program} {w : World} {K : PySem.W.Frag} {mg : Str → Option Value} {base : Heap} (T : Env K mg) : Fc P w K mg base 2 (He.ga K "_law_name") [] (sp__law_name K ) := by
  obtain ⟨fd, D, F⟩ := fb__law_name T
  exact F.all (D.bindsN fun _ _ _ _ _ _ us hl => match us, hl with | [_], _ => rfl)
end
section
def sp__law_notes_drawn (K : PySem.W.Frag) : Sp := fun vs H Q _ => ∃ (p : Addr) (m : Nat), vs = [.ref p] ∧ PotN m H p ∧ m ≤ 4611686018427370000 ∧ ∀ (a : Addr) (ws : List Str) H', Nms ws → ws.Nodup → ws.length ≤ 7 → H a = none → a ≠ p → H' a = some (.lst (ws.map V.str)) → PotOnN (m + 150) H H' p → Q (.ref a) H'
theorem fb__law_notes_drawn {P : Program} {w : World} {K : PySem.W.Frag} {mg : Str → Option Value} {base : Heap} (T : Env K mg) : ∃ fd, FunD K "_law_notes_drawn" "_law_notes_drawn" (defArgs s__law_notes_drawn) (defBody s__law_notes_drawn) (defScope s__law_notes_drawn) [] [] (He.ga K "_law_notes_drawn") fd ∧ Fb P w K mg base 3 (He.ga K "_law_notes_drawn") fd ["_law_pot_here"] (sp__law_notes_drawn K) := by
  obtain ⟨fd, F⟩ := T.f__law_notes_drawn
  refine ⟨fd, F, fb_of F sc__law_notes_drawn (fun vs H Q E h => ?_) (fun cdv A outer s H vs Q E hr h => ?_)⟩
  · obtain ⟨p, m, rfl, _⟩ := h
    rfl
  · obtain ⟨p, m, rfl, hp, hm, q⟩ := h
    refine ⟨_, (pss_cons (ps_set (i := 1) sc__law_notes_drawn.nd rfl (Or.inl rfl) (pe_lst pa_nil))
      (pss_cons (ps_for (passes_of rfl) rfl (pi_range1 (by rfl) T.n_range (pa_cons (pe_ix ix_list (pe_lst (pa_cons pe_int (pa_cons pe_int (pa_cons pe_int (pa_cons pe_int (pa_cons pe_int (pa_cons pe_int pa_nil))))))) (c_call (ok__law_take T) (hr.mono (by decide)) T.g__law_take T.k__law_take takes0 (pa_cons (pv 0) (pa_cons pe_int pa_nil))) (fun _ _ => rfl)) pa_nil)) (pg_name (i := 2) sc__law_notes_drawn.nd rfl (Or.inl rfl))
      (pss_cons (ps_set (i := 3) sc__law_notes_drawn.nd rfl (Or.inl rfl) (c_call (ok__law_name T) (hr.mono (by decide)) T.g__law_name T.k__law_name takes0 (pa_cons (pv 0) pa_nil)))
      (pss_one (ps_if (pt_cmpR op_notIn_seq (pv 3) (pv 1) (by rfl))
      (pss_one (ps_expr (pe_bm PySem.F.plainAttrs_list PySem.F.slot_list_append PySem.F.type_list_append mt_append (pv 1) (pa_cons (pv 3) pa_nil))))
      pss_nil))))
      (pss_one (ps_ret (pv 1))))), ?_⟩
    refine ⟨(by decide), ?_⟩
    intro a1 na1
    have Xa1 := ex_new (o := HO.lst []) na1
    have ha1 : upd H a1 (HO.lst []) a1 = some (HO.lst []) := upd_same
    generalize upd H a1 (HO.lst []) = Ga1 at Xa1 ha1 ⊢
    refine ⟨(by decide), ?_⟩
    intro a2 na2
    have Xa2 := ex_new (o := HO.lst [V.int 0, V.int 0, V.int 1, V.int 2, V.int 3, V.int 7]) na2
    have ha2 : upd Ga1 a2 (HO.lst [V.int 0, V.int 0, V.int 1, V.int 2, V.int 3, V.int 7]) a2 = some (HO.lst [V.int 0, V.int 0, V.int 1, V.int 2, V.int 3, V.int 7]) := upd_same
    generalize upd Ga1 a2 (HO.lst [V.int 0, V.int 0, V.int 1, V.int 2, V.int 3, V.int 7]) = Ga2 at Xa2 ha2 ⊢
    have P0 := hp.refl.ex2 (Xa1.trans Xa2)
    have a1p : a1 ≠ p := pot_ne hp.refl.on na1
    have a2p : a2 ≠ p := pot_ne (hp.refl.ex2 Xa1).on na2
    have a12 : a2 ≠ a1 := (ne_of_none ha1 na2).symm
    refine ⟨_, rfl, p, m, 6, rfl, P0.1, by omega, by decide, by decide, fun d H3 d0 d1 P3 => ?_⟩
    have at_ : ∃ n : Nat, atI [V.int 0, V.int 0, V.int 1, V.int 2, V.int 3, V.int 7] d = some (.int (n : Int)) ∧ n ≤ 7 := by
      rcases (by omega : d = 0 ∨ d = 1 ∨ d = 2 ∨ d = 3 ∨ d = 4 ∨ d = 5) with rfl | rfl | rfl | rfl | rfl | rfl
      · exact ⟨0, rfl, by decide⟩
      · exact ⟨0, rfl, by decide⟩
      · exact ⟨1, rfl, by decide⟩
      · exact ⟨2, rfl, by decide⟩
      · exact ⟨3, rfl, by decide⟩
      · exact ⟨7, rfl, by decide⟩
    obtain ⟨n, en, n1⟩ := at_
    have P03 := P0.trans P3
    have h13 := P3.2 _ _ a1p (Xa2 _ _ ha1)
    refine ⟨a2, _, d, _, rfl, rfl, sq_lst (P3.2 _ _ a2p ha2), en, _, rfl, by omega, by omega, ?_⟩
    refine for_range (fun i σ G => PotOnN (m + 1 + 20 * i) H G p ∧ ∃ (ws : List Str) (v2 v3 : Option V), σ = [some (.ref p), some (.ref a1), v2, v3] ∧ G a1 = some (.lst (ws.map V.str)) ∧ Nms ws ∧ ws.Nodup ∧ ws.length ≤ i) ⟨P03, [], _, _, rfl, h13, nofun, List.nodup_nil, Nat.le_refl _⟩ ?_ ?_
    · rintro i σ G hi ⟨PG, ws, v2, v3, rfl, hG, nw, nd, lw⟩
      have hi7 : i < 7 := by omega
      refine ⟨_, rfl, p, m + 1 + 20 * i, rfl, PG.1, by omega, fun z H4 hz P4 => ?_⟩
      have P5 := PG.trans P4
      have hG4 := P4.2 _ _ a1p hG
      refine ⟨_, rfl, _, rfl, a1, _, rfl, .inl (sq_lst hG4), rfl, flat_strs _, _, rfl, ?_⟩
      rw [inV_str]
      by_cases c : z ∈ ws
      · rw [decide_eq_true c]
        exact iteF ⟨P5.le (by omega), ws, _, _, rfl, hG4, nw, nd, by omega⟩
      · rw [decide_eq_false c]
        refine iteT ?_
        refine ⟨_, rfl, (.inl ⟨rfl, ⟨_, (sq_lst hG4)⟩⟩), _, rfl, _, _, _, rfl, rfl, hG4, ?_⟩
        refine ⟨by rw [List.length_map]; exact small_len (by omega), ?_⟩
        have P6 := P5.upd (l := a1) (o := HO.lst (List.map V.str ws ++ [V.str z])) na1 a1p
        exact ⟨P6.le (by omega), ws ++ [z], _, _, rfl, by rw [List.map_append]; exact upd_same, fun x hx => (List.mem_append.mp hx).elim (nw x) fun hx => by rw [List.mem_singleton.mp hx]; exact hz, List.nodup_append.mpr ⟨nd, List.pairwise_singleton _ _, fun x hx y hy e => c (by rw [← List.mem_singleton.mp hy, ← e]; exact hx)⟩, by rw [List.length_append, List.length_singleton]; omega⟩
    · rintro σ G ⟨PG, ws, v2, v3, rfl, hG, nw, nd, lw⟩
      have l7 : ws.length ≤ 7 := by omega
      exact ⟨_, rfl, q a1 ws G nw nd l7 na1 a1p hG (PG.le (by omega))⟩
theorem ok__law_notes_drawn {P : Program} {w : World} {K : PySem.W.Frag} {mg : Str → Option Value} {base : Heap} (T : Env K mg) : Fc P w K mg base 3 (He.ga K "_law_notes_drawn") [] (sp__law_notes_drawn K ) := by
  obtain ⟨fd, D, F⟩ := fb__law_notes_drawn T
  exact F.all (D.bindsN fun _ _ _ _ _ _ us hl => match us, hl with | [_], _ => rfl)
end
section
def sp__law_text (K : PySem.W.Frag) : Sp := fun vs H Q _ => ∃ (n : Nat) (a : Addr) (ws : List Str), vs = [.int n, .ref a] ∧ n < 10 ^ 250 ∧ H a = some (.lst (ws.map V.str)) ∧ Nms ws ∧ ws.length ≤ 1000 ∧ ∀ H', Ex H H' → Q (.str (SX.S (goL n ws))) H'
theorem fb__law_text {P : Program} {w : World} {K : PySem.W.Frag} {mg : Str → Option Value} {base : Heap} (T : Env K mg) : ∃ fd, FunD K "_law_text" "_law_text" (defArgs s__law_text) (defBody s__law_text) (defScope s__law_text) [] [] (He.ga K "_law_text") fd ∧ Fb P w K mg base 1 (He.ga K "_law_text") fd ["_law_when", "_law_tags"] (sp__law_text K) := by
  obtain ⟨fd, F⟩ := T.f__law_text
  refine ⟨fd, F, fb_of F sc__law_text (fun vs H Q E h => ?_) (fun cdv A outer s H vs Q E hr h => ?_)⟩
  · obtain ⟨n, a, ws, rfl, _⟩ := h
    rfl
  · obtain ⟨m, a, ws, rfl, mb0, ha, hw, lw, q⟩ := h
    refine ⟨_, (pss_cons (ps_asg (pe_callB call_divmodW (by rfl) T.n_divmod (by decide +kernel) (pa_cons (pv 0) (pa_cons pe_int pa_nil))) (pg_tup (by rfl) (pgs_cons (pg_name (i := 2) sc__law_text.nd rfl (Or.inl rfl)) (pgs_cons (pg_name (i := 3) sc__law_text.nd rfl (Or.inl rfl)) pgs_nil))))
      (pss_cons (ps_asg (pe_callB call_divmodW (by rfl) T.n_divmod (by decide +kernel) (pa_cons (pv 3) (pa_cons pe_int pa_nil))) (pg_tup (by rfl) (pgs_cons (pg_name (i := 4) sc__law_text.nd rfl (Or.inl rfl)) (pgs_cons (pg_name (i := 5) sc__law_text.nd rfl (Or.inl rfl)) pgs_nil))))
      (pss_cons (ps_set (i := 6) sc__law_text.nd rfl (Or.inl rfl) (pe_op op_add_str (pe_op op_add_str (pe_op op_add_str (pe_callTy call_str_int (by rfl) T.n_str (by decide +kernel) (pa_cons (pv 4) pa_nil)) pe_str) (pe_callTy call_str_int (by rfl) T.n_str (by decide +kernel) (pa_cons (pe_op op_fdiv (pv 5) pe_int) pa_nil))) (pe_callTy call_str_int (by rfl) T.n_str (by decide +kernel) (pa_cons (pe_op op_mod (pv 5) pe_int) pa_nil))))
      (Evl.pss_cut (ps_if (pt_cmpR op_gt (pv 2) pe_int (nomark _))
      (pss_one (ps_set (i := 6) sc__law_text.nd rfl (Or.inl rfl) (pe_op op_add_str (pe_op op_add_str (pe_callTy call_str_int (by rfl) T.n_str (by decide +kernel) (pa_cons (pv 2) pa_nil)) pe_str) (pv 6))))
      pss_nil)
      (pss_one (ps_ret (pe_join pe_str (pe_op op_cat (pe_lst (pa_cons (pv 6) pa_nil)) (pv 1))))))))), ?_⟩
    have mb : m < 10 ^ 255 := Nat.lt_of_lt_of_le mb0 (Nat.pow_le_pow_right (by decide) (by decide))
    have l1 : (Mo.shw m).length ≤ 263 := Mo.shw_len (by decide) mb
    have l2 : (TL.numL (m % 1440 / 60)).length ≤ 2 := TL.numL_len (by decide) (by omega)
    have l3 : (TL.numL (m / 1440)).length ≤ 255 := TL.numL_len (by decide) (Nat.lt_of_le_of_lt (Nat.div_le_self _ _) mb)
    refine ⟨_, rfl, _, _, rfl, ⟨(by decide), rfl⟩, ?_⟩
    intro t nt
    have X1 := ex_new (o := .tup [.int (((m : Nat) : Int) / 1440), .int (((m : Nat) : Int) % 1440)]) nt
    have h1 : upd H t (.tup [.int (((m : Nat) : Int) / 1440), .int (((m : Nat) : Int) % 1440)]) t = some (.tup [.int (((m : Nat) : Int) / 1440), .int (((m : Nat) : Int) % 1440)]) := upd_same
    have e1 : ((m : Nat) : Int) / 1440 = ((m / 1440 : Nat) : Int) := by omega
    have e2 : ((m : Nat) : Int) % 1440 = ((m % 1440 : Nat) : Int) := by omega
    rw [e1, e2] at X1 h1 ⊢
    generalize upd H t (.tup [.int ((m / 1440 : Nat) : Int), .int ((m % 1440 : Nat) : Int)]) = H1 at X1 h1 ⊢
    refine ⟨_, _, rfl, (sq_tup h1), rfl, _, _, rfl, _, _, rfl, rfl, _, rfl, _, _, rfl, ⟨(by decide), rfl⟩, ?_⟩
    intro u nu
    have X2 := X1.trans (ex_new (o := .tup [.int (((m % 1440 : Nat) : Int) / 60), .int (((m % 1440 : Nat) : Int) % 60)]) nu)
    have h2 : upd H1 u (.tup [.int (((m % 1440 : Nat) : Int) / 60), .int (((m % 1440 : Nat) : Int) % 60)]) u = some (.tup [.int (((m % 1440 : Nat) : Int) / 60), .int (((m % 1440 : Nat) : Int) % 60)]) := upd_same
    have e3 : ((m % 1440 : Nat) : Int) / 60 = ((m % 1440 / 60 : Nat) : Int) := by omega
    have e4 : ((m % 1440 : Nat) : Int) % 60 = ((m % 60 : Nat) : Int) := by omega
    rw [e3, e4] at X2 h2 ⊢
    generalize upd H1 u (.tup [.int ((m % 1440 / 60 : Nat) : Int), .int ((m % 60 : Nat) : Int)]) = H2 at X2 h2 ⊢
    have b1 := log_small (n := m % 1440 / 60) (Nat.lt_of_le_of_lt (show m % 1440 / 60 ≤ 100 by omega) (by decide +kernel))
    refine ⟨_, _, rfl, (sq_tup h2), rfl, _, _, rfl, _, _, rfl, rfl, _, rfl, _, rfl, b1, _, _, rfl, rfl, ?_⟩
    rw [SX.num_S, show Str.ofString ":" = SX.S [58] from rfl, SX.S_cat]
    have l4 : (Mo.clk m).length ≤ 5 := by
      unfold Mo.clk Mo.two
      simp
      omega
    have dg : ∀ d : Nat, d < 10 → TL.numL d = [48 + d] := fun d hd => by
      have z : ∀ d ∈ List.range 10, TL.numL d = [48 + d] := by decide +kernel
      exact z d (List.mem_range.mpr hd)
    have b2 := log_small (n := m % 60 / 10) (Nat.lt_of_le_of_lt (show m % 60 / 10 ≤ 100 by omega) (by decide +kernel))
    have b3 := log_small (n := m % 60 % 10) (Nat.lt_of_le_of_lt (show m % 60 % 10 ≤ 100 by omega) (by decide +kernel))
    have e5 : ((m % 60 : Nat) : Int) / 10 = ((m % 60 / 10 : Nat) : Int) := by omega
    have e6 : ((m % 60 : Nat) : Int) % 10 = ((m % 60 % 10 : Nat) : Int) := by omega
    refine ⟨sz_big (by rw [SX.S_len, SX.S_len]; simp; omega), _, rfl, _, _, rfl, rfl, ⟨by decide, by decide⟩, ?_⟩
    dsimp only [tNil]
    rw [e5]
    refine ⟨_, rfl, b2, _, _, rfl, rfl, ?_⟩
    rw [SX.num_S, SX.S_cat, dg (m % 60 / 10) (by omega)]
    refine ⟨sz_big (by rw [SX.S_len, SX.S_len]; simp; omega), _, rfl, _, _, rfl, rfl, (by show (0 : Int) < 10; decide), ?_⟩
    dsimp only [tNil]
    rw [e6]
    refine ⟨_, rfl, b3, _, _, rfl, rfl, ?_⟩
    rw [SX.num_S, SX.S_cat, dg (m % 60 % 10) (by omega)]
    refine ⟨sz_big (by rw [SX.S_len, SX.S_len]; simp; omega), ?_⟩
    have ec : TL.numL (m % 1440 / 60) ++ [58] ++ [48 + m % 60 / 10] ++ [48 + m % 60 % 10] = Mo.clk m := by
      unfold Mo.clk Mo.two
      simp
    rw [ec]
    have X2' := X2
    refine ⟨fun σ G => Ex H G ∧ ∃ v2 v3 v4 v5, σ = [some (.int (m : Nat)), some (.ref a), v2, v3, v4, v5, some (.str (SX.S (Mo.shw m)))], ?_, ?_⟩
    · refine ⟨_, rfl, _, _, rfl, rfl, _, rfl, ?_⟩
      try dsimp only [tNil]
      by_cases c : m / 1440 = 0
      · refine ifN (by omega) ?_
        have e5 : Mo.shw m = Mo.clk m := by unfold Mo.shw; rw [if_pos c]
        exact ⟨X2, _, _, _, _, by rw [e5]; rfl⟩
      · refine ifP (by omega) ?_
        have b4 := log_small (n := m / 1440) (Nat.lt_of_le_of_lt (Nat.div_le_self _ _) mb)
        refine ⟨_, rfl, _, rfl, b4, ?_⟩
        rw [SX.num_S, show Str.ofString " " = SX.S [32] from rfl]
        refine ⟨_, _, rfl, rfl, sz_big (by rw [SX.S_len, SX.S_len]; simp; omega), _, rfl, _, _, rfl, rfl, ?_⟩
        rw [SX.S_cat, SX.S_cat]
        refine ⟨sz_big (by rw [SX.S_len, SX.S_len]; simp; omega), ?_⟩
        have e5 : Mo.shw m = TL.numL (m / 1440) ++ [32] ++ Mo.clk m := by unfold Mo.shw; rw [if_neg c]; simp
        exact ⟨X2, _, _, _, _, by rw [e5]; rfl⟩
    · rintro σ G ⟨XG, v2, v3, v4, v5, rfl⟩
      refine ⟨⟨_, rfl⟩, _, rfl, (by show 1 ≤ sizeLine; decide), ?_⟩
      intro a1 na1
      have Xa1 := ex_new (o := HO.lst [V.str (SX.S (Mo.shw m))]) na1
      have ha1 : upd G a1 (HO.lst [V.str (SX.S (Mo.shw m))]) a1 = some (HO.lst [V.str (SX.S (Mo.shw m))]) := upd_same
      generalize upd G a1 (HO.lst [V.str (SX.S (Mo.shw m))]) = Ga1 at Xa1 ha1 ⊢
      refine ⟨_, rfl, _, _, _, _, rfl, rfl, ha1, (Xa1 _ _ (XG _ _ ha)), ?_⟩
      refine ⟨sz_big (by rw [List.length_map]; show 1 + _ ≤ _; omega), fun p np => ?_⟩
      have Xp := ex_new (o := HO.lst ([V.str (SX.S (Mo.shw m))] ++ List.map V.str ws)) np
      refine ⟨_, p, SX.S (Mo.shw m) :: ws, rfl, rfl, .inl (sq_lst upd_same), go_sz hw mb lw, ?_⟩
      rw [go_join]
      exact q _ ((XG.trans Xa1).trans Xp)
theorem ok__law_text {P : Program} {w : World} {K : PySem.W.Frag} {mg : Str → Option Value} {base : Heap} (T : Env K mg) : Fc P w K mg base 1 (He.ga K "_law_text") [] (sp__law_text K ) := by
  obtain ⟨fd, D, F⟩ := fb__law_text T
  exact F.all (D.bindsN fun _ _ _ _ _ _ us hl => match us, hl with | [_, _], _ => rfl)
end
section
def wdS (t : Bool) : Str := if t then "notime" else "nocard"
def sp__law_word (K : PySem.W.Frag) : SpP := fun p vs H Q _ => ∃ (a : Addr) (t : Bool), vs = [.ref a] ∧ p.1 = a ∧ Zc (.ref (He.ga K (if t then "NoTime" else "NoCard"))) none p.2 ∧ (∃ vs, p.2.data = .fields vs) ∧ ∀ H', Ex H H' → Q (.str (wdS t)) H'
theorem fb__law_word {P : Program} {w : World} {K : PySem.W.Frag} {mg : Str → Option Value} {base : Heap} (T : Env K mg) : ∃ fd, FunD K "_law_word" "_law_word" (defArgs s__law_word) (defBody s__law_word) (defScope s__law_word) [] [] (He.ga K "_law_word") fd ∧ FbP P w K mg base 1 (He.ga K "_law_word") fd ["_law_e"] (sp__law_word K) := by
  obtain ⟨fd, F⟩ := T.f__law_word
  refine ⟨fd, F, fbP_of F sc__law_word (fun p vs H Q E h => ?_) (fun cdv A outer s H vs Q E p hr h => ?_)⟩
  · obtain ⟨a, t, rfl, _⟩ := h
    rfl
  · obtain ⟨b, oe⟩ := p
    obtain ⟨a, t, rfl, e, hz, hf, q⟩ := h
    dsimp only at e hz hf
    subst e
    have hp : (b, oe) ∈ [(b, oe)] := List.mem_singleton.mpr rfl
    refine ⟨_, (pss_cons (ps_set (i := 1) sc__law_word.nd rfl (Or.inl rfl) (pe_lst (pa_cons (pe_callB (call_isPT K hp hz hf) (by rfl) T.n_isinstance (by decide +kernel) (pa_cons (pv 0) (pa_cons (pe_tup (pa_cons (pe_glob (v := .ref _) (by rfl) T.g_NoPiece rfl) (pa_cons (pe_glob (v := .ref _) (by rfl) T.g_NoDays rfl) (pa_cons (pe_glob (v := .ref _) (by rfl) T.g_NoName rfl) (pa_cons (pe_glob (v := .ref _) (by rfl) T.g_NoRow rfl) (pa_cons (pe_glob (v := .ref _) (by rfl) T.g_NoText rfl) pa_nil)))))) pa_nil))) (pa_cons (pe_callB (call_isPT K hp hz hf) (by rfl) T.n_isinstance (by decide +kernel) (pa_cons (pv 0) (pa_cons (pe_tup (pa_cons (pe_glob (v := .ref _) (by rfl) T.g_LackError rfl) (pa_cons (pe_glob (v := .ref _) (by rfl) T.g_BookError rfl) pa_nil))) pa_nil))) pa_nil))))
      (pss_cons (ps_set (i := 2) sc__law_word.nd rfl (Or.inl rfl) (pe_lst (pa_cons (pe_callB (call_isP K hp hz hf) (by rfl) T.n_isinstance (by decide +kernel) (pa_cons (pv 0) (pa_cons (pe_glob (v := .ref _) (by rfl) T.g_NoTime rfl) pa_nil))) (pa_cons (pe_callB (call_isP K hp hz hf) (by rfl) T.n_isinstance (by decide +kernel) (pa_cons (pv 0) (pa_cons (pe_glob (v := .ref _) (by rfl) T.g_NoCard rfl) pa_nil))) pa_nil))))
      (pss_cons (ps_if (PW.pt (pw_or (pt_cmpR op_in_seq pe_bl (pv 1) (by rfl)) (pw_or (pt_not (pt_val (pe_callB (call_isP K hp hz hf) (by rfl) T.n_isinstance (by decide +kernel) (pa_cons (pv 0) (pa_cons (pe_bltn (v := .ty "ValueError") (by rfl) T.n_ValueError (by decide +kernel) rfl) pa_nil))))) (pw_or1 (pt_cmpR op_ne (pe_bmK K PySem.F.plainAttrs_list PySem.F.slot_list_count PySem.F.type_list_count (mt_countP K (roomHU hr)) (pv 2) (pa_cons pe_bl pa_nil)) pe_int (nomark _))))))
      (pss_one (ps_ret pe_str))
      pss_nil)
      (pss_one (ps_ret (pe_ix ix_list (pe_lst (pa_cons pe_str (pa_cons pe_str pa_nil))) (pe_bm PySem.F.plainAttrs_list PySem.F.slot_list_index PySem.F.type_list_index mt_index (pv 2) (pa_cons pe_bl pa_nil)) (fun _ _ => rfl))))))), ?_⟩
    revert hz
    cases t with
    | true =>
      rw [if_pos rfl]
      intro hz
      refine ⟨_, rfl, (by show 5 ≤ sizeLine; decide), fun a1 na1 => ?_⟩
      have Xa1 := ex_new (o := HO.tup [V.ref (He.ga K (Str.ofString "NoPiece")), V.ref (He.ga K (Str.ofString "NoDays")), V.ref (He.ga K (Str.ofString "NoName")), V.ref (He.ga K (Str.ofString "NoRow")), V.ref (He.ga K (Str.ofString "NoText"))]) na1
      have ha1 : upd H a1 (HO.tup [V.ref (He.ga K (Str.ofString "NoPiece")), V.ref (He.ga K (Str.ofString "NoDays")), V.ref (He.ga K (Str.ofString "NoName")), V.ref (He.ga K (Str.ofString "NoRow")), V.ref (He.ga K (Str.ofString "NoText"))]) a1 = some (HO.tup [V.ref (He.ga K (Str.ofString "NoPiece")), V.ref (He.ga K (Str.ofString "NoDays")), V.ref (He.ga K (Str.ofString "NoName")), V.ref (He.ga K (Str.ofString "NoRow")), V.ref (He.ga K (Str.ofString "NoText"))]) := upd_same
      generalize upd H a1 (HO.tup [V.ref (He.ga K (Str.ofString "NoPiece")), V.ref (He.ga K (Str.ofString "NoDays")), V.ref (He.ga K (Str.ofString "NoName")), V.ref (He.ga K (Str.ofString "NoRow")), V.ref (He.ga K (Str.ofString "NoText"))]) = H1 at Xa1 ha1 ⊢
      refine ⟨_, a1, _, _, false, rfl, T.xc_NoTime, .inl rfl, rfl, ha1, (.cons (.own _) (.cons (.own _) (.cons (.own _) (.cons (.own _) (.cons (.own _) .nil))))), kitAny_cons T.kit_NoTime_NoPiece (fun _ => kitAny_cons T.kit_NoTime_NoDays (fun _ => kitAny_cons T.kit_NoTime_NoName (fun _ => kitAny_cons T.kit_NoTime_NoRow (fun _ => kitAny_cons T.kit_NoTime_NoText (fun _ => kitAny_nil) (by decide)) (by decide)) (by decide)) (by decide)) (by decide), ?_⟩
      refine ⟨_, rfl, (by show 2 ≤ sizeLine; decide), fun a2 na2 => ?_⟩
      have Xa2 := ex_new (o := HO.tup [V.ref (He.ga K (Str.ofString "LackError")), V.ref (He.ga K (Str.ofString "BookError"))]) na2
      have ha2 : upd H1 a2 (HO.tup [V.ref (He.ga K (Str.ofString "LackError")), V.ref (He.ga K (Str.ofString "BookError"))]) a2 = some (HO.tup [V.ref (He.ga K (Str.ofString "LackError")), V.ref (He.ga K (Str.ofString "BookError"))]) := upd_same
      generalize upd H1 a2 (HO.tup [V.ref (He.ga K (Str.ofString "LackError")), V.ref (He.ga K (Str.ofString "BookError"))]) = H2 at Xa2 ha2 ⊢
      refine ⟨_, a2, _, _, false, rfl, T.xc_NoTime, .inl rfl, rfl, ha2, (.cons (.own _) (.cons (.own _) .nil)), kitAny_cons T.kit_NoTime_LackError (fun _ => kitAny_cons T.kit_NoTime_BookError (fun _ => kitAny_nil) (by decide)) (by decide), ?_⟩
      refine ⟨(by decide), fun a3 na3 => ?_⟩
      have Xa3 := ex_new (o := HO.lst [V.bl false, V.bl false]) na3
      have ha3 : upd H2 a3 (HO.lst [V.bl false, V.bl false]) a3 = some (HO.lst [V.bl false, V.bl false]) := upd_same
      generalize upd H2 a3 (HO.lst [V.bl false, V.bl false]) = H3 at Xa3 ha3 ⊢
      refine ⟨_, rfl, _, _, _, true, rfl, T.xc_NoTime, .inl rfl, rfl, .own _, T.kit_NoTime_NoTime, ?_⟩
      refine ⟨_, rfl, _, _, _, false, rfl, T.xc_NoTime, .inl rfl, rfl, .own _, T.kit_NoTime_NoCard, ?_⟩
      refine ⟨(by decide), fun a4 na4 => ?_⟩
      have Xa4 := ex_new (o := HO.lst [V.bl true, V.bl false]) na4
      have ha4 : upd H3 a4 (HO.lst [V.bl true, V.bl false]) a4 = some (HO.lst [V.bl true, V.bl false]) := upd_same
      generalize upd H3 a4 (HO.lst [V.bl true, V.bl false]) = H4 at Xa4 ha4 ⊢
      have h3 := Xa4 _ _ ha3
      refine ⟨_, rfl, a3, _, rfl, .inl (sq_lst h3), rfl, rfl, _, rfl, iteF ?_⟩
      refine ⟨_, rfl, _, _, _, true, rfl, T.xc_NoTime, .inl rfl, rfl, .ty _, T.kit_NoTime_ValueError, _, rfl, iteF ?_⟩
      refine ⟨_, rfl, .inl ⟨rfl, ⟨_, sq_lst ha4⟩⟩, ?_⟩
      have fl : ∀ z ∈ [V.bl true, V.bl false], flatV z = true := fun z hz => by
        rcases List.mem_cons.mp hz with rfl | hz
        · rfl
        · rw [List.mem_singleton.mp hz]; rfl
      refine ⟨a4, _, .bl true, fun z => eqV z (.bl true), rfl, rfl, sq_lst ha4, fun z hz => .inl ⟨fl z hz, rfl, rfl⟩, rfl, _, rfl, iteF ?_⟩
      refine ⟨by decide, fun a5 na5 => ?_⟩
      have Xa5 := ex_new (o := HO.lst [V.str "notime", V.str "nocard"]) na5
      have ha5 : upd H4 a5 (HO.lst [V.str "notime", V.str "nocard"]) a5 = some (HO.lst [V.str "notime", V.str "nocard"]) := upd_same
      generalize upd H4 a5 (HO.lst [V.str "notime", V.str "nocard"]) = H5 at Xa5 ha5 ⊢
      have h4 := Xa5 _ _ ha4
      refine ⟨_, rfl, .inl ⟨rfl, ⟨_, sq_lst h4⟩⟩, a4, _, .bl true, 0, _, rfl, rfl, sq_lst h4, rfl, rfl, rfl, rfl, ?_, a5, _, _, _, rfl, rfl, sq_lst ha5, rfl, ?_⟩
      · exact fun m z' h => absurd h (Nat.not_lt_zero m)
      · exact q H5 ((((Xa1.trans Xa2).trans Xa3).trans Xa4).trans Xa5)
    | false =>
      rw [if_neg (show ¬ false = true from nofun)]
      intro hz
      refine ⟨_, rfl, (by show 5 ≤ sizeLine; decide), fun a1 na1 => ?_⟩
      have Xa1 := ex_new (o := HO.tup [V.ref (He.ga K (Str.ofString "NoPiece")), V.ref (He.ga K (Str.ofString "NoDays")), V.ref (He.ga K (Str.ofString "NoName")), V.ref (He.ga K (Str.ofString "NoRow")), V.ref (He.ga K (Str.ofString "NoText"))]) na1
      have ha1 : upd H a1 (HO.tup [V.ref (He.ga K (Str.ofString "NoPiece")), V.ref (He.ga K (Str.ofString "NoDays")), V.ref (He.ga K (Str.ofString "NoName")), V.ref (He.ga K (Str.ofString "NoRow")), V.ref (He.ga K (Str.ofString "NoText"))]) a1 = some (HO.tup [V.ref (He.ga K (Str.ofString "NoPiece")), V.ref (He.ga K (Str.ofString "NoDays")), V.ref (He.ga K (Str.ofString "NoName")), V.ref (He.ga K (Str.ofString "NoRow")), V.ref (He.ga K (Str.ofString "NoText"))]) := upd_same
      generalize upd H a1 (HO.tup [V.ref (He.ga K (Str.ofString "NoPiece")), V.ref (He.ga K (Str.ofString "NoDays")), V.ref (He.ga K (Str.ofString "NoName")), V.ref (He.ga K (Str.ofString "NoRow")), V.ref (He.ga K (Str.ofString "NoText"))]) = H1 at Xa1 ha1 ⊢
      refine ⟨_, a1, _, _, false, rfl, T.xc_NoCard, .inl rfl, rfl, ha1, (.cons (.own _) (.cons (.own _) (.cons (.own _) (.cons (.own _) (.cons (.own _) .nil))))), kitAny_cons T.kit_NoCard_NoPiece (fun _ => kitAny_cons T.kit_NoCard_NoDays (fun _ => kitAny_cons T.kit_NoCard_NoName (fun _ => kitAny_cons T.kit_NoCard_NoRow (fun _ => kitAny_cons T.kit_NoCard_NoText (fun _ => kitAny_nil) (by decide)) (by decide)) (by decide)) (by decide)) (by decide), ?_⟩
      refine ⟨_, rfl, (by show 2 ≤ sizeLine; decide), fun a2 na2 => ?_⟩
      have Xa2 := ex_new (o := HO.tup [V.ref (He.ga K (Str.ofString "LackError")), V.ref (He.ga K (Str.ofString "BookError"))]) na2
      have ha2 : upd H1 a2 (HO.tup [V.ref (He.ga K (Str.ofString "LackError")), V.ref (He.ga K (Str.ofString "BookError"))]) a2 = some (HO.tup [V.ref (He.ga K (Str.ofString "LackError")), V.ref (He.ga K (Str.ofString "BookError"))]) := upd_same
      generalize upd H1 a2 (HO.tup [V.ref (He.ga K (Str.ofString "LackError")), V.ref (He.ga K (Str.ofString "BookError"))]) = H2 at Xa2 ha2 ⊢
      refine ⟨_, a2, _, _, false, rfl, T.xc_NoCard, .inl rfl, rfl, ha2, (.cons (.own _) (.cons (.own _) .nil)), kitAny_cons T.kit_NoCard_LackError (fun _ => kitAny_cons T.kit_NoCard_BookError (fun _ => kitAny_nil) (by decide)) (by decide), ?_⟩
      refine ⟨(by decide), fun a3 na3 => ?_⟩
      have Xa3 := ex_new (o := HO.lst [V.bl false, V.bl false]) na3
      have ha3 : upd H2 a3 (HO.lst [V.bl false, V.bl false]) a3 = some (HO.lst [V.bl false, V.bl false]) := upd_same
      generalize upd H2 a3 (HO.lst [V.bl false, V.bl false]) = H3 at Xa3 ha3 ⊢
      refine ⟨_, rfl, _, _, _, false, rfl, T.xc_NoCard, .inl rfl, rfl, .own _, T.kit_NoCard_NoTime, ?_⟩
      refine ⟨_, rfl, _, _, _, true, rfl, T.xc_NoCard, .inl rfl, rfl, .own _, T.kit_NoCard_NoCard, ?_⟩
      refine ⟨(by decide), fun a4 na4 => ?_⟩
      have Xa4 := ex_new (o := HO.lst [V.bl false, V.bl true]) na4
      have ha4 : upd H3 a4 (HO.lst [V.bl false, V.bl true]) a4 = some (HO.lst [V.bl false, V.bl true]) := upd_same
      generalize upd H3 a4 (HO.lst [V.bl false, V.bl true]) = H4 at Xa4 ha4 ⊢
      have h3 := Xa4 _ _ ha3
      refine ⟨_, rfl, a3, _, rfl, .inl (sq_lst h3), rfl, rfl, _, rfl, iteF ?_⟩
      refine ⟨_, rfl, _, _, _, true, rfl, T.xc_NoCard, .inl rfl, rfl, .ty _, T.kit_NoCard_ValueError, _, rfl, iteF ?_⟩
      refine ⟨_, rfl, .inl ⟨rfl, ⟨_, sq_lst ha4⟩⟩, ?_⟩
      have fl : ∀ z ∈ [V.bl false, V.bl true], flatV z = true := fun z hz => by
        rcases List.mem_cons.mp hz with rfl | hz
        · rfl
        · rw [List.mem_singleton.mp hz]; rfl
      refine ⟨a4, _, .bl true, fun z => eqV z (.bl true), rfl, rfl, sq_lst ha4, fun z hz => .inl ⟨fl z hz, rfl, rfl⟩, rfl, _, rfl, iteF ?_⟩
      refine ⟨by decide, fun a5 na5 => ?_⟩
      have Xa5 := ex_new (o := HO.lst [V.str "notime", V.str "nocard"]) na5
      have ha5 : upd H4 a5 (HO.lst [V.str "notime", V.str "nocard"]) a5 = some (HO.lst [V.str "notime", V.str "nocard"]) := upd_same
      generalize upd H4 a5 (HO.lst [V.str "notime", V.str "nocard"]) = H5 at Xa5 ha5 ⊢
      have h4 := Xa5 _ _ ha4
      refine ⟨_, rfl, .inl ⟨rfl, ⟨_, sq_lst h4⟩⟩, a4, _, .bl true, 1, _, rfl, rfl, sq_lst h4, rfl, rfl, rfl, rfl, ?_, a5, _, _, _, rfl, rfl, sq_lst ha5, rfl, ?_⟩
      · exact fun m z' h e => by
          obtain rfl : m = 0 := by omega
          cases e
          rfl
      · exact q H5 ((((Xa1.trans Xa2).trans Xa3).trans Xa4).trans Xa5)
theorem ok__law_word {P : Program} {w : World} {K : PySem.W.Frag} {mg : Str → Option Value} {base : Heap} (T : Env K mg) : FcP P w K mg base 1 (He.ga K "_law_word") (sp__law_word K) := by
  obtain ⟨fd, D, F⟩ := fb__law_word T
  exact F.all (D.bindsN fun _ _ _ _ _ _ us hl => match us, hl with | [_], _ => rfl)
end
section
def sp__law_refused (K : PySem.W.Frag) : Sp := fun vs H Q _ => ∃ (x y : V) (t : Bool), vs = [x, y] ∧ Cl K H x ∧ isM x = !t ∧ (t = false → NtX K H y none) ∧ ∀ H', Ex H H' → Q (.str (wdS t)) H'
theorem fb__law_refused {P : Program} {w : World} {K : PySem.W.Frag} {mg : Str → Option Value} {base : Heap} (T : Env K mg) : ∃ fd, FunD K "_law_refused" "_law_refused" (defArgs s__law_refused) (defBody s__law_refused) (defScope s__law_refused) [] [] (He.ga K "_law_refused") fd ∧ Fb P w K mg base 6 (He.ga K "_law_refused") fd ["_law_when", "_law_tags"] (sp__law_refused K) := by
  obtain ⟨fd, F⟩ := T.f__law_refused
  refine ⟨fd, F, fb_of F sc__law_refused (fun vs H Q E h => ?_) (fun cdv A outer s H vs Q E hr h => ?_)⟩
  · obtain ⟨x, y, t, rfl, _⟩ := h
    rfl
  · obtain ⟨x, y, t, rfl, cl, hm, hN, q⟩ := h
    refine ⟨_, (pss_cons (ps_set (i := 2) sc__law_refused.nd rfl (Or.inl rfl) pe_str)
      (pss_cons (ps_try_fst (i := 3) rfl rfl sc__law_refused.nd rfl rfl ⟨by rfl, by decide, .inl T.g_GoingError⟩ (fun W pn xe tk po => (pss_one (ps_expr (c_make T.mk_Going (ok_Going_init T) (hr.mono (by decide)) T.g_Going tk (pa_cons (pv 0) (pa_cons (pv 1) pa_nil)))))) (fun a oe cls d pn hz hf => (pss_one (ps_set (i := 2) sc__law_refused.nd rfl (Or.inl rfl) (c_callP (ok__law_word T) (roomM (hr.mono (by decide))) List.mem_cons_self hz hf T.g__law_word T.k__law_word takes0 (pa_cons (pv 3) pa_nil))))))
      (pss_one (ps_ret (pv 2))))), ?_⟩
    refine ⟨_, rfl, _, rfl, ?_⟩
    try dsimp only [tNil]
    intro a dx na nd ne
    have X1 := ex_made (o1 := .own a) (o2 := .ins (GoingC K) dx []) na nd ne
    refine ⟨rfl, ?_⟩
    show sp_Going_init K [.ref a, x, y] _ _ _
    refine ⟨a, dx, x, y, H, rfl, upd_same, na, X1, cl.mono X1, fun h0 => ?_, fun n e => ⟨none, hN ?_, (fun ws e => nomatch e), fun _ H2 X2 => ?_⟩⟩
    · rw [hm] at h0
      obtain rfl : t = true := by cases t <;> first | rfl | cases h0
      refine ⟨T.exm_NoTime_GoingError, fun y ny => ?_⟩
      refine ⟨_, rfl, fun oe hz hf => ⟨_, true, rfl, rfl, hz, hf, fun H3 X3 => ⟨_, rfl, ?_⟩⟩⟩
      exact q _ (X1.trans X3)
    · subst e
      cases t with
      | false => rfl
      | true => exact absurd hm (by show ¬ decide (0 ≤ ((n : Nat) : Int)) = false; rw [decide_eq_true (by omega)]; nofun)
    · subst e
      obtain rfl : t = false := by
        cases t with
        | false => rfl
        | true => exact absurd hm (by show ¬ decide (0 ≤ ((n : Nat) : Int)) = false; rw [decide_eq_true (by omega)]; nofun)
      refine ⟨T.exm_NoCard_GoingError, fun y ny => ?_⟩
      refine ⟨_, rfl, fun oe hz hf => ⟨_, false, rfl, rfl, hz, hf, fun H3 X3 => ⟨_, rfl, ?_⟩⟩⟩
      exact q _ (X2.trans X3)
theorem ok__law_refused {P : Program} {w : World} {K : PySem.W.Frag} {mg : Str → Option Value} {base : Heap} (T : Env K mg) : Fc P w K mg base 6 (He.ga K "_law_refused") [] (sp__law_refused K ) := by
  obtain ⟨fd, D, F⟩ := fb__law_refused T
  exact F.all (D.bindsN fun _ _ _ _ _ _ us hl => match us, hl with | [_, _], _ => rfl)
end
section
def sp__law_made_right (K : PySem.W.Frag) : Sp := fun vs H Q _ => ∃ (a t : Addr) (n : Nat) (ws : List Str), vs = [.ref a, .int (n : Nat), .ref t] ∧ GoAt K H a n (srtS ws) ∧ H t = some (.lst (ws.map V.str)) ∧ n < 10 ^ 80 ∧ Nms ws ∧ ws.length ≤ 999 ∧ ∀ H', Ex H H' → Q (.bl true) H'
theorem fb__law_made_right {P : Program} {w : World} {K : PySem.W.Frag} {mg : Str → Option Value} {base : Heap} (T : Env K mg) : ∃ fd, FunD K "_law_made_right" "_law_made_right" (defArgs s__law_made_right) (defBody s__law_made_right) (defScope s__law_made_right) [] [] (He.ga K "_law_made_right") fd ∧ Fb P w K mg base 11 (He.ga K "_law_made_right") fd ["_law_going", "_law_when", "_law_tags"] (sp__law_made_right K) := by
  obtain ⟨fd, F⟩ := T.f__law_made_right
  refine ⟨fd, F, fb_of F sc__law_made_right (fun vs H Q E h => ?_) (fun cdv A outer s H vs Q E hr h => ?_)⟩
  · obtain ⟨a, t, n, ws, rfl, _⟩ := h
    rfl
  · obtain ⟨a, t, n, ws, rfl, hG, ht, hn, hw, lw, q⟩ := h
    refine ⟨_, (pss_cons (ps_if (PW.pt (pw_or (pt_val (pe_callB call_isi (by rfl) T.n_isinstance (by decide +kernel) (pa_cons (pe_fld (pv 0) (by rfl)) (pa_cons (pe_bltn (v := .ty "bool") (by rfl) T.n_bool (by decide +kernel) rfl) pa_nil)))) (pw_or (pt_not (pt_val (pe_callB call_isi (by rfl) T.n_isinstance (by decide +kernel) (pa_cons (pe_fld (pv 0) (by rfl)) (pa_cons (pe_bltn (v := .ty "int") (by rfl) T.n_int (by decide +kernel) rfl) pa_nil))))) (pw_or1 (pt_cmpR op_ne (pe_fld (pv 0) (by rfl)) (pv 1) (nomark _))))))
      (pss_one (ps_ret pe_bl))
      pss_nil)
      (pss_cons (ps_if (PW.pt (pw_or (pt_not (pt_val (pe_callB call_isi (by rfl) T.n_isinstance (by decide +kernel) (pa_cons (pe_fld (pv 0) (by rfl)) (pa_cons (pe_bltn (v := .ty "tuple") (by rfl) T.n_tuple (by decide +kernel) rfl) pa_nil))))) (pw_or1 (pt_cmpR op_ne (pe_callB (call_repr hr) (by rfl) T.n_repr (by decide +kernel) (pa_cons (pe_fld (pv 0) (by rfl)) pa_nil)) (pe_callB (call_repr hr) (by rfl) T.n_repr (by decide +kernel) (pa_cons (pe_callTy call_tuple_of (by rfl) T.n_tuple (by decide +kernel) (pa_cons (pe_callB (cr_sortedT K) (by rfl) T.n_sorted (by decide +kernel) (pa_cons (pv 2) pa_nil)) pa_nil)) pa_nil)) (nomark _)))))
      (pss_one (ps_ret pe_bl))
      pss_nil)
      (pss_cons (ps_set (i := 3) sc__law_made_right.nd rfl (Or.inl rfl) (c_call (ok__law_text T) (hr.mono (by decide)) T.g__law_text T.k__law_text takes0 (pa_cons (pv 1) (pa_cons (pe_callB (cr_sortedT K) (by rfl) T.n_sorted (by decide +kernel) (pa_cons (pv 2) pa_nil)) pa_nil))))
      (pss_one (ps_ret (pe_and (pe_cmpR op_eq (pe_callTy (call_strO T.m_Going_str (ok_Going_str T) (hr.mono (by decide))) (by rfl) T.n_str (by decide +kernel) (pa_cons (pv 0) pa_nil)) (pv 3) (nomark _)) (pe_one (pe_cmpR op_eq (pe_callB (call_reprO T.m_Going_repr (ok_Going_repr T) (hr.mono (by decide))) (by rfl) T.n_repr (by decide +kernel) (pa_cons (pv 0) pa_nil)) (pe_op op_add_str (pe_op op_add_str pe_str (pe_callB call_repr_str (by rfl) T.n_repr (by decide +kernel) (pa_cons (pv 3) pa_nil))) pe_str) (nomark _))))))))), ?_⟩
    obtain ⟨dx, kp, ha, hk, nw, lw2⟩ := id hG
    refine ⟨_, rfl, _, _, _, _, _, rfl, ha, T.c_Going, T.a_Going_moment, rfl, _, _, _, _, _, rfl, .ty _, .base (.int _), (kit_ty (r := false) (by decide +kernel)), _, rfl, _, rfl, _, _, _, _, _, rfl, ha, T.c_Going, T.a_Going_moment, rfl, _, _, _, _, _, rfl, .ty _, .base (.int _), (kit_ty (r := true) (by decide +kernel)), _, rfl, _, rfl, _, _, _, _, _, rfl, ha, T.c_Going, T.a_Going_moment, rfl, _, rfl, rfl, _, rfl, ?_⟩
    try dsimp only [tNil]
    rw [decide_eq_true rfl]
    refine iteF ?_
    refine ⟨_, rfl, _, _, _, _, _, rfl, ha, T.c_Going, T.a_Going_notes, rfl, _, _, _, _, _, rfl, .ty _, .base (.tup hk), (kit_ty (r := true) (by decide +kernel)), _, rfl, _, rfl, _, _, _, _, _, rfl, ha, T.c_Going, T.a_Going_notes, rfl, ?_⟩
    refine rr_strT nw (by omega) hk ?_
    refine ⟨_, rfl, t, ws, rfl, .inl (sq_lst ht), fun s ns => ?_⟩
    have Xs := ex_new (o := HO.lst ((srtS ws).map V.str)) ns
    have hs : upd H s (HO.lst ((srtS ws).map V.str)) s = some (HO.lst ((srtS ws).map V.str)) := upd_same
    generalize upd H s (HO.lst ((srtS ws).map V.str)) = H1 at Xs hs ⊢
    refine ⟨s, _, rfl, .inl ⟨sq_lst hs, fun u nu => ?_⟩⟩
    have Xu := Xs.trans (ex_new (o := HO.tup ((srtS ws).map V.str)) nu)
    have hu : upd H1 u (HO.tup ((srtS ws).map V.str)) u = some (HO.tup ((srtS ws).map V.str)) := upd_same
    generalize upd H1 u (HO.tup ((srtS ws).map V.str)) = H2 at Xu hu ⊢
    refine rr_strT nw (by omega) hu ⟨rfl, _, rfl, iteNS rfl ?_⟩
    refine ⟨_, rfl, _, rfl, t, ws, rfl, .inl (sq_lst (Xu _ _ ht)), fun s2 ns2 => ?_⟩
    have X3 := Xu.trans (ex_new (o := HO.lst ((srtS ws).map V.str)) ns2)
    have hs2 : upd H2 s2 (HO.lst ((srtS ws).map V.str)) s2 = some (HO.lst ((srtS ws).map V.str)) := upd_same
    generalize upd H2 s2 (HO.lst ((srtS ws).map V.str)) = H3 at X3 hs2 ⊢
    have hn255 : n < 10 ^ 255 := Nat.lt_of_lt_of_le hn (Nat.pow_le_pow_right (by decide) (by decide))
    have rl := goL_len nw hn255
    have ok := goL_ok (n := n) nw
    have hl := repr_plain_len ok
    refine ⟨n, s2, srtS ws, rfl, Nat.lt_of_lt_of_le hn (Nat.pow_le_pow_right (by decide) (by decide)), hs2, nw, lw2, fun H4 X4 => ?_⟩
    have X04 := X3.trans X4
    have hG4 := hG.mono X04
    refine ⟨_, rfl, a, dx, _, rfl, X04 _ _ ha, a, n, _, rfl, hG4, hn255, fun H5 X5 => ⟨trivial, ?_⟩⟩
    have X05 := X04.trans X5
    refine ⟨_, rfl, rfl, _, rfl, ?_⟩
    try dsimp only [tNil]
    rw [decide_eq_true (show V.str (SX.S (goL n (srtS ws))) = V.str (SX.S (goL n (srtS ws))) from rfl)]
    refine iteT ⟨_, rfl, a, dx, _, rfl, X05 _ _ ha, a, n, _, rfl, hG.mono X05, hn255, fun H6 X6 => ⟨trivial, ?_⟩⟩
    rw [show Str.ofString "Going(" = SX.S [71, 111, 105, 110, 103, 40] from rfl]
    refine ⟨_, rfl, _, rfl, sz_big (by omega), ?_⟩
    rw [repr_plain ok]
    refine ⟨_, _, rfl, rfl, sz_big (by rw [SX.S_len, SX.S_len]; simp only [List.length_append, List.length_cons, List.length_nil]; omega), ?_⟩
    rw [SX.S_cat, show Str.ofString ")" = SX.S [41] from rfl]
    refine ⟨_, _, rfl, rfl, sz_big (by rw [SX.S_len, SX.S_len]; simp only [List.length_append, List.length_cons, List.length_nil]; omega), ?_⟩
    rw [SX.S_cat]
    have e : [71, 111, 105, 110, 103, 40] ++ (39 :: goL n (srtS ws) ++ [39]) ++ [41] = goR (goL n (srtS ws)) := by
      unfold goR
      simp
    rw [e]
    refine ⟨rfl, ?_⟩
    rw [decide_eq_true (show V.str (SX.S (goR (goL n (srtS ws)))) = V.str (SX.S (goR (goL n (srtS ws)))) from rfl)]
    exact q _ (X05.trans X6)
theorem ok__law_made_right {P : Program} {w : World} {K : PySem.W.Frag} {mg : Str → Option Value} {base : Heap} (T : Env K mg) : Fc P w K mg base 11 (He.ga K "_law_made_right") [] (sp__law_made_right K ) := by
  obtain ⟨fd, D, F⟩ := fb__law_made_right T
  exact F.all (D.bindsN fun _ _ _ _ _ _ us hl => match us, hl with | [_, _, _], _ => rfl)
end
section
/-- == by the own one -/
def EqG (K : PySem.W.Frag) : R2 := rOr (rEqL K (He.ga K "Going") (sp_Going_eq K)) (rEqR K (He.ga K "Going") (sp_Going_eq K))
/-- what is not equal to a going of a moment and notes -/
def UnG (K : PySem.W.Frag) (H : Hp) (n : Nat) (ws : List Str) (v : V) : Prop := (∃ b m us, v = .ref b ∧ GoAt K H b m us ∧ ¬ (n = m ∧ ws = us)) ∨
  (∃ t, TyX K H v t ∧ PySem.W.kitOne K t (.ref (GoingC K)) = some false ∧ Dec K H v ∧ ∀ b, v = .ref b → ∃ o, H b = some o ∧ ∀ dx fs, o ≠ .ins (GoingC K) dx fs)
theorem sql_ex {K : PySem.W.Frag} {H H' : Hp} {a : Addr} {xs : List V} (e : Ex H H') (h : SqL K H a xs) : SqL K H' a xs := by
  rcases h with (h | ⟨o, h⟩) | h
  · exact .inl (.inl (e _ _ h))
  · exact .inl (.inr ⟨o, e _ _ h⟩)
  · exact .inr h
theorem dec_ex {K : PySem.W.Frag} {H H' : Hp} {v : V} (e : Ex H H') (h : Dec K H v) : Dec K H' v := by
  cases h with
  | non => exact .non
  | bl b => exact .bl b
  | int i => exact .int i
  | str z => exact .str z
  | lst h => exact .lst (sql_ex e h)
  | tup h => exact .tup (ex_sqt e h)
  | dK h => exact .dK (e _ _ h)
theorem UnG.mono {K : PySem.W.Frag} {H H' : Hp} {n : Nat} {ws : List Str} {v : V} (e : Ex H H') (u : UnG K H n ws v) : UnG K H' n ws v := by
  rcases u with ⟨b, m, us, rfl, h, ne⟩ | ⟨t, ty, kt, d, h⟩
  · exact .inl ⟨b, m, us, rfl, h.mono e, ne⟩
  · exact .inr ⟨t, tyX_mono e ty, kt, dec_ex e d, fun b z => by obtain ⟨o, ho, no⟩ := h b z; exact ⟨o, e _ _ ho, no⟩⟩
theorem str_inj : ∀ {a b : List Str}, a.map V.str = b.map V.str → a = b
  | [], [], _ => rfl
  | [], _ :: _, h => nomatch h
  | _ :: _, [], h => nomatch h
  | x :: a, y :: b, h => by
    rw [List.map_cons, List.map_cons] at h
    injection h with h1 h2
    injection h1 with h1
    rw [str_inj h2, h1]
theorem UnG.ne {K : PySem.W.Frag} {H : Hp} {n : Nat} {ws : List Str} {v : V} {a : Addr} (ha : GoAt K H a n ws) (u : UnG K H n ws v) : v ≠ .ref a := by
  rintro rfl
  obtain ⟨dx, kp, h, hk, _⟩ := id ha
  rcases u with ⟨b, m, us, e, ⟨dy, kq, g, gk, _⟩, ne⟩ | ⟨t, ty, kt, _, h3⟩
  · cases e
    rw [h] at g
    unfold goF at g
    simp only [Option.some.injEq, HO.ins.injEq, List.cons.injEq, Prod.mk.injEq, V.ref.injEq, V.int.injEq, true_and, and_true] at g
    obtain ⟨_, e1, rfl⟩ := g
    rw [hk] at gk
    injection gk with gk
    injection gk with gk
    exact ne ⟨by omega, str_inj gk⟩
  · obtain ⟨o, ho, no⟩ := h3 a rfl
    rw [h] at ho
    cases ho
    exact no _ _ rfl
theorem go_eqL {K : PySem.W.Frag} {H : Hp} {n m : Nat} {ws us : List Str} {a b : Addr} {Q : VK} (cG : ∀ {b : Addr} {m us}, GoAt K H b m us → TyX K H (.ref b) (.ref (GoingC K))) (ha : GoAt K H a n ws) (hb : GoAt K H b m us) (q : Q (.bl (decide (n = m ∧ ws = us))) H) : rEqL K (He.ga K "Going") (sp_Going_eq K) (.ref a) (.ref b) H Q := by
  obtain ⟨dx, kp, h, _⟩ := id ha
  exact ⟨a, _, _, _, rfl, h, cG hb, .inl rfl, a, _, n, ws, rfl, ha, .inl ⟨b, m, us, rfl, hb, q⟩⟩
theorem ung_left {K : PySem.W.Frag} {H : Hp} {n : Nat} {ws : List Str} {v : V} {a : Addr} {Q : VK} (cG : ∀ {b : Addr} {m us}, GoAt K H b m us → TyX K H (.ref b) (.ref (GoingC K))) (ha : GoAt K H a n ws) (u : UnG K H n ws v) (q : Q (.bl false) H) : rEqL K (He.ga K "Going") (sp_Going_eq K) (.ref a) v H Q := by
  rcases u with ⟨b, m, us, rfl, hb, ne⟩ | ⟨t, ty, kt, h2, _⟩
  · exact go_eqL cG ha hb (by rw [decide_eq_false ne]; exact q)
  · obtain ⟨dx, kp, h, _⟩ := id ha
    exact ⟨a, _, _, t, rfl, h, ty, .inr kt, a, _, n, ws, rfl, ha, .inr ⟨t, ty, kt, q⟩⟩
theorem ung_eq {K : PySem.W.Frag} {H : Hp} {n : Nat} {ws : List Str} {v : V} {a : Addr} {Q : VK} (cG : ∀ {b : Addr} {m us}, GoAt K H b m us → TyX K H (.ref b) (.ref (GoingC K))) (ha : GoAt K H a n ws) (u : UnG K H n ws v) (q : Q (.bl false) H) : EqG K v (.ref a) H Q := by
  rcases u with ⟨b, m, us, rfl, hb, ne⟩ | ⟨t, ty, kt, h2, _⟩
  · exact .inl (go_eqL cG hb ha (by rw [decide_eq_false fun z => ne ⟨z.1.symm, z.2.symm⟩]; exact q))
  · obtain ⟨dx, kp, h, _⟩ := id ha
    exact .inr ⟨a, _, _, rfl, h, h2, a, _, n, ws, rfl, ha, .inr ⟨t, ty, kt, q⟩⟩
theorem ung_in {K : PySem.W.Frag} {H : Hp} {n : Nat} {ws : List Str} {p a : Addr} {ys : List V} {Q : Bool → Hp → Prop} (cG : ∀ {b : Addr} {m us}, GoAt K H b m us → TyX K H (.ref b) (.ref (GoingC K))) (ha : GoAt K H a n ws) (hp : H p = some (.lst ys)) (q : Q false H) : ∀ l : List V, (∀ v ∈ l, UnG K H n ws v) → inW (EqG K) K p ys a l H Q
  | [], _ => ⟨sq_lst hp, q⟩
  | v :: l, h => ⟨sq_lst hp, .inr ⟨(h v List.mem_cons_self).ne ha, ung_eq cG ha (h v List.mem_cons_self) ⟨false, rfl, iteF (ung_in cG ha hp q l fun w hw => h w (List.mem_cons_of_mem _ hw))⟩⟩⟩
theorem ung_base {K : PySem.W.Frag} {H : Hp} {n : Nat} {ws : List Str} {v : V} {t : Value} (ty : TyX K H v t) (kt : PySem.W.kitOne K t (.ref (GoingC K)) = some false) (d : Dec K H v) (h : ∀ b, v = .ref b → ∃ o, H b = some o ∧ ∀ dx fs, o ≠ .ins (GoingC K) dx fs) : UnG K H n ws v := .inr ⟨t, ty, kt, d, h⟩
def sp__law_alike_right (K : PySem.W.Frag) : Sp := fun vs H Q _ => ∃ (a b t : Addr) (n m : Nat) (ws us : List Str), vs = [.ref a, .ref b, .int (n : Nat), .ref t] ∧ GoAt K H a n (srtS ws) ∧ GoAt K H b m us ∧ ¬ (n = m ∧ srtS ws = us) ∧ H t = some (.lst (ws.map V.str)) ∧ n < 10 ^ 80 ∧ Nms ws ∧ ws.Nodup ∧ ws.length ≤ 900 ∧ ∀ H', Ex H H' → Q (.bl true) H'
theorem fb__law_alike_right {P : Program} {w : World} {K : PySem.W.Frag} {mg : Str → Option Value} {base : Heap} (T : Env K mg) : ∃ fd, FunD K "_law_alike_right" "_law_alike_right" (defArgs s__law_alike_right) (defBody s__law_alike_right) (defScope s__law_alike_right) [] [] (He.ga K "_law_alike_right") fd ∧ Fb P w K mg base 9 (He.ga K "_law_alike_right") fd ["_law_going", "_law_other", "_law_when", "_law_tags"] (sp__law_alike_right K) := by
  obtain ⟨fd, F⟩ := T.f__law_alike_right
  refine ⟨fd, F, fb_of F sc__law_alike_right (fun vs H Q E h => ?_) (fun cdv A outer s H vs Q E hr h => ?_)⟩
  · obtain ⟨a, b, t, n, m, ws, us, rfl, _⟩ := h
    rfl
  · obtain ⟨a, b, t, n, m, ws, us, rfl, hG, hB, nB, ht, hn, hw, nd, lw, q⟩ := h
    refine ⟨_, (pss_cons (ps_set (i := 4) sc__law_alike_right.nd rfl (Or.inl rfl) (c_make T.mk_Going (ok_Going_init T) (hr.mono (by decide)) T.g_Going takes0 (pa_cons (pv 2) (pa_cons (pe_revL (pv 3)) pa_nil))))
      (pss_cons (ps_if (PW.pt (pw_or (pt_cmpR op_notBl (pe_cmpR (op_eqO (rco_mono (k := 1) (rco_or (rco_LK K T.m_Going_eq (ok_Going_eq T)) (rco_RK K T.nb_Going T.m_Going_eq (ok_Going_eq T))) (by decide)) (hr.mono (by decide))) (pv 0) (pv 4) (nomark _)) pe_bl (nomark _)) (pw_or (pt_cmpR op_notBl (pe_cmpR (op_eqO (rco_mono (k := 1) (rco_or (rco_LK K T.m_Going_eq (ok_Going_eq T)) (rco_RK K T.nb_Going T.m_Going_eq (ok_Going_eq T))) (by decide)) (hr.mono (by decide))) (pv 0) (pv 1) (nomark _)) pe_bl (nomark _)) (pw_or1 (pt_cmpR op_notBl (pe_cmpR (op_eqO (rco_mono (k := 1) (rco_or (rco_LK K T.m_Going_eq (ok_Going_eq T)) (rco_RK K T.nb_Going T.m_Going_eq (ok_Going_eq T))) (by decide)) (hr.mono (by decide))) (pv 4) (pv 0) (nomark _)) pe_bl (nomark _))))))
      (pss_one (ps_ret pe_bl))
      pss_nil)
      (pss_cons (ps_set (i := 5) sc__law_alike_right.nd rfl (Or.inl rfl) (pe_lst (pa_cons pe_non (pa_cons (pv 2) (pa_cons (pe_callTy (call_strO T.m_Going_str (ok_Going_str T) (hr.mono (by decide))) (by rfl) T.n_str (by decide +kernel) (pa_cons (pv 0) pa_nil)) (pa_cons (pe_tup (pa_cons (pv 2) (pa_cons (pe_callTy call_tuple_of (by rfl) T.n_tuple (by decide +kernel) (pa_cons (pe_callB (cr_sortedT K) (by rfl) T.n_sorted (by decide +kernel) (pa_cons (pv 3) pa_nil)) pa_nil)) pa_nil))) (pa_cons (pe_lst pa_nil) (pa_cons (c_make T.mk_Going (ok_Going_init T) (hr.mono (by decide)) T.g_Going takes0 (pa_cons (pe_op op_add (pv 2) pe_int) (pa_cons (pv 3) pa_nil))) pa_nil))))))))
      (Evl.pss_cut (ps_if (pt_cmpR op_notIn_seq pe_str (pv 3) (by rfl))
      (pss_one (ps_expr (pe_bm PySem.F.plainAttrs_list PySem.F.slot_list_append PySem.F.type_list_append mt_append (pv 5) (pa_cons (c_make T.mk_Going (ok_Going_init T) (hr.mono (by decide)) T.g_Going takes0 (pa_cons (pv 2) (pa_cons (pe_op op_cat (pv 3) (pe_lst (pa_cons pe_str pa_nil))) pa_nil))) pa_nil))))
      pss_nil)
      (pss_cons (ps_if (pt_cmpR (op_neD hr.rm.units) (pe_lc (own := [("_law_thing", 6)]) (by rfl) sc__law_alike_right.nd (pi_list (pv 5)) (blkOk_by (own := [("_law_thing", 6)]) (N := ["_law_going", "_law_other", "_law_when", "_law_tags", "_law_like", "_law_things", "_law_thing"]) (sc := defScope s__law_alike_right) (by decide +kernel)) (fun _ _ _ _ _ => (pg_name (i := 6) sc__law_alike_right.nd rfl (Or.inl rfl))) (fun _ _ _ _ _ => (pts_one (pt_cmpR op_notBl (pe_cmpR (op_eqO (rco_mono (k := 1) (rco_or (rco_LK K T.m_Going_eq (ok_Going_eq T)) (rco_RK K T.nb_Going T.m_Going_eq (ok_Going_eq T))) (by decide)) (hr.mono (by decide))) (pv 0) (pv 6) (nomark _)) pe_bl (nomark _)))) (fun _ _ _ _ _ => (pv 6))) (pe_lst pa_nil) (nomark _))
      (pss_one (ps_ret pe_bl))
      pss_nil)
      (pss_one (ps_ret (pe_and (pe_cmpR (op_inOK K (rco_mono (k := 1) (rco_or (rco_LK K T.m_Going_eq (ok_Going_eq T)) (rco_RK K T.nb_Going T.m_Going_eq (ok_Going_eq T))) (by decide)) (hr.mono (by decide))) (pv 0) (pe_lst (pa_cons pe_non (pa_cons pe_int (pa_cons (pv 4) pa_nil)))) (by rfl)) (pe_one (pe_cmpR (op_notInO K (rco_mono (k := 1) (rco_or (rco_LK K T.m_Going_eq (ok_Going_eq T)) (rco_RK K T.nb_Going T.m_Going_eq (ok_Going_eq T))) (by decide)) (hr.mono (by decide))) (pv 0) (pv 5) (by rfl))))))))))), ?_⟩
    obtain ⟨dx, kp, ha, hk, nw, lw2⟩ := id hG
    refine ⟨_, rfl, _, rfl, _, _, rfl, (sq_lst ht), ?_⟩
    intro a1 na1
    have Xa1 := ex_new (o := HO.lst (List.reverse (List.map V.str ws))) na1
    have ha1 : upd H a1 (HO.lst (List.reverse (List.map V.str ws))) a1 = some (HO.lst (List.reverse (List.map V.str ws))) := upd_same
    generalize upd H a1 (HO.lst (List.reverse (List.map V.str ws))) = Ga1 at Xa1 ha1 ⊢
    try dsimp only [tNil]
    intro x dx3 nx nd3 ne3
    refine ⟨rfl, ?_⟩
    show sp_Going_init K [.ref x, .int (n : Nat), .ref a1] _ _ _
    have er : (ws.map V.str).reverse = ws.reverse.map V.str := by rw [List.map_reverse]
    rw [er] at ha1
    have nwr : Nms ws.reverse := nms_perm (List.reverse_perm ws) hw
    have esr : srtS ws.reverse = srtS ws := srtS_congr (List.reverse_perm ws)
    have hN : NtX K Ga1 (.ref a1) (some (srtS ws)) := esr ▸ nt_names (.inl ha1) nwr ((List.reverse_perm ws).nodup_iff.mpr nd) (by rw [List.length_reverse]; omega)
    refine go_new nx nd3 ne3 hN fun H2 X2 hx => ⟨rfl, ?_⟩
    have X02 := Xa1.trans X2
    have hG2 := hG.mono X02
    have hB2 := hB.mono X02
    have cG : ∀ {G : Hp} {b : Addr} {m us}, GoAt K G b m us → TyX K G (.ref b) (.ref (GoingC K)) := fun hb => by
      obtain ⟨dy, kq, g, _⟩ := hb
      exact ty_ins T.i_Going T.c_Going g
    refine ⟨_, rfl, _, rfl, .inl (go_eqL cG hG2 hx ?_)⟩
    rw [decide_eq_true (And.intro rfl rfl)]
    refine ⟨_, _, rfl, rfl, _, rfl, _, rfl, _, rfl, ?_⟩
    try dsimp only [tNil]
    refine .inl (go_eqL cG hG2 hB2 ?_)
    rw [decide_eq_false nB]
    refine ⟨_, _, rfl, rfl, _, rfl, _, rfl, _, rfl, ?_⟩
    refine .inl (go_eqL cG hx hG2 ?_)
    rw [decide_eq_true (And.intro rfl rfl)]
    refine ⟨_, _, rfl, rfl, _, rfl, _, rfl, _, rfl, _, _, _, rfl, (X02 _ _ ha), _, _, _, rfl, hG2, (by omega), ?_⟩
    intro H3 X3
    refine ⟨trivial, ?_⟩
    have X03 := X02.trans X3
    refine ⟨_, rfl, _, rfl, _, _, rfl, (.inl (sq_lst (X03 _ _ ht))), ?_⟩
    intro a2 na2
    have Xa2 := ex_new (o := HO.lst (List.map V.str (srtS ws))) na2
    have ha2 : upd H3 a2 (HO.lst (List.map V.str (srtS ws))) a2 = some (HO.lst (List.map V.str (srtS ws))) := upd_same
    generalize upd H3 a2 (HO.lst (List.map V.str (srtS ws))) = Ga2 at Xa2 ha2 ⊢
    refine ⟨a2, _, rfl, .inl ⟨sq_lst ha2, fun a3 na3 => ?_⟩⟩
    have Xa3 := ex_new (o := HO.tup (List.map V.str (srtS ws))) na3
    have ha3 : upd Ga2 a3 (HO.tup (List.map V.str (srtS ws))) a3 = some (HO.tup (List.map V.str (srtS ws))) := upd_same
    generalize upd Ga2 a3 (HO.tup (List.map V.str (srtS ws))) = Ga3 at Xa3 ha3 ⊢
    refine ⟨(by show 2 ≤ sizeLine; decide), ?_⟩
    intro a4 na4
    have Xa4 := ex_new (o := HO.tup [V.int (↑n : Int), V.ref a3]) na4
    have ha4 : upd Ga3 a4 (HO.tup [V.int (↑n : Int), V.ref a3]) a4 = some (HO.tup [V.int (↑n : Int), V.ref a3]) := upd_same
    generalize upd Ga3 a4 (HO.tup [V.int (↑n : Int), V.ref a3]) = Ga4 at Xa4 ha4 ⊢
    refine ⟨(by decide), ?_⟩
    intro a5 na5
    have Xa5 := ex_new (o := HO.lst []) na5
    have ha5 : upd Ga4 a5 (HO.lst []) a5 = some (HO.lst []) := upd_same
    generalize upd Ga4 a5 (HO.lst []) = Ga5 at Xa5 ha5 ⊢
    refine ⟨_, rfl, _, _, rfl, rfl, _, rfl, ?_⟩
    try dsimp only [tNil]
    rw [show ((n : Nat) : Int) + 1 = ((n + 1 : Nat) : Int) by omega]
    have X05 := X03.trans (((Xa2.trans Xa3).trans Xa4).trans Xa5)
    intro z dz nz ndz nez
    refine ⟨rfl, ?_⟩
    show sp_Going_init K [.ref z, .int ((n + 1 : Nat) : Int), .ref t] _ _ _
    refine go_new nz ndz nez (nt_names (.inl (X05 _ _ ht)) hw nd (by omega)) fun H6 X6 hz => ⟨rfl, by show 6 ≤ sizeLine; decide, fun L nL => ?_⟩
    have X06 := X05.trans X6
    have XL := ex_new (o := HO.lst [V.non, V.int (n : Nat), V.str (SX.S (goL n (srtS ws))), V.ref a4, V.ref a5, V.ref z]) nL
    have hL : upd H6 L (HO.lst [V.non, V.int (n : Nat), V.str (SX.S (goL n (srtS ws))), V.ref a4, V.ref a5, V.ref z]) L = some (HO.lst [V.non, V.int (n : Nat), V.str (SX.S (goL n (srtS ws))), V.ref a4, V.ref a5, V.ref z]) := upd_same
    generalize upd H6 L (HO.lst [V.non, V.int (n : Nat), V.str (SX.S (goL n (srtS ws))), V.ref a4, V.ref a5, V.ref z]) = H7 at XL hL ⊢
    have h4 := X6 _ _ (Xa5 _ _ ha4)
    have h5 := X6 _ _ ha5
    have hx6 := hx.mono ((X3.trans (((Xa2.trans Xa3).trans Xa4).trans Xa5)).trans X6)
    have hG6 := hG.mono X06
    have un : ∀ v ∈ [V.non, V.int (n : Nat), V.str (SX.S (goL n (srtS ws))), V.ref a4, V.ref a5, V.ref z], UnG K H6 n (srtS ws) v := fun v hv => by
      simp only [List.mem_cons, List.not_mem_nil, or_false] at hv
      rcases hv with rfl | rfl | rfl | rfl | rfl | rfl
      · exact ung_base (.base .non) T.kit_NoneType_Going .non nofun
      · exact ung_base (.base (.int _)) T.kit_int_Going (.int _) nofun
      · exact ung_base (.base (.str _)) T.kit_str_Going (.str _) nofun
      · exact ung_base (.base (.tup h4)) T.kit_tuple_Going (.tup (sq_tup h4)) (fun b z => by cases z; exact ⟨_, h4, nofun⟩)
      · exact ung_base (.base (.lst h5)) T.kit_list_Going (.lst (sq_lst h5)) (fun b z => by cases z; exact ⟨_, h5, nofun⟩)
      · exact .inl ⟨z, n + 1, _, rfl, hz, fun w => by omega⟩
    refine ⟨fun σ G => ∃ vs, Ex H6 G ∧ G L = some (.lst vs) ∧ vs.length ≤ 7 ∧ (∀ v ∈ vs, UnG K G n (srtS ws) v) ∧ σ = [some (.ref a), some (.ref b), some (.int (n : Nat)), some (.ref t), some (.ref x), some (.ref L), none], ?_, ?_⟩
    · have ht7 := XL _ _ (X06 _ _ ht)
      refine ⟨_, rfl, _, _, rfl, (.inl (sq_lst ht7)), rfl, flat_strs _, _, rfl, ?_⟩
      rw [if_pos rfl, inV_str]
      by_cases c : Str.ofString "zzzzzzzz" ∈ ws
      · rw [decide_eq_true c]
        exact iteF ⟨_, XL, hL, by show 6 ≤ 7; decide, fun v hv => (un v hv).mono XL, rfl⟩
      · rw [decide_eq_false c]
        refine iteT ?_
        refine ⟨_, rfl, (.inl ⟨rfl, ⟨_, (sq_lst hL)⟩⟩), _, rfl, _, rfl, (by decide), ?_⟩
        intro a6 na6
        have Xa6 := ex_new (o := HO.lst [V.str (Str.ofString "zzzzzzzz")]) na6
        have ha6 : upd H7 a6 (HO.lst [V.str (Str.ofString "zzzzzzzz")]) a6 = some (HO.lst [V.str (Str.ofString "zzzzzzzz")]) := upd_same
        generalize upd H7 a6 (HO.lst [V.str (Str.ofString "zzzzzzzz")]) = Ga6 at Xa6 ha6 ⊢
        refine ⟨_, _, _, _, rfl, rfl, (Xa6 _ _ ht7), ha6, ?_⟩
        have zz : nmN (Str.ofString "zzzzzzzz").cps.toList = true := by decide
        have hws2 : Nms (ws ++ [Str.ofString "zzzzzzzz"]) := fun y hy => (List.mem_append.mp hy).elim (hw y) fun hy => by rw [List.mem_singleton.mp hy]; exact zz
        have nd2 : (ws ++ [Str.ofString "zzzzzzzz"]).Nodup := List.nodup_append.mpr ⟨nd, List.pairwise_singleton _ _, fun x hx y hy e => c (by rw [← List.mem_singleton.mp hy, ← e]; exact hx)⟩
        have em : List.map V.str ws ++ [V.str (Str.ofString "zzzzzzzz")] = (ws ++ [Str.ofString "zzzzzzzz"]).map V.str := by rw [List.map_append]; rfl
        refine ⟨sz_big (by rw [List.length_map]; show _ + 1 ≤ _; omega), fun c1 nc1 => ?_⟩
        rw [em]
        have Xc := ex_new (o := HO.lst ((ws ++ [Str.ofString "zzzzzzzz"]).map V.str)) nc1
        have hc : upd Ga6 c1 (HO.lst ((ws ++ [Str.ofString "zzzzzzzz"]).map V.str)) c1 = some (HO.lst ((ws ++ [Str.ofString "zzzzzzzz"]).map V.str)) := upd_same
        generalize upd Ga6 c1 (HO.lst ((ws ++ [Str.ofString "zzzzzzzz"]).map V.str)) = H8 at Xc hc ⊢
        intro z2 dz2 nz2 ndz2 nez2
        refine ⟨rfl, ?_⟩
        show sp_Going_init K [.ref z2, .int (n : Nat), .ref c1] _ _ _
        refine go_new nz2 ndz2 nez2 (nt_names (.inl hc) hws2 nd2 (by rw [List.length_append, List.length_singleton]; omega)) fun H9 X9 hz2 => ⟨rfl, ?_⟩
        have X79 := (Xa6.trans Xc).trans X9
        have hL9 := X79 _ _ hL
        refine ⟨L, _, _, rfl, rfl, hL9, by show 6 < sizeLine; exact sz_lt (by decide), ?_⟩
        have X6f : Ex H6 (upd H9 L (HO.lst ([V.non, V.int (n : Nat), V.str (SX.S (goL n (srtS ws))), V.ref a4, V.ref a5, V.ref z] ++ [V.ref z2]))) := ex_mut (XL.trans X79) nL
        refine ⟨_, X6f, upd_same, by show 7 ≤ 7; decide, fun v hv => ?_, rfl⟩
        rcases List.mem_append.mp hv with hv | hv
        · exact (un v hv).mono X6f
        · cases List.mem_singleton.mp hv
          refine .inl ⟨z2, n, srtS (ws ++ [Str.ofString "zzzzzzzz"]), rfl, ?_, fun w => ?_⟩
          · obtain ⟨dy, kq, g1, g2, g3⟩ := hz2
            exact ⟨dy, kq, by rw [upd_ne (ne_of g1 hL9 (fun z => nomatch z))]; exact g1, by rw [upd_ne (ne_of g2 hL9 (fun z => nomatch z))]; exact g2, g3⟩
          · have l1 := (srtS_perm ws).length_eq
            have l2 := (srtS_perm (ws ++ [Str.ofString "zzzzzzzz"])).length_eq
            rw [← w.2, l1, List.length_append, List.length_singleton] at l2
            omega
    · rintro σ G ⟨vs, XG, hvs, lv, uv, rfl⟩
      have hGG := hG6.mono XG
      have hxG := hx6.mono XG
      refine ⟨_, rfl, _, rfl, ⟨_, (sq_lst hvs)⟩, fun D nD => ?_⟩
      refine lc_on vs (fun v : V => v) L2.walk_list (fun _ => none) (fun G' => Ex G G') (fun G' z e => ex_mut e nD) (.refl _) (by omega) (fun G' e => sq_lst (by rw [List.map_id']; exact e _ _ hvs)) (fun j v G' acc N_ hv XG' hB la k => ?_) fun G2 XG2 dG2 => ?_
      · refine ⟨rfl, _, rfl, _, rfl, ?_⟩
        try dsimp only [tNil]
        refine .inl (ung_left cG (hGG.mono XG') ((uv v (List.mem_of_getElem? hv)).mono XG') ?_)
        exact ⟨_, _, rfl, rfl, _, rfl, k G' XG' hB⟩
      · have e0 : vs.filterMap (fun _ => (none : Option V)) = [] := by simp
        rw [e0] at dG2
        refine ⟨(by decide), ?_⟩
        intro a6 na6
        have Xa6 := ex_new (o := HO.lst []) na6
        have ha6 : upd G2 a6 (HO.lst []) a6 = some (HO.lst []) := upd_same
        generalize upd G2 a6 (HO.lst []) = Ga6 at Xa6 ha6 ⊢
        refine ⟨_, _, .lst (sq_lst (Xa6 _ _ dG2)) .nil, .lst (sq_lst ha6) .nil, rfl, rfl, _, rfl, iteF ?_⟩
        refine ⟨_, rfl, _, rfl, (by show 3 ≤ sizeLine; decide), ?_⟩
        intro a7 na7
        have Xa7 := ex_new (o := HO.lst [V.non, V.int 7, V.ref x]) na7
        have ha7 : upd Ga6 a7 (HO.lst [V.non, V.int 7, V.ref x]) a7 = some (HO.lst [V.non, V.int 7, V.ref x]) := upd_same
        generalize upd Ga6 a7 (HO.lst [V.non, V.int 7, V.ref x]) = Ga7 at Xa7 ha7 ⊢
        have XG7 := (XG2.trans Xa6).trans Xa7
        have hG7 := hGG.mono XG7
        have hx7 := hxG.mono XG7
        have u0 : UnG K Ga7 n (srtS ws) .non := ung_base (.base .non) T.kit_NoneType_Going .non nofun
        have u1 : UnG K Ga7 n (srtS ws) (.int 7) := ung_base (.base (.int _)) T.kit_int_Going (.int _) nofun
        have xa : V.ref x ≠ V.ref a := fun w => by
          injection w with w
          exact ne_of_none (Xa1 _ _ ha) nx w.symm
        refine ⟨a, a7, [V.non, V.int 7, V.ref x], rfl, rfl, sq_lst ha7, .inr ⟨u0.ne hG7, ung_eq cG hG7 u0 ⟨false, rfl, iteF ⟨sq_lst ha7, .inr ⟨u1.ne hG7, ung_eq cG hG7 u1 ⟨false, rfl, iteF ⟨sq_lst ha7, .inr ⟨xa, .inl (go_eqL cG hx7 hG7 ?_)⟩⟩⟩⟩⟩⟩⟩⟩
        rw [decide_eq_true (And.intro rfl rfl)]
        refine ⟨true, rfl, iteT ⟨true, rfl, iteT ⟨_, rfl, _, rfl, a, L, vs, rfl, rfl, ung_in cG hG7 (XG7 _ _ hvs) ?_ vs fun v hv => (uv v hv).mono XG7⟩⟩⟩
        exact q Ga7 ((X06.trans XG).trans XG7)
theorem ok__law_alike_right {P : Program} {w : World} {K : PySem.W.Frag} {mg : Str → Option Value} {base : Heap} (T : Env K mg) : Fc P w K mg base 9 (He.ga K "_law_alike_right") [] (sp__law_alike_right K ) := by
  obtain ⟨fd, D, F⟩ := fb__law_alike_right T
  exact F.all (D.bindsN fun _ _ _ _ _ _ us hl => match us, hl with | [_, _, _, _], _ => rfl)
end
section
def sp__law_refusals_right (K : PySem.W.Frag) : Sp := fun vs H Q _ => ∃ (t : Addr) (n : Nat) (ws : List Str), vs = [.int (n : Nat), .ref t] ∧ H t = some (.lst (ws.map V.str)) ∧ n < 10 ^ 80 ∧ Nms ws ∧ ws.length ≤ 900 ∧ ∀ H', Ex H H' → Q (.bl true) H'
theorem fb__law_refusals_right {P : Program} {w : World} {K : PySem.W.Frag} {mg : Str → Option Value} {base : Heap} (T : Env K mg) : ∃ fd, FunD K "_law_refusals_right" "_law_refusals_right" (defArgs s__law_refusals_right) (defBody s__law_refusals_right) (defScope s__law_refusals_right) [] [] (He.ga K "_law_refusals_right") fd ∧ Fb P w K mg base 7 (He.ga K "_law_refusals_right") fd ["_law_when", "_law_tags"] (sp__law_refusals_right K) := by
  obtain ⟨fd, F⟩ := T.f__law_refusals_right
  refine ⟨fd, F, fb_of F sc__law_refusals_right (fun vs H Q E h => ?_) (fun cdv A outer s H vs Q E hr h => ?_)⟩
  · obtain ⟨t, n, ws, rfl, _⟩ := h
    rfl
  · obtain ⟨t, n, ws, rfl, ht, hn, hw, lw, q⟩ := h
    refine ⟨_, (pss_cons (ps_set (i := 2) sc__law_refusals_right.nd rfl (Or.inl rfl) (pe_lst (pa_cons pe_str (pa_cons pe_str (pa_cons pe_int (pa_cons pe_bl (pa_cons pe_dnewK (pa_cons (pe_lst (pa_cons pe_str pa_nil)) (pa_cons (pe_lst (pa_cons pe_str pa_nil)) (pa_cons (pe_lst (pa_cons pe_str pa_nil)) (pa_cons (pe_lst (pa_cons pe_int pa_nil)) (pa_cons (pe_lst (pa_cons pe_non pa_nil)) (pa_cons (pe_lst (pa_cons (pe_lst pa_nil) pa_nil)) (pa_cons (pe_lst (pa_cons pe_str pa_nil)) (pa_cons (pe_lst (pa_cons pe_str pa_nil)) (pa_cons (pe_op op_cat (pv 1) (pe_lst (pa_cons pe_str (pa_cons pe_str pa_nil)))) pa_nil))))))))))))))))
      (pss_cons (ps_for (passes_of rfl) rfl (pi_list (pv 2)) (pg_name (i := 3) sc__law_refusals_right.nd rfl (Or.inl rfl))
      (pss_one (ps_if (PW.pt (pw_or (pt_cmpR op_ne (c_call (ok__law_refused T) (hr.mono (by decide)) T.g__law_refused T.k__law_refused takes0 (pa_cons (pv 0) (pa_cons (pv 3) pa_nil))) pe_str (nomark _)) (pw_or1 (pt_cmpR op_ne (c_call (ok__law_refused T) (hr.mono (by decide)) T.g__law_refused T.k__law_refused takes0 (pa_cons (pe_un un_neg pe_int) (pa_cons (pv 3) pa_nil))) pe_str (nomark _)))))
      (pss_one (ps_ret pe_bl))
      pss_nil)))
      (pss_cons (ps_for (passes_of rfl) rfl (pi_list (pe_lst (pa_cons (pe_un un_neg pe_int) (pa_cons pe_bl (pa_cons pe_bl (pa_cons pe_non (pa_cons pe_str (pa_cons pe_str (pa_cons (pe_tup (pa_cons pe_int pa_nil)) (pa_cons (pe_lst pa_nil) (pa_cons pe_dnewK (pa_cons (pe_op op_sub (pe_un un_neg (pv 0)) pe_int) (pa_cons (pe_lst (pa_cons (pv 0) pa_nil)) pa_nil))))))))))))) (pg_name (i := 3) sc__law_refusals_right.nd rfl (Or.inl rfl))
      (pss_one (ps_if (PW.pt (pw_or (pt_cmpR op_ne (c_call (ok__law_refused T) (hr.mono (by decide)) T.g__law_refused T.k__law_refused takes0 (pa_cons (pv 3) (pa_cons (pv 1) pa_nil))) pe_str (nomark _)) (pw_or1 (pt_cmpR op_ne (c_call (ok__law_refused T) (hr.mono (by decide)) T.g__law_refused T.k__law_refused takes0 (pa_cons (pv 3) (pa_cons pe_non pa_nil))) pe_str (nomark _)))))
      (pss_one (ps_ret pe_bl))
      pss_nil)))
      (pss_one (ps_ret pe_bl))))), ?_⟩
    intro d nd
    have Xd := ex_new (o := HO.dK []) nd
    have hd : upd H d (HO.dK []) d = some (HO.dK []) := upd_same
    generalize upd H d (HO.dK []) = G0 at Xd hd ⊢
    have ht0 := Xd _ _ ht
    refine ⟨(by decide), ?_⟩
    intro a1 na1
    have Xa1 := ex_new (o := HO.lst [V.str (Str.ofString "A")]) na1
    have ha1 : upd G0 a1 (HO.lst [V.str (Str.ofString "A")]) a1 = some (HO.lst [V.str (Str.ofString "A")]) := upd_same
    generalize upd G0 a1 (HO.lst [V.str (Str.ofString "A")]) = Ga1 at Xa1 ha1 ⊢
    refine ⟨(by decide), ?_⟩
    intro a2 na2
    have Xa2 := ex_new (o := HO.lst [V.str (Str.ofString "")]) na2
    have ha2 : upd Ga1 a2 (HO.lst [V.str (Str.ofString "")]) a2 = some (HO.lst [V.str (Str.ofString "")]) := upd_same
    generalize upd Ga1 a2 (HO.lst [V.str (Str.ofString "")]) = Ga2 at Xa2 ha2 ⊢
    refine ⟨(by decide), ?_⟩
    intro a3 na3
    have Xa3 := ex_new (o := HO.lst [V.str (Str.ofString "ninelette")]) na3
    have ha3 : upd Ga2 a3 (HO.lst [V.str (Str.ofString "ninelette")]) a3 = some (HO.lst [V.str (Str.ofString "ninelette")]) := upd_same
    generalize upd Ga2 a3 (HO.lst [V.str (Str.ofString "ninelette")]) = Ga3 at Xa3 ha3 ⊢
    refine ⟨(by decide), ?_⟩
    intro a4 na4
    have Xa4 := ex_new (o := HO.lst [V.int 1]) na4
    have ha4 : upd Ga3 a4 (HO.lst [V.int 1]) a4 = some (HO.lst [V.int 1]) := upd_same
    generalize upd Ga3 a4 (HO.lst [V.int 1]) = Ga4 at Xa4 ha4 ⊢
    refine ⟨(by decide), ?_⟩
    intro a5 na5
    have Xa5 := ex_new (o := HO.lst [V.non]) na5
    have ha5 : upd Ga4 a5 (HO.lst [V.non]) a5 = some (HO.lst [V.non]) := upd_same
    generalize upd Ga4 a5 (HO.lst [V.non]) = Ga5 at Xa5 ha5 ⊢
    refine ⟨(by decide), ?_⟩
    intro a6 na6
    have Xa6 := ex_new (o := HO.lst []) na6
    have ha6 : upd Ga5 a6 (HO.lst []) a6 = some (HO.lst []) := upd_same
    generalize upd Ga5 a6 (HO.lst []) = Ga6 at Xa6 ha6 ⊢
    refine ⟨(by show 1 ≤ sizeLine; decide), ?_⟩
    intro a7 na7
    have Xa7 := ex_new (o := HO.lst [V.ref a6]) na7
    have ha7 : upd Ga6 a7 (HO.lst [V.ref a6]) a7 = some (HO.lst [V.ref a6]) := upd_same
    generalize upd Ga6 a7 (HO.lst [V.ref a6]) = Ga7 at Xa7 ha7 ⊢
    refine ⟨(by decide), ?_⟩
    intro a8 na8
    have Xa8 := ex_new (o := HO.lst [V.str (Str.ofString "a1")]) na8
    have ha8 : upd Ga7 a8 (HO.lst [V.str (Str.ofString "a1")]) a8 = some (HO.lst [V.str (Str.ofString "a1")]) := upd_same
    generalize upd Ga7 a8 (HO.lst [V.str (Str.ofString "a1")]) = Ga8 at Xa8 ha8 ⊢
    refine ⟨(by decide), ?_⟩
    intro a9 na9
    have Xa9 := ex_new (o := HO.lst [V.str (Str.ofString "a b")]) na9
    have ha9 : upd Ga8 a9 (HO.lst [V.str (Str.ofString "a b")]) a9 = some (HO.lst [V.str (Str.ofString "a b")]) := upd_same
    generalize upd Ga8 a9 (HO.lst [V.str (Str.ofString "a b")]) = Ga9 at Xa9 ha9 ⊢
    refine ⟨_, rfl, (by decide), ?_⟩
    intro a10 na10
    have Xa10 := ex_new (o := HO.lst [V.str (Str.ofString "q"), V.str (Str.ofString "q")]) na10
    have ha10 : upd Ga9 a10 (HO.lst [V.str (Str.ofString "q"), V.str (Str.ofString "q")]) a10 = some (HO.lst [V.str (Str.ofString "q"), V.str (Str.ofString "q")]) := upd_same
    generalize upd Ga9 a10 (HO.lst [V.str (Str.ofString "q"), V.str (Str.ofString "q")]) = Ga10 at Xa10 ha10 ⊢
    refine ⟨_, _, _, _, rfl, rfl, (Xa10 _ _ (Xa9 _ _ (Xa8 _ _ (Xa7 _ _ (Xa6 _ _ (Xa5 _ _ (Xa4 _ _ (Xa3 _ _ (Xa2 _ _ (Xa1 _ _ ht0)))))))))), ha10, ?_⟩
    have em : List.map V.str ws ++ [V.str (Str.ofString "q"), V.str (Str.ofString "q")] = (ws ++ [Str.ofString "q", Str.ofString "q"]).map V.str := by rw [List.map_append]; rfl
    refine ⟨sz_big (by rw [List.length_map]; show _ + 2 ≤ _; omega), fun c nc => ?_⟩
    rw [em]
    have Xc := ex_new (o := HO.lst ((ws ++ [Str.ofString "q", Str.ofString "q"]).map V.str)) nc
    have hc : upd Ga10 c (HO.lst ((ws ++ [Str.ofString "q", Str.ofString "q"]).map V.str)) c = some (HO.lst ((ws ++ [Str.ofString "q", Str.ofString "q"]).map V.str)) := upd_same
    generalize upd Ga10 c (HO.lst ((ws ++ [Str.ofString "q", Str.ofString "q"]).map V.str)) = Gc at Xc hc ⊢
    refine ⟨by show 14 ≤ sizeLine; decide, fun L nL => ?_⟩
    have XL := ex_new (o := HO.lst [V.str (Str.ofString ""), V.str (Str.ofString "ab"), V.int 5, V.bl true, V.ref d, V.ref a1, V.ref a2, V.ref a3, V.ref a4, V.ref a5, V.ref a7, V.ref a8, V.ref a9, V.ref c]) nL
    have hL : upd Gc L (HO.lst [V.str (Str.ofString ""), V.str (Str.ofString "ab"), V.int 5, V.bl true, V.ref d, V.ref a1, V.ref a2, V.ref a3, V.ref a4, V.ref a5, V.ref a7, V.ref a8, V.ref a9, V.ref c]) L = some (HO.lst [V.str (Str.ofString ""), V.str (Str.ofString "ab"), V.int 5, V.bl true, V.ref d, V.ref a1, V.ref a2, V.ref a3, V.ref a4, V.ref a5, V.ref a7, V.ref a8, V.ref a9, V.ref c]) := upd_same
    generalize upd Gc L (HO.lst [V.str (Str.ofString ""), V.str (Str.ofString "ab"), V.int 5, V.bl true, V.ref d, V.ref a1, V.ref a2, V.ref a3, V.ref a4, V.ref a5, V.ref a7, V.ref a8, V.ref a9, V.ref c]) = G1 at XL hL ⊢
    have Y10 := (Xa10.trans Xc).trans XL
    have Y9 := Xa9.trans Y10
    have Y8 := Xa8.trans Y9
    have Y7 := Xa7.trans Y8
    have Y6 := Xa6.trans Y7
    have Y5 := Xa5.trans Y6
    have Y4 := Xa4.trans Y5
    have Y3 := Xa3.trans Y4
    have Y2 := Xa2.trans Y3
    have Y1 := Xa1.trans Y2
    have X1 := Xd.trans Y1
    have nb : ∀ v ∈ [V.str (Str.ofString ""), V.str (Str.ofString "ab"), V.int 5, V.bl true, V.ref d, V.ref a1, V.ref a2, V.ref a3, V.ref a4, V.ref a5, V.ref a7, V.ref a8, V.ref a9, V.ref c], NtX K G1 v none := fun v hv => by
      simp only [List.mem_cons, List.not_mem_nil, or_false] at hv
      rcases hv with rfl | rfl | rfl | rfl | rfl | rfl | rfl | rfl | rfl | rfl | rfl | rfl | rfl | rfl
      · exact nt_no nofun (.base (.str _)) (kit_ty (by decide +kernel)) (kit_ty (by decide +kernel))
      · exact nt_no nofun (.base (.str _)) (kit_ty (by decide +kernel)) (kit_ty (by decide +kernel))
      · exact nt_no nofun (.base (.int _)) (kit_ty (by decide +kernel)) (kit_ty (by decide +kernel))
      · exact nt_no nofun (.base (.bl _)) (kit_ty (by decide +kernel)) (kit_ty (by decide +kernel))
      · exact nt_no nofun (.base (.dK (Y1 _ _ hd))) (kit_ty (by decide +kernel)) (kit_ty (by decide +kernel))
      · exact nt_bad (Y2 _ _ ha1) (by show 1 ≤ 1000; decide) (clS_one (by decide)) (by decide)
      · exact nt_bad (Y3 _ _ ha2) (by show 1 ≤ 1000; decide) (clS_one (by decide)) (by decide)
      · exact nt_bad (Y4 _ _ ha3) (by show 1 ≤ 1000; decide) (clS_one (by decide)) (by decide)
      · exact nt_bad (Y5 _ _ ha4) (by show 1 ≤ 1000; decide) (fun v hv => by rw [List.mem_singleton.mp hv]; exact .inr ⟨nofun, _, .base (.int _), kit_ty (by decide +kernel)⟩) rfl
      · exact nt_bad (Y6 _ _ ha5) (by show 1 ≤ 1000; decide) (fun v hv => by rw [List.mem_singleton.mp hv]; exact .inr ⟨nofun, _, .base .non, kit_ty (by decide +kernel)⟩) rfl
      · exact nt_bad (Y8 _ _ ha7) (by show 1 ≤ 1000; decide) (fun v hv => by rw [List.mem_singleton.mp hv]; exact .inr ⟨nofun, _, .base (.lst (Y7 _ _ ha6)), kit_ty (by decide +kernel)⟩) rfl
      · exact nt_bad (Y9 _ _ ha8) (by show 1 ≤ 1000; decide) (clS_one (by decide)) (by decide)
      · exact nt_bad (Y10 _ _ ha9) (by show 1 ≤ 1000; decide) (clS_one (by decide)) (by decide)
      · refine nt_twice (.inl (XL _ _ hc)) (fun z hz => (List.mem_append.mp hz).elim (hw z) fun hz => ?_) (fun z => ?_) (by rw [List.length_append]; show _ + 2 ≤ _; omega)
        · rcases List.mem_cons.mp hz with rfl | hz
          · decide
          · rw [List.mem_singleton.mp hz]
            decide
        · have z2 := (List.nodup_append.mp z).2.1
          exact absurd z2 (by decide)
    have ht1 := X1 _ _ ht
    refine ⟨_, rfl, L, rfl, ⟨_, sq_lst hL⟩, for_on [V.str (Str.ofString ""), V.str (Str.ofString "ab"), V.int 5, V.bl true, V.ref d, V.ref a1, V.ref a2, V.ref a3, V.ref a4, V.ref a5, V.ref a7, V.ref a8, V.ref a9, V.ref c] (fun v : V => v) L2.walk_list (fun i σ G => Ex G1 G ∧ ∃ v3, σ = [some (.int (n : Nat)), some (.ref t), some (.ref L), v3]) ⟨.refl _, _, rfl⟩ (fun i σ G z => sq_lst (by rw [List.map_id']; exact z.1 _ _ hL)) ?_ ?_⟩
    · rintro i v σ G hv ⟨XG, v3, rfl⟩
      have nv := (nb v (List.mem_of_getElem? hv)).mono XG
      refine ⟨_, rfl, _, rfl, .int (n : Nat), v, false, rfl, cl_int _, ?_, fun _ => nv, fun H2 X2 => ?_⟩
      · show decide (0 ≤ ((n : Nat) : Int)) = !false
        rw [decide_eq_true (by omega)]
        rfl
      refine ⟨rfl, _, rfl, iteF ?_⟩
      refine ⟨_, rfl, _, rfl, .int (-1), v, true, rfl, cl_int _, rfl, nofun, fun H3 X3 => ?_⟩
      refine ⟨rfl, _, rfl, iteF ?_⟩
      exact ⟨(XG.trans X2).trans X3, _, rfl⟩
    · rintro σ G ⟨XG, v3, rfl⟩
      refine ⟨_, rfl, (by decide), ?_⟩
      intro a11 na11
      have Xa11 := ex_new (o := HO.tup [V.int 1]) na11
      have ha11 : upd G a11 (HO.tup [V.int 1]) a11 = some (HO.tup [V.int 1]) := upd_same
      generalize upd G a11 (HO.tup [V.int 1]) = Ga11 at Xa11 ha11 ⊢
      refine ⟨(by decide), ?_⟩
      intro a12 na12
      have Xa12 := ex_new (o := HO.lst []) na12
      have ha12 : upd Ga11 a12 (HO.lst []) a12 = some (HO.lst []) := upd_same
      generalize upd Ga11 a12 (HO.lst []) = Ga12 at Xa12 ha12 ⊢
      try dsimp only [tNil]
      intro d2 nd2
      have Xd2 := ex_new (o := HO.dK []) nd2
      have hd2 : upd Ga12 d2 (HO.dK []) d2 = some (HO.dK []) := upd_same
      generalize upd Ga12 d2 (HO.dK []) = Gd2 at Xd2 hd2 ⊢
      refine ⟨_, rfl, _, rfl, _, _, rfl, rfl, _, rfl, (by show 1 ≤ sizeLine; decide), ?_⟩
      intro a13 na13
      have Xa13 := ex_new (o := HO.lst [V.int (↑n : Int)]) na13
      have ha13 : upd Gd2 a13 (HO.lst [V.int (↑n : Int)]) a13 = some (HO.lst [V.int (↑n : Int)]) := upd_same
      generalize upd Gd2 a13 (HO.lst [V.int (↑n : Int)]) = Ga13 at Xa13 ha13 ⊢
      refine ⟨(by show 11 ≤ sizeLine; decide), ?_⟩
      intro L' nL'
      have XL' := ex_new (o := HO.lst [V.int (-1), V.bl true, V.bl false, V.non, V.str (Str.ofString "7"), V.str (Str.ofString ""), V.ref a11, V.ref a12, V.ref d2, (fun i j : Int => V.int (i - j)) (-(n : Int)) 1, V.ref a13]) nL'
      have hL' : upd Ga13 L' (HO.lst [V.int (-1), V.bl true, V.bl false, V.non, V.str (Str.ofString "7"), V.str (Str.ofString ""), V.ref a11, V.ref a12, V.ref d2, (fun i j : Int => V.int (i - j)) (-(n : Int)) 1, V.ref a13]) L' = some (HO.lst [V.int (-1), V.bl true, V.bl false, V.non, V.str (Str.ofString "7"), V.str (Str.ofString ""), V.ref a11, V.ref a12, V.ref d2, (fun i j : Int => V.int (i - j)) (-(n : Int)) 1, V.ref a13]) := upd_same
      generalize upd Ga13 L' (HO.lst [V.int (-1), V.bl true, V.bl false, V.non, V.str (Str.ofString "7"), V.str (Str.ofString ""), V.ref a11, V.ref a12, V.ref d2, (fun i j : Int => V.int (i - j)) (-(n : Int)) 1, V.ref a13]) = G2 at XL' hL' ⊢
      have hL' : G2 L' = some (HO.lst [V.int (-1), V.bl true, V.bl false, V.non, V.str (Str.ofString "7"), V.str (Str.ofString ""), V.ref a11, V.ref a12, V.ref d2, V.int (-(n : Int) - 1), V.ref a13]) := hL'
      have Z13 := Xa13.trans XL'
      have Zd := Xd2.trans Z13
      have Z12 := Xa12.trans Zd
      have Z11 := Xa11.trans Z12
      have nb2 : ∀ v ∈ [V.int (-1), V.bl true, V.bl false, V.non, V.str (Str.ofString "7"), V.str (Str.ofString ""), V.ref a11, V.ref a12, V.ref d2, V.int (-(n : Int) - 1), V.ref a13], Cl K G2 v ∧ isM v = false := fun v hv => by
        simp only [List.mem_cons, List.not_mem_nil, or_false] at hv
        rcases hv with rfl | rfl | rfl | rfl | rfl | rfl | rfl | rfl | rfl | rfl | rfl
        · exact ⟨cl_int _, rfl⟩
        · exact ⟨cl_bl _, rfl⟩
        · exact ⟨cl_bl _, rfl⟩
        · exact ⟨cl_non, rfl⟩
        · exact ⟨cl_str _, rfl⟩
        · exact ⟨cl_str _, rfl⟩
        · exact ⟨cl_tup (Z12 _ _ ha11), rfl⟩
        · exact ⟨cl_lst (Zd _ _ ha12), rfl⟩
        · exact ⟨cl_dK (Z13 _ _ hd2), rfl⟩
        · exact ⟨cl_int _, decide_eq_false (by omega)⟩
        · exact ⟨cl_lst (XL' _ _ ha13), rfl⟩
      have X2 := XG.trans (Xa11.trans Z12)
      refine ⟨L', rfl, ⟨_, sq_lst hL'⟩, for_on (D := { nx := tRet (tC (V.bl true)) { nx := fun _ H' => Q V.non H', rt := Q }, rt := Q }) [V.int (-1), V.bl true, V.bl false, V.non, V.str (Str.ofString "7"), V.str (Str.ofString ""), V.ref a11, V.ref a12, V.ref d2, V.int (-(n : Int) - 1), V.ref a13] (fun v : V => v) L2.walk_list (fun i σ G => Ex G2 G ∧ ∃ v3, σ = [some (.int (n : Nat)), some (.ref t), some (.ref L), v3]) ⟨.refl _, _, rfl⟩ (fun i σ G z => sq_lst (by rw [List.map_id']; exact z.1 _ _ hL')) ?_ ?_⟩
      · rintro i v σ G' hv ⟨XG', v4, rfl⟩
        obtain ⟨c0, m0⟩ := nb2 v (List.mem_of_getElem? hv)
        refine ⟨_, rfl, _, rfl, v, .ref t, true, rfl, ?_, m0, nofun, fun H3 X3 => ⟨rfl, _, rfl, iteF ?_⟩⟩
        · exact c0.mono XG'
        refine ⟨_, rfl, v, .non, true, rfl, c0.mono (XG'.trans X3), m0, nofun, fun H4 X4 => ⟨rfl, _, rfl, iteF ?_⟩⟩
        exact ⟨(XG'.trans X3).trans X4, _, rfl⟩
      · rintro σ G' ⟨XG', v4, rfl⟩
        exact q _ (X1.trans (X2.trans XG'))
theorem ok__law_refusals_right {P : Program} {w : World} {K : PySem.W.Frag} {mg : Str → Option Value} {base : Heap} (T : Env K mg) : Fc P w K mg base 7 (He.ga K "_law_refusals_right") [] (sp__law_refusals_right K ) := by
  obtain ⟨fd, D, F⟩ := fb__law_refusals_right T
  exact F.all (D.bindsN fun _ _ _ _ _ _ us hl => match us, hl with | [_, _], _ => rfl)
end
section
/-- a drawn going: moment, tuple, list of notes, the notes -/
abbrev RowD := Nat × Addr × Addr × List Str
def RowAt (G : Hp) (M p0 p1 : Addr) (r : RowD) : Prop := G r.2.1 = some (.tup [.int (r.1 : Nat), .ref r.2.2.1]) ∧ G r.2.2.1 = some (.lst (r.2.2.2.map V.str)) ∧ r.1 < 10 ^ 60 ∧ Nms r.2.2.2 ∧ r.2.2.2.Nodup ∧ r.2.2.2.length ≤ 7 ∧
  (r.2.1 ≠ p0 ∧ r.2.1 ≠ p1 ∧ r.2.1 ≠ M) ∧ r.2.2.1 ≠ p0 ∧ r.2.2.1 ≠ p1 ∧ r.2.2.1 ≠ M
theorem RowAt.keep {G G' : Hp} {M p0 p1 : Addr} {r : RowD} (h : RowAt G M p0 p1 r) (k : ∀ b o, b ≠ p0 → b ≠ p1 → b ≠ M → G b = some o → G' b = some o) : RowAt G' M p0 p1 r := by
  obtain ⟨h1, h2, h3, h4, h5, h6, ⟨q0, q1, qM⟩, t0, t1, tM⟩ := h
  exact ⟨k _ _ q0 q1 qM h1, k _ _ t0 t1 tM h2, h3, h4, h5, h6, ⟨q0, q1, qM⟩, t0, t1, tM⟩
theorem RowAt.mono {G G' : Hp} {M p0 p1 : Addr} {r : RowD} (h : RowAt G M p0 p1 r) (e : Ex G G') : RowAt G' M p0 p1 r := h.keep fun _ _ _ _ _ z => e _ _ z
theorem PotN.keep {m : Nat} {G G' : Hp} {p : Addr} (h : PotN m G p) (k : ∀ o, G p = some o → G' p = some o) : PotN m G' p := by
  obtain ⟨x, y, z, e, r⟩ := h
  exact ⟨x, y, z, k _ e, r⟩
theorem PotN.some {m : Nat} {G : Hp} {p b : Addr} (h : PotN m G p) (n : G b = none) : b ≠ p := fun z => by
  obtain ⟨x, y, w, e, r⟩ := h
  rw [z, e] at n
  cases n
theorem GoAt.put {K : PySem.W.Frag} {G : Hp} {a b : Addr} {n : Nat} {ws : List Str} {xs ys : List V} (h : GoAt K G a n ws) (hb : G b = some (.lst xs)) : GoAt K (upd G b (.lst ys)) a n ws := by
  obtain ⟨dx, kp, h1, h2, h3⟩ := h
  exact ⟨dx, kp, by rw [upd_ne (ne_of h1 hb nofun)]; exact h1, by rw [upd_ne (ne_of h2 hb nofun)]; exact h2, h3⟩
def sp_law (K : PySem.W.Frag) : Sp := fun vs H Q _ => ∃ (a : Addr) (ns : List Int), vs = [.ref a] ∧ SqL K H a (ns.map V.int) ∧ ns.length ≤ 63 ∧ ∀ H', Q (.bl true) H'
theorem ok_law {P : Program} {w : World} {K : PySem.W.Frag} {mg : Str → Option Value} {base : Heap} (T : Env K mg) {fd : FuncData} (F : FunD K "law" "law" (defArgs s_law) (defBody s_law) (defScope s_law) [] [] (He.ga K "law") fd) : Fb P w K mg base 12 (He.ga K "law") fd ["_law_script"] (sp_law K) := by
  refine fb_of F sc_law (fun vs H Q E h => ?_) (fun cdv A outer s H vs Q E hr h => ?_)
  · obtain ⟨a, ns, rfl, _⟩ := h
    rfl
  · obtain ⟨a, ns, rfl, hS, hl, q⟩ := h
    refine ⟨_, (pss_cons (ps_set (i := 1) sc_law.nd rfl (Or.inl rfl) (pe_lst (pa_cons (c_call (ok__law_pot T) (hr.mono (by decide)) T.g__law_pot T.k__law_pot takes0 (pa_cons (pv 0) (pa_cons pe_int pa_nil))) (pa_cons (c_call (ok__law_pot T) (hr.mono (by decide)) T.g__law_pot T.k__law_pot takes0 (pa_cons (pv 0) (pa_cons pe_int pa_nil))) pa_nil))))
      (pss_cons (ps_set (i := 2) sc_law.nd rfl (Or.inl rfl) (pe_lst pa_nil))
      (pss_cons (ps_for (passes_of rfl) rfl (pi_list (pv 1)) (pg_name (i := 3) sc_law.nd rfl (Or.inl rfl))
      (pss_cons (ps_set (i := 4) sc_law.nd rfl (Or.inl rfl) (pe_op op_add (pe_op op_mul (c_call (ok__law_great T) (hr.mono (by decide)) T.g__law_great T.k__law_great takes0 (pa_cons (pv 3) pa_nil)) pe_int) (c_call (ok__law_take T) (hr.mono (by decide)) T.g__law_take T.k__law_take takes0 (pa_cons (pv 3) (pa_cons pe_int pa_nil)))))
      (pss_cons (ps_set (i := 5) sc_law.nd rfl (Or.inl rfl) (c_call (ok__law_notes_drawn T) (hr.mono (by decide)) T.g__law_notes_drawn T.k__law_notes_drawn takes0 (pa_cons (pv 3) pa_nil)))
      (pss_one (ps_expr (pe_bm PySem.F.plainAttrs_list PySem.F.slot_list_append PySem.F.type_list_append mt_append (pv 2) (pa_cons (pe_tup (pa_cons (pv 4) (pa_cons (pv 5) pa_nil))) pa_nil)))))))
      (pss_cons (ps_for (passes_of rfl) rfl (pi_range1 (by rfl) T.n_range (pa_cons pe_int pa_nil)) (pg_name (i := 6) sc_law.nd rfl (Or.inl rfl))
      (pss_cons (ps_asg (pe_ix ix_list (pv 2) (pv 6) (fun _ _ => rfl)) (pg_tup (by rfl) (pgs_cons (pg_name (i := 4) sc_law.nd rfl (Or.inl rfl)) (pgs_cons (pg_name (i := 5) sc_law.nd rfl (Or.inl rfl)) pgs_nil))))
      (pss_cons (ps_set (i := 7) sc_law.nd rfl (Or.inl rfl) (pe_callTy call_list_of (by rfl) T.n_list (by decide +kernel) (pa_cons (pv 5) pa_nil)))
      (pss_cons (ps_set (i := 8) sc_law.nd rfl (Or.inl rfl) (c_make T.mk_Going (ok_Going_init T) (hr.mono (by decide)) T.g_Going takes0 (pa_cons (pv 4) (pa_cons (pv 7) pa_nil))))
      (pss_cons (ps_expr (pe_bm PySem.F.plainAttrs_list PySem.F.slot_list_append PySem.F.type_list_append mt_append (pv 7) (pa_cons pe_str pa_nil)))
      (pss_cons (ps_if (PW.pt (pw_or (pt_cmpR (op_neD hr.rm.units) (pv 7) (pe_op op_cat (pv 5) (pe_lst (pa_cons pe_str pa_nil))) (nomark _)) (pw_or1 (pt_not (pt_val (c_call (ok__law_made_right T) (hr.mono (by decide)) T.g__law_made_right T.k__law_made_right takes0 (pa_cons (pv 8) (pa_cons (pv 4) (pa_cons (pv 5) pa_nil)))))))))
      (pss_one (ps_ret pe_bl))
      pss_nil)
      (pss_cons (ps_if (pt_not (pt_val (c_call (ok__law_made_right T) (hr.mono (by decide)) T.g__law_made_right T.k__law_made_right takes0 (pa_cons (c_makeK0 T.mk_Going (ok_Going_init_1_notes_moment T) (hr.mono (by decide)) T.g_Going takes0 (pk_cons (pe_callTy call_tuple_of (by rfl) T.n_tuple (by decide +kernel) (pa_cons (pe_revL (pv 5)) pa_nil)) (pk_cons (pv 4) pk_nil))) (pa_cons (pv 4) (pa_cons (pv 5) pa_nil))))))
      (pss_one (ps_ret pe_bl))
      pss_nil)
      (pss_cons (ps_if (PW.pt (pw_or (pt_not (pt_val (c_call (ok__law_made_right T) (hr.mono (by decide)) T.g__law_made_right T.k__law_made_right takes0 (pa_cons (c_make T.mk_Going (ok_Going_init_2 T) (hr.mono (by decide)) T.g_Going takes0 (pa_cons (pv 4) pa_nil)) (pa_cons (pv 4) (pa_cons (pe_lst pa_nil) pa_nil)))))) (pw_or1 (pt_not (pt_val (c_call (ok__law_made_right T) (hr.mono (by decide)) T.g__law_made_right T.k__law_made_right takes0 (pa_cons (c_make T.mk_Going (ok_Going_init T) (hr.mono (by decide)) T.g_Going takes0 (pa_cons (pv 4) (pa_cons pe_non pa_nil))) (pa_cons (pv 4) (pa_cons (pe_lst pa_nil) pa_nil)))))))))
      (pss_one (ps_ret pe_bl))
      pss_nil)
      (pss_cons (ps_set (i := 9) sc_law.nd rfl (Or.inl rfl) (c_make T.mk_Going (ok_Going_init T) (hr.mono (by decide)) T.g_Going takes0 (pa_cons (pe_op op_add (pe_ix ix_tup (pe_ix ix_list (pv 2) (pe_op op_sub pe_int (pv 6)) (fun _ _ => rfl)) pe_int (fun _ _ => rfl)) (pe_callTy call_int1 (by rfl) T.n_int (by decide +kernel) (pa_cons (pe_cmpR op_eq (pe_ix ix_tup (pe_ix ix_list (pv 2) pe_int (fun _ _ => rfl)) pe_int (fun _ _ => rfl)) (pe_ix ix_tup (pe_ix ix_list (pv 2) pe_int (fun _ _ => rfl)) pe_int (fun _ _ => rfl)) (nomark _)) pa_nil))) (pa_cons (pe_ix ix_tup (pe_ix ix_list (pv 2) (pe_op op_sub pe_int (pv 6)) (fun _ _ => rfl)) pe_int (fun _ _ => rfl)) pa_nil))))
      (pss_one (ps_if (PW.pt (pw_or (pt_not (pt_val (c_call (ok__law_alike_right T) (hr.mono (by decide)) T.g__law_alike_right T.k__law_alike_right takes0 (pa_cons (pv 8) (pa_cons (pv 9) (pa_cons (pv 4) (pa_cons (pv 5) pa_nil))))))) (pw_or1 (pt_not (pt_val (c_call (ok__law_refusals_right T) (hr.mono (by decide)) T.g__law_refusals_right T.k__law_refusals_right takes0 (pa_cons (pv 4) (pa_cons (pv 5) pa_nil))))))))
      (pss_one (ps_ret pe_bl))
      pss_nil)))))))))))
      (pss_one (ps_ret pe_bl)))))), ?_⟩
    refine ⟨_, rfl, a, ns, 0, rfl, hS, by decide, by decide, fun p0 H1 n0 P0 K0 => ?_⟩
    have X1 : Ex H H1 := fun b o e => by rw [K0 b (ne_of_none e n0)]; exact e
    refine ⟨_, rfl, a, ns, 1, rfl, ex_sql X1 hS, by decide, by decide, fun p1 H2 n1 P1 K1 => ?_⟩
    have X2 : Ex H1 H2 := fun b o e => by rw [K1 b (ne_of_none e n1)]; exact e
    have p10 : p1 ≠ p0 := P0.some n1
    have P02 : PotN 0 H2 p0 := P0.keep fun o e => X2 _ _ e
    refine ⟨by show 2 ≤ sizeLine; decide, fun L nL => ?_⟩
    have XL := ex_new (o := HO.lst [V.ref p0, V.ref p1]) nL
    have hL : upd H2 L (HO.lst [V.ref p0, V.ref p1]) L = some (HO.lst [V.ref p0, V.ref p1]) := upd_same
    have L0 : L ≠ p0 := P02.some nL
    have L1 : L ≠ p1 := P1.some nL
    have fL := ex_fresh (X1.trans X2) nL
    have Q0 := P02.ex XL
    have Q1 := P1.ex XL
    generalize upd H2 L (HO.lst [V.ref p0, V.ref p1]) = H3 at XL hL Q0 Q1 ⊢
    refine ⟨by show 0 ≤ sizeLine; decide, fun M nM => ?_⟩
    have XM := ex_new (o := HO.lst []) nM
    have hM : upd H3 M (HO.lst []) M = some (HO.lst []) := upd_same
    have M0 : M ≠ p0 := Q0.some nM
    have M1 : M ≠ p1 := Q1.some nM
    have ML : M ≠ L := (ne_of_none hL nM).symm
    have X3 := (X1.trans X2).trans XL
    have fM := ex_fresh X3 nM
    have R0 := Q0.ex XM
    have R1 := Q1.ex XM
    have hL4 := XM _ _ hL
    generalize upd H3 M (HO.lst []) = H4 at XM hM R0 R1 hL4 ⊢
    have X4 := X3.trans XM
    refine ⟨_, rfl, L, rfl, ⟨_, sq_lst hL4⟩, for_on [p0, p1] V.ref L2.walk_list (fun i σ G => Ex H G ∧ PotN (300 * i) G p0 ∧ PotN (300 * i) G p1 ∧ G L = some (.lst [V.ref p0, V.ref p1]) ∧ ∃ rows : List RowD, rows.length = i ∧ G M = some (.lst (rows.map fun r => V.ref r.2.1)) ∧ (∀ r ∈ rows, RowAt G M p0 p1 r) ∧ ∃ v : Nat → Option V, σ = [some (.ref a), some (.ref L), some (.ref M), v 3, v 4, v 5, v 6, v 7, v 8, v 9]) ⟨X4, R0, R1, hL4, [], rfl, hM, nofun, fun _ => none, rfl⟩ (fun i σ G z => sq_lst z.2.2.2.1) ?_ ?_⟩
    · rintro i p σ G hp ⟨XG, A0, A1, gL, rows, lr, gM, hr, v, rfl⟩
      have i2 : i < 2 := (List.getElem?_eq_some_iff.mp hp).1
      have hpp : p = p0 ∨ p = p1 := by
        have z := List.mem_of_getElem? hp
        simp only [List.mem_cons, List.not_mem_nil, or_false] at z
        exact z
      have Lp : L ≠ p := by
        rcases hpp with rfl | rfl
        · exact L0
        · exact L1
      have Mp : M ≠ p := by
        rcases hpp with rfl | rfl
        · exact M0
        · exact M1
      have Ap : PotN (300 * i) G p := by
        rcases hpp with rfl | rfl
        · exact A0
        · exact A1
      refine ⟨_, rfl, p, 300 * i, rfl, Ap, by omega, fun d G1 d1 S1 => ?_⟩
      refine ⟨_, _, rfl, rfl, .inr ⟨by decide, by decide⟩, _, rfl, p, 300 * i + 3, 1440, rfl, S1.1, by omega, by decide, by decide, fun e G2 e0 e1 S2 => ?_⟩
      obtain ⟨e, rfl⟩ := Int.eq_ofNat_of_zero_le e0
      refine ⟨_, _, rfl, rfl, ?_⟩
      show gName 4 (V.int ((d : Int) * 1440 + (e : Int))) _ _ _
      rw [show (d : Int) * 1440 + (e : Int) = ((d * 1440 + e : Nat) : Int) by omega]
      have dn : d * 1440 + e < 10 ^ 60 := by
        have z : (10 : Nat) ^ 56 * 1440 + 1440 ≤ 10 ^ 60 := by decide +kernel
        have e2 : e < 1440 := by omega
        omega
      generalize d * 1440 + e = n at dn ⊢
      have S12 := S1.trans S2
      refine ⟨_, rfl, p, 300 * i + 4, rfl, S2.1.le (by omega), by omega, fun t ws G3 nw nd lw nt tp ht S3 => ?_⟩
      have S13 := S12.trans S3
      refine ⟨_, rfl, (.inl ⟨rfl, ⟨_, (sq_lst (S13.2 _ _ Mp gM))⟩⟩), _, rfl, _, rfl, by show 2 ≤ sizeLine; decide, fun w nw2 => ?_⟩
      have Xw := ex_new (o := HO.tup [V.int (n : Nat), V.ref t]) nw2
      have hw : upd G3 w (HO.tup [V.int (n : Nat), V.ref t]) w = some (HO.tup [V.int (n : Nat), V.ref t]) := upd_same
      generalize upd G3 w (HO.tup [V.int (n : Nat), V.ref t]) = G4 at Xw hw ⊢
      have S14 := S13.ex2 Xw
      refine ⟨_, _, _, rfl, rfl, S14.2 _ _ Mp gM, small_len (by rw [List.length_map]; omega), ?_⟩
      have kp : ∀ b o, b ≠ p0 → b ≠ p1 → b ≠ M → G b = some o → upd G4 M (HO.lst (rows.map (fun r => V.ref r.2.1) ++ [V.ref w])) b = some o := fun b o h0 h1 hM e => by
        rw [upd_ne hM]
        refine S14.2 b o ?_ e
        rcases hpp with rfl | rfl
        · exact h0
        · exact h1
      have kq : ∀ b, b ≠ p → b ≠ M → ∀ o, G b = some o → upd G4 M (HO.lst (rows.map (fun r => V.ref r.2.1) ++ [V.ref w])) b = some o := fun b hb hM o e => by
        rw [upd_ne hM]
        exact S14.2 b o hb e
      have pk : ∀ {G' : Hp} {n : Nat}, PotOnN n G G' p → n ≤ 300 * (i + 1) → PotN (300 * (i + 1)) G' p0 ∧ PotN (300 * (i + 1)) G' p1 := fun S ln => by
        rcases hpp with rfl | rfl
        · exact ⟨S.1.le ln, (A1.keep fun o e => S.2 _ _ p10 e).le (by omega)⟩
        · exact ⟨(A0.keep fun o e => S.2 _ _ (Ne.symm p10) e).le (by omega), S.1.le ln⟩
      have t0 := (pk S12 (by omega)).1.some nt
      have t1 := (pk S12 (by omega)).2.some nt
      have tM : t ≠ M := (ne_of_none (S12.2 _ _ Mp gM) nt).symm
      have w0 := (pk S13 (by omega)).1.some nw2
      have w1 := (pk S13 (by omega)).2.some nw2
      have wM : w ≠ M := (ne_of_none (S13.2 _ _ Mp gM) nw2).symm
      have c0 := (pk S14 (by omega)).1
      have c1 := (pk S14 (by omega)).2
      refine ⟨?_, PotN.oth c0 M0, PotN.oth c1 M1, kq L Lp (Ne.symm ML) _ gL, rows ++ [(n, w, t, ws)], by rw [List.length_append, lr]; rfl, by rw [List.map_append]; exact upd_same, fun r hr' => ?_, (fun k => if k = 3 then some (.ref p) else if k = 4 then some (.int (n : Nat)) else if k = 5 then some (.ref t) else v k), rfl⟩
      · have np : H p = none := by
          rcases hpp with rfl | rfl
          · exact n0
          · exact ex_fresh X1 n1
        exact ex_mut (S14.ex XG np) fM
      · rcases List.mem_append.mp hr' with h | h
        · exact (hr r h).keep kp
        · rw [List.mem_singleton.mp h]
          exact ⟨by rw [upd_ne wM]; exact hw, by rw [upd_ne tM]; exact Xw _ _ ht, dn, nw, nd, lw, ⟨w0, w1, wM⟩, t0, t1, tM⟩
    · rintro σ G ⟨XG, A0, A1, gL, rows, lr, gM, hr, v, rfl⟩
      have e2 : ∃ r0 r1 : RowD, rows = [r0, r1] := by
        match rows, lr with
        | [r0, r1], _ => exact ⟨r0, r1, rfl⟩
      obtain ⟨r0, r1, rfl⟩ := e2
      have h0 := hr r0 (by simp)
      have h1 := hr r1 (by simp)
      clear hr
      refine ⟨_, rfl, by omega, by omega, for_range (fun i σ G' => Ex G G' ∧ ∃ v : Nat → Option V, σ = [some (.ref a), some (.ref L), some (.ref M), v 3, v 4, v 5, v 6, v 7, v 8, v 9]) ⟨.refl _, v, rfl⟩ ?_ ?_⟩
      · rintro i σ G' hi ⟨XG', v', rfl⟩
        have i2 : i < 2 := by omega
        obtain ⟨A, B, ea, eb, hA, hB, hAB⟩ : ∃ A B : RowD, atI ([r0, r1].map fun r => V.ref r.2.1) (0 + (i : Nat)) = some (.ref A.2.1) ∧ atI ([r0, r1].map fun r => V.ref r.2.1) (1 - (0 + (i : Nat))) = some (.ref B.2.1) ∧ RowAt G' M p0 p1 A ∧ RowAt G' M p0 p1 B ∧ (r0.1 = r1.1 ↔ A.1 = B.1) := by
          rcases (by omega : i = 0 ∨ i = 1) with rfl | rfl
          · exact ⟨r0, r1, rfl, rfl, h0.mono XG', h1.mono XG', Iff.rfl⟩
          · exact ⟨r1, r0, rfl, rfl, h1.mono XG', h0.mono XG', eq_comm⟩
        have gM' := XG' _ _ gM
        obtain ⟨gA, gT, nA, wA, dA, lA, _⟩ := hA
        obtain ⟨gB, gU, nB, wB, dB, lB, _⟩ := hB
        obtain ⟨n, x, t, ws⟩ := A
        obtain ⟨m, y, u, us⟩ := B
        dsimp only at ea eb hAB gA gT nA wA dA lA gB gU nB wB dB lB
        refine ⟨_, rfl, _, rfl, _, _, _, _, rfl, rfl, (sq_lst gM'), ea, ?_⟩
        refine ⟨_, _, rfl, (sq_tup gA), rfl, _, _, rfl, _, _, rfl, rfl, _, rfl, _, _, rfl, (.inl (sq_lst gT)), ?_⟩
        intro a1 na1
        have Xa1 := ex_new (o := HO.lst (List.map V.str ws)) na1
        have ha1 : upd G' a1 (HO.lst (List.map V.str ws)) a1 = some (HO.lst (List.map V.str ws)) := upd_same
        generalize upd G' a1 (HO.lst (List.map V.str ws)) = Ga1 at Xa1 ha1 ⊢
        refine ⟨_, rfl, _, rfl, ?_⟩
        try dsimp only [tNil]
        intro y0 dx3 ny nd3 ne3
        refine ⟨rfl, ?_⟩
        show sp_Going_init K [.ref y0, .int (n : Nat), .ref a1] _ _ _
        refine go_new ny nd3 ne3 (nt_names (.inl ha1) wA dA (by omega)) fun H5 X5 hG => ⟨rfl, ?_⟩
        have X15 := Xa1.trans X5
        have ha5 := X5 _ _ ha1
        refine ⟨_, rfl, (.inl ⟨rfl, ⟨_, (sq_lst ha5)⟩⟩), _, _, _, rfl, rfl, ha5, small_len (by rw [List.length_map]; omega), ?_⟩
        have em : ws.map V.str ++ [V.str (Str.ofString "after")] = (ws ++ [Str.ofString "after"]).map V.str := by rw [List.map_append]; rfl
        rw [em]
        have hG6 := hG.put (ys := (ws ++ [Str.ofString "after"]).map V.str) ha5
        have X6 := ex_mut (o := HO.lst ((ws ++ [Str.ofString "after"]).map V.str)) X15 na1
        have ha6 : upd H5 a1 (HO.lst ((ws ++ [Str.ofString "after"]).map V.str)) a1 = some (HO.lst ((ws ++ [Str.ofString "after"]).map V.str)) := upd_same
        generalize upd H5 a1 (HO.lst ((ws ++ [Str.ofString "after"]).map V.str)) = H6 at hG6 X6 ha6 ⊢
        have gT6 := X6 _ _ gT
        have nW : Nms (ws ++ [Str.ofString "after"]) := fun z hz => (List.mem_append.mp hz).elim (wA z) fun h => by rw [List.mem_singleton.mp h]; decide
        refine ⟨_, rfl, _, rfl, (by decide), ?_⟩
        intro a2 na2
        have Xa2 := ex_new (o := HO.lst [V.str (Str.ofString "after")]) na2
        have ha2 : upd H6 a2 (HO.lst [V.str (Str.ofString "after")]) a2 = some (HO.lst [V.str (Str.ofString "after")]) := upd_same
        generalize upd H6 a2 (HO.lst [V.str (Str.ofString "after")]) = Ga2 at Xa2 ha2 ⊢
        refine ⟨_, _, _, _, rfl, rfl, (Xa2 _ _ gT6), ha2, ?_⟩
        refine ⟨sz_big (by rw [List.length_map]; show _ + 1 ≤ _; omega), fun a3 na3 => ?_⟩
        rw [em]
        have Xa3 := ex_new (o := HO.lst ((ws ++ [Str.ofString "after"]).map V.str)) na3
        have ha3 : upd Ga2 a3 (HO.lst ((ws ++ [Str.ofString "after"]).map V.str)) a3 = some (HO.lst ((ws ++ [Str.ofString "after"]).map V.str)) := upd_same
        generalize upd Ga2 a3 (HO.lst ((ws ++ [Str.ofString "after"]).map V.str)) = H7 at Xa3 ha3 ⊢
        have X67 := Xa2.trans Xa3
        refine ⟨_, _, .lst (sq_lst (X67 _ _ ha6)) (dp_strs K _ _), .lst (sq_lst ha3) (dp_strs K _ _), shaped_str nW, shaped_str nW, ?_⟩
        have ee : PyData.eqv (.list (strD (ws ++ [Str.ofString "after"]))) (.list (strD (ws ++ [Str.ofString "after"]))) = true := by
          show PyData.eqvAll _ _ = true
          rw [eqv_strD, decide_eq_true rfl]
        rw [ee]
        refine ⟨_, rfl, iteF ?_⟩
        have X7 := X6.trans X67
        have gT7 := X7 _ _ gT
        have hG7 := hG6.mono X67
        have n80 : n < 10 ^ 80 := Nat.lt_trans nA (by decide)
        refine ⟨_, rfl, _, rfl, _, rfl, y0, t, n, ws, rfl, hG7, gT7, n80, wA, by omega, fun H8 Y8 => ⟨true, rfl, iteF ?_⟩⟩
        have X8 := X7.trans Y8
        have gT8 := X8 _ _ gT
        refine ⟨_, rfl, _, _, rfl, (sq_lst gT8), ?_⟩
        intro a4 na4
        have Xa4 := ex_new (o := HO.lst (List.reverse (List.map V.str ws))) na4
        have ha4 : upd H8 a4 (HO.lst (List.reverse (List.map V.str ws))) a4 = some (HO.lst (List.reverse (List.map V.str ws))) := upd_same
        generalize upd H8 a4 (HO.lst (List.reverse (List.map V.str ws))) = Ga4 at Xa4 ha4 ⊢
        have sn0 : srtS [] = [] := List.length_eq_zero_iff.mp (srtS_perm []).length_eq
        have er : (ws.map V.str).reverse = ws.reverse.map V.str := by rw [List.map_reverse]
        rw [er] at ha4
        have nwr : Nms ws.reverse := nms_perm (List.reverse_perm ws) wA
        have esr : srtS ws.reverse = srtS ws := srtS_congr (List.reverse_perm ws)
        refine ⟨_, _, rfl, .inl ⟨sq_lst ha4, fun a5 na5 => ?_⟩⟩
        have Xa5 := ex_new (o := HO.tup (ws.reverse.map V.str)) na5
        have ha5 : upd Ga4 a5 (HO.tup (ws.reverse.map V.str)) a5 = some (HO.tup (ws.reverse.map V.str)) := upd_same
        generalize upd Ga4 a5 (HO.tup (ws.reverse.map V.str)) = Ga5 at Xa5 ha5 ⊢
        have hN5 : NtX K Ga5 (.ref a5) (some (srtS ws)) := esr ▸ nt_names (.inr ha5) nwr ((List.reverse_perm ws).nodup_iff.mpr dA) (by rw [List.length_reverse]; omega)
        refine ⟨_, rfl, rfl, fun y1 dy1 ny1 nd1 ne1 => ⟨rfl, ?_⟩⟩
        show sp_Going_init K [.ref y1, .int (n : Nat), .ref a5] _ _ _
        refine go_new ny1 nd1 ne1 hN5 fun H9 X9 hG9 => ⟨rfl, ?_⟩
        have Y9 := ((Y8.trans Xa4).trans Xa5).trans X9
        have X9 := X7.trans Y9
        refine ⟨_, rfl, _, rfl, y1, t, n, ws, rfl, hG9, X9 _ _ gT, n80, wA, by omega, fun H10 X10 => ⟨true, rfl, iteF ?_⟩⟩
        have Y10 := Y9.trans X10
        have X10 := X7.trans Y10
        refine ⟨_, rfl, fun y2 dy2 ny2 nd2 ne2 => ⟨rfl, ?_⟩⟩
        show sp_Going_init K [.ref y2, .int (n : Nat), .non] _ _ _
        refine go_new (ws := srtS []) ny2 nd2 ne2 (.inl ⟨rfl, by rw [sn0]⟩) fun H11 X11 hG11 => ⟨rfl, _, rfl, by show 0 ≤ sizeLine; decide, fun e1 ne1 => ?_⟩
        have Xe1 := ex_new (o := HO.lst []) ne1
        have he1 : upd H11 e1 (HO.lst []) e1 = some (HO.lst []) := upd_same
        generalize upd H11 e1 (HO.lst []) = H12 at Xe1 he1 ⊢
        have Y12 := (Y10.trans X11).trans Xe1
        refine ⟨y2, e1, n, [], rfl, hG11.mono Xe1, he1, n80, nofun, by decide, fun H13 X13 => ⟨true, rfl, ?_⟩⟩
        have Y13 := Y12.trans X13
        refine ⟨_, rfl, fun y3 dy3 ny3 nd3 ne3 => ⟨rfl, ?_⟩⟩
        show sp_Going_init K [.ref y3, .int (n : Nat), .non] _ _ _
        refine go_new (ws := srtS []) ny3 nd3 ne3 (.inl ⟨rfl, by rw [sn0]⟩) fun H14 X14 hG14 => ⟨rfl, _, rfl, by show 0 ≤ sizeLine; decide, fun e2 ne2 => ?_⟩
        have Xe2 := ex_new (o := HO.lst []) ne2
        have he2 : upd H14 e2 (HO.lst []) e2 = some (HO.lst []) := upd_same
        generalize upd H14 e2 (HO.lst []) = H15 at Xe2 he2 ⊢
        have Y15 := (Y13.trans X14).trans Xe2
        refine ⟨y3, e2, n, [], rfl, hG14.mono Xe2, he2, n80, nofun, by decide, fun H16 X16 => ⟨true, rfl, iteF ?_⟩⟩
        have Y16 := Y15.trans X16
        have X16 := X7.trans Y16
        have gM16 := X16 _ _ gM'
        have gB16 := X16 _ _ gB
        refine ⟨_, rfl, _, rfl, _, _, rfl, rfl, _, _, _, _, rfl, rfl, (sq_lst gM16), eb, _, _, _, _, rfl, rfl, (sq_tup gB16), rfl, _, rfl, _, _, _, _, rfl, rfl, (sq_lst gM16), rfl, ?_⟩
        have gr0 := X16 _ _ (XG' _ _ h0.1)
        have gr1 := X16 _ _ (XG' _ _ h1.1)
        refine ⟨_, _, _, _, rfl, rfl, (sq_tup gr0), rfl, _, rfl, _, _, _, _, rfl, rfl, (sq_lst gM16), rfl, _, _, _, _, rfl, rfl, (sq_tup gr1), rfl, rfl, ?_⟩
        try dsimp only [tNil]
        obtain ⟨c, ec, hc, c1⟩ : ∃ c : Nat, (if decide (V.int (r0.1 : Int) = V.int (r1.1 : Int)) = true then (1 : Int) else 0) = (c : Int) ∧ n ≠ m + c ∧ c ≤ 1 := by
          by_cases h : r0.1 = r1.1
          · exact ⟨1, by rw [if_pos (decide_eq_true (by rw [h]))]; rfl, by have := hAB.mp h; omega, by decide⟩
          · exact ⟨0, by rw [decide_eq_false (fun z => h (by injection z with z; omega))]; rfl, fun z => h (hAB.mpr (by omega)), by decide⟩
        refine .inr ⟨_, rfl, ?_⟩
        rw [ec]
        refine ⟨_, _, rfl, rfl, _, rfl, _, rfl, _, _, rfl, rfl, _, _, _, _, rfl, rfl, (sq_lst gM16), eb, _, _, _, _, rfl, rfl, (sq_tup gB16), rfl, ?_⟩
        try dsimp only [tNil]
        intro y4 dy4 ny4 nd4 ne4
        refine ⟨rfl, ?_⟩
        rw [show (m : Int) + (c : Int) = ((m + c : Nat) : Int) by omega]
        show sp_Going_init K [.ref y4, .int ((m + c : Nat) : Int), .ref u] _ _ _
        refine go_new ny4 nd4 ne4 (nt_names (.inl (X16 _ _ gU)) wB dB (by omega)) fun H17 X17 hG17 => ⟨rfl, ?_⟩
        have Y17 := Y16.trans X17
        have X17 := X7.trans Y17
        refine ⟨_, rfl, _, rfl, _, rfl, _, rfl, y0, y4, t, n, m + c, ws, srtS us, rfl, ?_, hG17, fun z => hc z.1, X17 _ _ gT, n80, wA, dA, by omega, fun H18 X18 => ⟨true, rfl, ?_⟩⟩
        · exact hG7.mono Y17
        have X18 := X17.trans X18
        refine ⟨_, rfl, _, rfl, t, n, ws, rfl, X18 _ _ gT, n80, wA, by omega, fun H19 X19 => ⟨true, rfl, iteF ?_⟩⟩
        exact ⟨XG'.trans (X18.trans X19), (fun k => if k = 4 then some (.int (n : Nat)) else if k = 5 then some (.ref t) else if k = 6 then some (.int (0 + (i : Nat))) else if k = 7 then some (.ref a1) else if k = 8 then some (.ref y0) else if k = 9 then some (.ref y4) else v' k), rfl⟩
      · rintro σ G' ⟨XG', v', rfl⟩
        exact q _
end
end Toy
namespace Toy
open PySem PySem.Spec PyProof.Rows L2 L3
def xf1 : List Fx := [fun K => (He.Fa.glo "is_whole").ok K,
  fun K => (He.Fa.glo "is_moment").ok K,
  fun K => (He.Fa.glo "want_moment").ok K,
  fun K => (He.Fa.glo "clock_of").ok K,
  fun K => (He.Fa.glo "show_moment").ok K,
  fun K => (He.Fa.glo "is_name").ok K,
  fun K => (He.Fa.glo "notes_of").ok K,
  fun K => (He.Fa.glo "_law_pot").ok K,
  fun K => (He.Fa.glo "_law_take").ok K,
  fun K => (He.Fa.glo "_law_great").ok K,
  fun K => (He.Fa.glo "_law_name").ok K,
  fun K => (He.Fa.glo "_law_notes_drawn").ok K,
  fun K => (He.Fa.glo "_law_text").ok K,
  fun K => (He.Fa.glo "_law_word").ok K,
  fun K => (He.Fa.glo "_law_refused").ok K,
  fun K => (He.Fa.glo "_law_made_right").ok K,
  fun K => (He.Fa.glo "_law_alike_right").ok K,
  fun K => (He.Fa.glo "_law_refusals_right").ok K,
  fun K => (He.Fa.glo "law").ok K,
  fun K => (He.Fa.int "HOUR" (60)).ok K,
  fun K => (He.Fa.int "DAY" (1440)).ok K,
  fun K => (He.Fa.str "COLON" ":").ok K,
  fun K => (He.Fa.str "BLANK" " ").ok K,
  fun K => (He.Fa.str "NAME_SIGNS" "abcdefghijklmnopqrstuvwxyz").ok K,
  fun K => (He.Fa.int "LONGEST_NAME" (8)).ok K,
  fun K => (He.Fa.free "ValueError").ok K,
  fun K => (He.Fa.free "all").ok K,
  fun K => (He.Fa.free "bool").ok K,
  fun K => (He.Fa.free "divmod").ok K,
  fun K => (He.Fa.free "int").ok K,
  fun K => (He.Fa.free "isinstance").ok K,
  fun K => (He.Fa.free "len").ok K,
  fun K => (He.Fa.free "list").ok K,
  fun K => (He.Fa.free "max").ok K,
  fun K => (He.Fa.free "range").ok K,
  fun K => (He.Fa.free "repr").ok K,
  fun K => (He.Fa.free "set").ok K,
  fun K => (He.Fa.free "sorted").ok K,
  fun K => (He.Fa.free "str").ok K,
  fun K => (He.Fa.free "tuple").ok K,
  fun K => (He.Fa.glo "GoingError").ok K,
  exoB bmV "ValueError.__new__" "GoingError",
  fun K => (He.Fa.glo "LackError").ok K,
  exoB bmL "LookupError.__new__" "LackError",
  fun K => (He.Fa.glo "BookError").ok K,
  exoB bmR "RuntimeError.__new__" "BookError",
  fun K => (He.Fa.glo "NoTime").ok K,
  exoB bmV "ValueError.__new__" "NoTime",
  fun K => (He.Fa.glo "NoPiece").ok K,
  exoB bmV "ValueError.__new__" "NoPiece",
  fun K => (He.Fa.glo "NoDays").ok K,
  exoB bmV "ValueError.__new__" "NoDays",
  fun K => (He.Fa.glo "NoCard").ok K,
  exoB bmV "ValueError.__new__" "NoCard",
  fun K => (He.Fa.glo "NoName").ok K,
  exoB bmV "ValueError.__new__" "NoName",
  fun K => (He.Fa.glo "NoRow").ok K,
  exoB bmV "ValueError.__new__" "NoRow"]
def xf2 : List Fx := [fun K => (He.Fa.glo "NoText").ok K,
  fun K => (He.Fa.glo "Going").ok K,
  sysB,
  fun K => (He.Fa.cls "Going").ok K,
  insB "Going",
  fun K => (He.Fa.noat "Going" "moment").ok K,
  fun K => (He.Fa.noat "Going" "notes").ok K,
  fun K => (He.Fa.meth "Going" "__init__").ok K,
  fun K => (He.Fa.meth "Going" "__eq__").ok K,
  fun K => (He.Fa.meth "Going" "__str__").ok K,
  fun K => (He.Fa.meth "Going" "__repr__").ok K,
  fun K => (He.Fa.mkr "Going").ok K,
  noBaseF "Going",
  kitF "Going" "Going" true,
  kitFT "Going" "int" false,
  kitFT "Going" "bool" false,
  kitFT "Going" "str" false,
  kitFT "Going" "list" false,
  kitFT "Going" "tuple" false,
  kitFT "Going" "ValueError" false,
  kitBF "int" "Going" false,
  kitBF "bool" "Going" false,
  kitBF "str" "Going" false,
  kitBF "NoneType" "Going" false,
  kitBF "list" "Going" false,
  kitBF "tuple" "Going" false,
  kitBF "dict" "Going" false,
  exm1F "NoTime" "GoingError" true,
  excCB "NoTime",
  kitF "NoTime" "GoingError" true,
  kitF "NoTime" "LackError" false,
  kitF "NoTime" "BookError" false,
  kitF "NoTime" "NoTime" true,
  kitF "NoTime" "NoPiece" false,
  kitF "NoTime" "NoDays" false,
  kitF "NoTime" "NoCard" false,
  kitF "NoTime" "NoName" false,
  kitF "NoTime" "NoRow" false,
  kitF "NoTime" "NoText" false,
  kitFT "NoTime" "ValueError" true,
  kitFT "NoTime" "LookupError" false,
  kitFT "NoTime" "RuntimeError" false,
  exm3F "NoTime" ["GoingError", "LackError", "BookError"],
  exm1F "NoCard" "GoingError" true,
  excCB "NoCard",
  kitF "NoCard" "GoingError" true,
  kitF "NoCard" "LackError" false,
  kitF "NoCard" "BookError" false,
  kitF "NoCard" "NoTime" false,
  kitF "NoCard" "NoPiece" false,
  kitF "NoCard" "NoDays" false,
  kitF "NoCard" "NoCard" true,
  kitF "NoCard" "NoName" false,
  kitF "NoCard" "NoRow" false,
  kitF "NoCard" "NoText" false,
  kitFT "NoCard" "ValueError" true,
  kitFT "NoCard" "LookupError" false,
  kitFT "NoCard" "RuntimeError" false,
  exm3F "NoCard" ["GoingError", "LackError", "BookError"]]
def xf : List Fx := xf1 ++ xf2
def d_NoText_init : He.DefD := ⟨("NoText", some "__init__"), "__init__", "NoText.__init__", defArgs s_NoText_init, defBody s_NoText_init, defScope s_NoText_init, [], []⟩
def d_is_whole : He.DefD := ⟨("is_whole", none), "is_whole", "is_whole", defArgs s_is_whole, defBody s_is_whole, defScope s_is_whole, [], []⟩
def d_is_moment : He.DefD := ⟨("is_moment", none), "is_moment", "is_moment", defArgs s_is_moment, defBody s_is_moment, defScope s_is_moment, [], []⟩
def d_want_moment : He.DefD := ⟨("want_moment", none), "want_moment", "want_moment", defArgs s_want_moment, defBody s_want_moment, defScope s_want_moment, [], []⟩
def d_clock_of : He.DefD := ⟨("clock_of", none), "clock_of", "clock_of", defArgs s_clock_of, defBody s_clock_of, defScope s_clock_of, [], []⟩
def d_show_moment : He.DefD := ⟨("show_moment", none), "show_moment", "show_moment", defArgs s_show_moment, defBody s_show_moment, defScope s_show_moment, [], []⟩
def d_is_name : He.DefD := ⟨("is_name", none), "is_name", "is_name", defArgs s_is_name, defBody s_is_name, defScope s_is_name, [], []⟩
def d_notes_of : He.DefD := ⟨("notes_of", none), "notes_of", "notes_of", defArgs s_notes_of, defBody s_notes_of, defScope s_notes_of, [], []⟩
def d_Going_init : He.DefD := ⟨("Going", some "__init__"), "__init__", "Going.__init__", defArgs s_Going_init, defBody s_Going_init, defScope s_Going_init, [.non], []⟩
def d_Going_eq : He.DefD := ⟨("Going", some "__eq__"), "__eq__", "Going.__eq__", defArgs s_Going_eq, defBody s_Going_eq, defScope s_Going_eq, [], []⟩
def d_Going_str : He.DefD := ⟨("Going", some "__str__"), "__str__", "Going.__str__", defArgs s_Going_str, defBody s_Going_str, defScope s_Going_str, [], []⟩
def d_Going_repr : He.DefD := ⟨("Going", some "__repr__"), "__repr__", "Going.__repr__", defArgs s_Going_repr, defBody s_Going_repr, defScope s_Going_repr, [], []⟩
def d__law_pot : He.DefD := ⟨("_law_pot", none), "_law_pot", "_law_pot", defArgs s__law_pot, defBody s__law_pot, defScope s__law_pot, [], []⟩
def d__law_take : He.DefD := ⟨("_law_take", none), "_law_take", "_law_take", defArgs s__law_take, defBody s__law_take, defScope s__law_take, [], []⟩
def d__law_great : He.DefD := ⟨("_law_great", none), "_law_great", "_law_great", defArgs s__law_great, defBody s__law_great, defScope s__law_great, [], []⟩
def d__law_name : He.DefD := ⟨("_law_name", none), "_law_name", "_law_name", defArgs s__law_name, defBody s__law_name, defScope s__law_name, [], []⟩
def d__law_notes_drawn : He.DefD := ⟨("_law_notes_drawn", none), "_law_notes_drawn", "_law_notes_drawn", defArgs s__law_notes_drawn, defBody s__law_notes_drawn, defScope s__law_notes_drawn, [], []⟩
def d__law_text : He.DefD := ⟨("_law_text", none), "_law_text", "_law_text", defArgs s__law_text, defBody s__law_text, defScope s__law_text, [], []⟩
def d__law_word : He.DefD := ⟨("_law_word", none), "_law_word", "_law_word", defArgs s__law_word, defBody s__law_word, defScope s__law_word, [], []⟩
def d__law_refused : He.DefD := ⟨("_law_refused", none), "_law_refused", "_law_refused", defArgs s__law_refused, defBody s__law_refused, defScope s__law_refused, [], []⟩
def d__law_made_right : He.DefD := ⟨("_law_made_right", none), "_law_made_right", "_law_made_right", defArgs s__law_made_right, defBody s__law_made_right, defScope s__law_made_right, [], []⟩
def d__law_alike_right : He.DefD := ⟨("_law_alike_right", none), "_law_alike_right", "_law_alike_right", defArgs s__law_alike_right, defBody s__law_alike_right, defScope s__law_alike_right, [], []⟩
def d__law_refusals_right : He.DefD := ⟨("_law_refusals_right", none), "_law_refusals_right", "_law_refusals_right", defArgs s__law_refusals_right, defBody s__law_refusals_right, defScope s__law_refusals_right, [], []⟩
def d_law : He.DefD := ⟨("law", none), "law", "law", defArgs s_law, defBody s_law, defScope s_law, [], []⟩
def fn : List He.DefD := [d_NoText_init, d_is_whole, d_is_moment, d_want_moment, d_clock_of, d_show_moment, d_is_name, d_notes_of, d_Going_init, d_Going_eq, d_Going_str, d_Going_repr, d__law_pot, d__law_take, d__law_great, d__law_name, d__law_notes_drawn, d__law_text, d__law_word, d__law_refused, d__law_made_right, d__law_alike_right, d__law_refusals_right, d_law]
abbrev R : PySem.W.OpenRow := PySem.W.OpenLaw.row PySem.Challenge.rw_shortgoings_k51_goings_made
def adr0 : List Addr := [3, 228, 63, 99, 24, 227, 23, 37, 50, 75, 87, 111, 123, 142, 204, 62, 98, 211, 218, 225, 1, 151, 158, 165, 172, 179, 184, 189, 239, 246]
def adr1 : List Addr := [253, 258, 265, 272, 279, 286, 293, 298, 305, 312, 36, 49, 74, 86, 110, 122, 141, 150, 157, 164, 171, 178, 183, 188, 238, 245, 252, 257, 264, 271]
def adr2 : List Addr := [278, 285, 292, 297, 304, 311, 139, 138, 203, 197, 210, 217, 224]
def adr : List Addr := adr0 ++ adr1 ++ adr2
abbrev hk : PySem.W.Hook := hookA adr xf fn
def ob (s : PySem.W.SharedT) : He.AlD := obsA adr xf fn (HandSHeadRun.getT s)
theorem ob_eq (s : PySem.W.SharedT) : ob s = hk.obs s.abs := obsA_eq (HandSHeadRun.getT_eq s)
def ns0 : List PySem.Str := ["GoingError", "LackError", "BookError", "NoTime", "NoPiece", "NoDays", "NoCard", "NoName", "NoRow", "NoText", "HOUR", "DAY", "COLON", "BLANK", "is_whole", "is_moment", "want_moment", "clock_of", "show_moment", "NAME_SIGNS", "LONGEST_NAME", "is_name", "notes_of", "Going", "_law_pot", "_law_take", "_law_great", "_law_name", "_law_notes_drawn", "_law_text"]
def ns1 : List PySem.Str := ["_law_word", "_law_refused", "_law_made_right", "_law_alike_right", "_law_refusals_right"]
def nss : List PySem.Str := ns0 ++ ns1
theorem run_a (w : World) : HandSHeadRun.RunA R (PySem.W.view R.prog [39]) 8000 nss w := by
  intro os
  kernel_rfl
theorem run_b (w : World) : HandSHeadRun.RunB R 8000 (fun s => xf1.all fun p => p (He.frG (HandSHeadRun.getT s) adr)) w := by
  intro os
  kernel_rfl
theorem run_c (w : World) : HandSHeadRun.RunB R 8000 (fun s => xf2.all fun p => p (He.frG (HandSHeadRun.getT s) adr)) w := by
  intro os
  kernel_rfl
theorem run_d (w : World) : ∀ os : OsState, (HandSHeadRun.endR R 8000 w os).map (fun s => (fn.all fun d => d.ok (He.frG (HandSHeadRun.getT s) adr), fn.map fun d => He.fnW (He.frG (HandSHeadRun.getT s) adr) d.at_)) = some (true, fn.map He.DefD.val) := by
  intro os
  kernel_rfl
theorem run (w : World) : HandSHeadRun.RunEq R (PySem.W.view R.prog [39]) hk ob 8000 nss w := HandSHeadRun.runEq_of (run_a w) (runC_of rfl (run_b w) (run_c w) (run_d w))
theorem env_of {K : PySem.W.Frag} {h : Heap} {mg : Str → Option Value} (X : K.In h) (G : h.Ns mainGlobals mg) (c : SaysX xf fn K) : Env K mg :=
  ⟨He.glo_ok X G (c.fact 0 (f := fun K => (He.Fa.glo "is_whole").ok K) rfl),
  He.glo_ok X G (c.fact 1 (f := fun K => (He.Fa.glo "is_moment").ok K) rfl),
  He.glo_ok X G (c.fact 2 (f := fun K => (He.Fa.glo "want_moment").ok K) rfl),
  He.glo_ok X G (c.fact 3 (f := fun K => (He.Fa.glo "clock_of").ok K) rfl),
  He.glo_ok X G (c.fact 4 (f := fun K => (He.Fa.glo "show_moment").ok K) rfl),
  He.glo_ok X G (c.fact 5 (f := fun K => (He.Fa.glo "is_name").ok K) rfl),
  He.glo_ok X G (c.fact 6 (f := fun K => (He.Fa.glo "notes_of").ok K) rfl),
  He.glo_ok X G (c.fact 7 (f := fun K => (He.Fa.glo "_law_pot").ok K) rfl),
  He.glo_ok X G (c.fact 8 (f := fun K => (He.Fa.glo "_law_take").ok K) rfl),
  He.glo_ok X G (c.fact 9 (f := fun K => (He.Fa.glo "_law_great").ok K) rfl),
  He.glo_ok X G (c.fact 10 (f := fun K => (He.Fa.glo "_law_name").ok K) rfl),
  He.glo_ok X G (c.fact 11 (f := fun K => (He.Fa.glo "_law_notes_drawn").ok K) rfl),
  He.glo_ok X G (c.fact 12 (f := fun K => (He.Fa.glo "_law_text").ok K) rfl),
  He.glo_ok X G (c.fact 13 (f := fun K => (He.Fa.glo "_law_word").ok K) rfl),
  He.glo_ok X G (c.fact 14 (f := fun K => (He.Fa.glo "_law_refused").ok K) rfl),
  He.glo_ok X G (c.fact 15 (f := fun K => (He.Fa.glo "_law_made_right").ok K) rfl),
  He.glo_ok X G (c.fact 16 (f := fun K => (He.Fa.glo "_law_alike_right").ok K) rfl),
  He.glo_ok X G (c.fact 17 (f := fun K => (He.Fa.glo "_law_refusals_right").ok K) rfl),
  He.glo_ok X G (c.fact 18 (f := fun K => (He.Fa.glo "law").ok K) rfl),
  gint_of X G (c.fact 19 (f := fun K => (He.Fa.int "HOUR" (60)).ok K) rfl),
  gint_of X G (c.fact 20 (f := fun K => (He.Fa.int "DAY" (1440)).ok K) rfl),
  gstr_of X G (c.fact 21 (f := fun K => (He.Fa.str "COLON" ":").ok K) rfl),
  gstr_of X G (c.fact 22 (f := fun K => (He.Fa.str "BLANK" " ").ok K) rfl),
  gstr_of X G (c.fact 23 (f := fun K => (He.Fa.str "NAME_SIGNS" "abcdefghijklmnopqrstuvwxyz").ok K) rfl),
  gint_of X G (c.fact 24 (f := fun K => (He.Fa.int "LONGEST_NAME" (8)).ok K) rfl),
  He.free_ok X G (c.fact 25 (f := fun K => (He.Fa.free "ValueError").ok K) rfl),
  He.free_ok X G (c.fact 26 (f := fun K => (He.Fa.free "all").ok K) rfl),
  He.free_ok X G (c.fact 27 (f := fun K => (He.Fa.free "bool").ok K) rfl),
  He.free_ok X G (c.fact 28 (f := fun K => (He.Fa.free "divmod").ok K) rfl),
  He.free_ok X G (c.fact 29 (f := fun K => (He.Fa.free "int").ok K) rfl),
  He.free_ok X G (c.fact 30 (f := fun K => (He.Fa.free "isinstance").ok K) rfl),
  He.free_ok X G (c.fact 31 (f := fun K => (He.Fa.free "len").ok K) rfl),
  He.free_ok X G (c.fact 32 (f := fun K => (He.Fa.free "list").ok K) rfl),
  He.free_ok X G (c.fact 33 (f := fun K => (He.Fa.free "max").ok K) rfl),
  He.free_ok X G (c.fact 34 (f := fun K => (He.Fa.free "range").ok K) rfl),
  He.free_ok X G (c.fact 35 (f := fun K => (He.Fa.free "repr").ok K) rfl),
  He.free_ok X G (c.fact 36 (f := fun K => (He.Fa.free "set").ok K) rfl),
  He.free_ok X G (c.fact 37 (f := fun K => (He.Fa.free "sorted").ok K) rfl),
  He.free_ok X G (c.fact 38 (f := fun K => (He.Fa.free "str").ok K) rfl),
  He.free_ok X G (c.fact 39 (f := fun K => (He.Fa.free "tuple").ok K) rfl),
  He.glo_ok X G (c.fact 40 (f := fun K => (He.Fa.glo "GoingError").ok K) rfl),
  exo_of (c.fact 41 (f := exoB bmV "ValueError.__new__" "GoingError") rfl),
  He.glo_ok X G (c.fact 42 (f := fun K => (He.Fa.glo "LackError").ok K) rfl),
  exo_of (c.fact 43 (f := exoB bmL "LookupError.__new__" "LackError") rfl),
  He.glo_ok X G (c.fact 44 (f := fun K => (He.Fa.glo "BookError").ok K) rfl),
  exo_of (c.fact 45 (f := exoB bmR "RuntimeError.__new__" "BookError") rfl),
  He.glo_ok X G (c.fact 46 (f := fun K => (He.Fa.glo "NoTime").ok K) rfl),
  exo_of (c.fact 47 (f := exoB bmV "ValueError.__new__" "NoTime") rfl),
  He.glo_ok X G (c.fact 48 (f := fun K => (He.Fa.glo "NoPiece").ok K) rfl),
  exo_of (c.fact 49 (f := exoB bmV "ValueError.__new__" "NoPiece") rfl),
  He.glo_ok X G (c.fact 50 (f := fun K => (He.Fa.glo "NoDays").ok K) rfl),
  exo_of (c.fact 51 (f := exoB bmV "ValueError.__new__" "NoDays") rfl),
  He.glo_ok X G (c.fact 52 (f := fun K => (He.Fa.glo "NoCard").ok K) rfl),
  exo_of (c.fact 53 (f := exoB bmV "ValueError.__new__" "NoCard") rfl),
  He.glo_ok X G (c.fact 54 (f := fun K => (He.Fa.glo "NoName").ok K) rfl),
  exo_of (c.fact 55 (f := exoB bmV "ValueError.__new__" "NoName") rfl),
  He.glo_ok X G (c.fact 56 (f := fun K => (He.Fa.glo "NoRow").ok K) rfl),
  exo_of (c.fact 57 (f := exoB bmV "ValueError.__new__" "NoRow") rfl),
  He.glo_ok X G (c.fact 58 (f := fun K => (He.Fa.glo "NoText").ok K) rfl),
  He.glo_ok X G (c.fact 59 (f := fun K => (He.Fa.glo "Going").ok K) rfl),
  sys_of (c.fact 60 (f := sysB) rfl),
  He.cls_ok (c.fact 61 (f := fun K => (He.Fa.cls "Going").ok K) rfl),
  insC_of (c.fact 62 (f := insB "Going") rfl),
  He.noat_ok (c.fact 63 (f := fun K => (He.Fa.noat "Going" "moment").ok K) rfl),
  He.noat_ok (c.fact 64 (f := fun K => (He.Fa.noat "Going" "notes").ok K) rfl),
  He.meth_ok (c.fact 65 (f := fun K => (He.Fa.meth "Going" "__init__").ok K) rfl),
  He.meth_ok (c.fact 66 (f := fun K => (He.Fa.meth "Going" "__eq__").ok K) rfl),
  He.meth_ok (c.fact 67 (f := fun K => (He.Fa.meth "Going" "__str__").ok K) rfl),
  He.meth_ok (c.fact 68 (f := fun K => (He.Fa.meth "Going" "__repr__").ok K) rfl),
  He.mkr_ok (c.fact 69 (f := fun K => (He.Fa.mkr "Going").ok K) rfl),
  noBase_of (c.fact 70 (f := noBaseF "Going") rfl),
  of_decide_eq_true (c.fact 71 (f := kitF "Going" "Going" true) rfl),
  of_decide_eq_true (c.fact 72 (f := kitFT "Going" "int" false) rfl),
  of_decide_eq_true (c.fact 73 (f := kitFT "Going" "bool" false) rfl),
  of_decide_eq_true (c.fact 74 (f := kitFT "Going" "str" false) rfl),
  of_decide_eq_true (c.fact 75 (f := kitFT "Going" "list" false) rfl),
  of_decide_eq_true (c.fact 76 (f := kitFT "Going" "tuple" false) rfl),
  of_decide_eq_true (c.fact 77 (f := kitFT "Going" "ValueError" false) rfl),
  of_decide_eq_true (c.fact 78 (f := kitBF "int" "Going" false) rfl),
  of_decide_eq_true (c.fact 79 (f := kitBF "bool" "Going" false) rfl),
  of_decide_eq_true (c.fact 80 (f := kitBF "str" "Going" false) rfl),
  of_decide_eq_true (c.fact 81 (f := kitBF "NoneType" "Going" false) rfl),
  of_decide_eq_true (c.fact 82 (f := kitBF "list" "Going" false) rfl),
  of_decide_eq_true (c.fact 83 (f := kitBF "tuple" "Going" false) rfl),
  of_decide_eq_true (c.fact 84 (f := kitBF "dict" "Going" false) rfl),
  of_decide_eq_true (c.fact 85 (f := exm1F "NoTime" "GoingError" true) rfl),
  excC_of (c.fact 86 (f := excCB "NoTime") rfl),
  of_decide_eq_true (c.fact 87 (f := kitF "NoTime" "GoingError" true) rfl),
  of_decide_eq_true (c.fact 88 (f := kitF "NoTime" "LackError" false) rfl),
  of_decide_eq_true (c.fact 89 (f := kitF "NoTime" "BookError" false) rfl),
  of_decide_eq_true (c.fact 90 (f := kitF "NoTime" "NoTime" true) rfl),
  of_decide_eq_true (c.fact 91 (f := kitF "NoTime" "NoPiece" false) rfl),
  of_decide_eq_true (c.fact 92 (f := kitF "NoTime" "NoDays" false) rfl),
  of_decide_eq_true (c.fact 93 (f := kitF "NoTime" "NoCard" false) rfl),
  of_decide_eq_true (c.fact 94 (f := kitF "NoTime" "NoName" false) rfl),
  of_decide_eq_true (c.fact 95 (f := kitF "NoTime" "NoRow" false) rfl),
  of_decide_eq_true (c.fact 96 (f := kitF "NoTime" "NoText" false) rfl),
  of_decide_eq_true (c.fact 97 (f := kitFT "NoTime" "ValueError" true) rfl),
  of_decide_eq_true (c.fact 98 (f := kitFT "NoTime" "LookupError" false) rfl),
  of_decide_eq_true (c.fact 99 (f := kitFT "NoTime" "RuntimeError" false) rfl),
  of_decide_eq_true (c.fact 100 (f := exm3F "NoTime" ["GoingError", "LackError", "BookError"]) rfl),
  of_decide_eq_true (c.fact 101 (f := exm1F "NoCard" "GoingError" true) rfl),
  excC_of (c.fact 102 (f := excCB "NoCard") rfl),
  of_decide_eq_true (c.fact 103 (f := kitF "NoCard" "GoingError" true) rfl),
  of_decide_eq_true (c.fact 104 (f := kitF "NoCard" "LackError" false) rfl),
  of_decide_eq_true (c.fact 105 (f := kitF "NoCard" "BookError" false) rfl),
  of_decide_eq_true (c.fact 106 (f := kitF "NoCard" "NoTime" false) rfl),
  of_decide_eq_true (c.fact 107 (f := kitF "NoCard" "NoPiece" false) rfl),
  of_decide_eq_true (c.fact 108 (f := kitF "NoCard" "NoDays" false) rfl),
  of_decide_eq_true (c.fact 109 (f := kitF "NoCard" "NoCard" true) rfl),
  of_decide_eq_true (c.fact 110 (f := kitF "NoCard" "NoName" false) rfl),
  of_decide_eq_true (c.fact 111 (f := kitF "NoCard" "NoRow" false) rfl),
  of_decide_eq_true (c.fact 112 (f := kitF "NoCard" "NoText" false) rfl),
  of_decide_eq_true (c.fact 113 (f := kitFT "NoCard" "ValueError" true) rfl),
  of_decide_eq_true (c.fact 114 (f := kitFT "NoCard" "LookupError" false) rfl),
  of_decide_eq_true (c.fact 115 (f := kitFT "NoCard" "RuntimeError" false) rfl),
  of_decide_eq_true (c.fact 116 (f := exm3F "NoCard" ["GoingError", "LackError", "BookError"]) rfl),
  c.def_ 0 (d := d_NoText_init) rfl,
  c.def_ 1 (d := d_is_whole) rfl,
  c.def_ 2 (d := d_is_moment) rfl,
  c.def_ 3 (d := d_want_moment) rfl,
  c.def_ 4 (d := d_clock_of) rfl,
  c.def_ 5 (d := d_show_moment) rfl,
  c.def_ 6 (d := d_is_name) rfl,
  c.def_ 7 (d := d_notes_of) rfl,
  c.def_ 8 (d := d_Going_init) rfl,
  c.def_ 9 (d := d_Going_eq) rfl,
  c.def_ 10 (d := d_Going_str) rfl,
  c.def_ 11 (d := d_Going_repr) rfl,
  c.def_ 12 (d := d__law_pot) rfl,
  c.def_ 13 (d := d__law_take) rfl,
  c.def_ 14 (d := d__law_great) rfl,
  c.def_ 15 (d := d__law_name) rfl,
  c.def_ 16 (d := d__law_notes_drawn) rfl,
  c.def_ 17 (d := d__law_text) rfl,
  c.def_ 18 (d := d__law_word) rfl,
  c.def_ 19 (d := d__law_refused) rfl,
  c.def_ 20 (d := d__law_made_right) rfl,
  c.def_ 21 (d := d__law_alike_right) rfl,
  c.def_ 22 (d := d__law_refusals_right) rfl,
  c.def_ 23 (d := d_law) rfl⟩
end Toy
open PySem PySem.W PySem.Calls PyProof.Rows
set_option maxRecDepth 100000 in
set_option maxHeartbeats 0 in
theorem PySem.Challenge.cw_shortgoings_k51_goings_made_holds : PySem.Challenge.rw_shortgoings_k51_goings_made.Holds := by
  w_on; o_law
  refine HandSHeadRun.head_any (r := OpenLaw.row PySem.Challenge.rw_shortgoings_k51_goings_made) (q := view (OpenLaw.row PySem.Challenge.rw_shortgoings_k51_goings_made).prog [39]) (H := Toy.hk) (ob := Toy.ob) (M := 8000) (loose := Toy.nss) (d := HandSHeadRun.topDef (OpenLaw.row PySem.Challenge.rw_shortgoings_k51_goings_made).prog 39) (kwd := []) Toy.ob_eq
    (by kernel_rfl) (fun s => by kernel_rfl) Toy.run (by kernel_rfl) (by kernel_rfl) (by kernel_rfl) (by rfl) (by first | assumption | decide +kernel) (by decide +kernel) ⟨rfl, rfl, rfl, rfl, rfl, by decide +kernel⟩ ?hw ?hc
  case hw => w_witness2
  case hc =>
    refine L3.walk_end (l := PySem.Challenge.rw_shortgoings_k51_goings_made) (n := 63) (k := 12) (x := "_law_script") rfl (by decide) (by kernel_rfl) (L3.rm_caller.mono (by decide)) ?F
    intro w mg fa h Y G hmg0
    obtain ⟨K, KX, c⟩ := Y
    have hmg : mg ("law" : PySem.Str) = some (.ref fa) := by
      have e : (HandSHeadRun.topDef (OpenLaw.row PySem.Challenge.rw_shortgoings_k51_goings_made).prog 39).name = ("law" : PySem.Str) := by kernel_rfl
      rw [← e]
      exact hmg0
    have T := Toy.env_of KX G c
    have e := hmg.symm.trans T.g_law
    cases e
    obtain ⟨fd, F⟩ := T.f_law
    have b := L2.FunD.bindsA (ps := ["_law_script"]) F fun _ _ _ _ _ _ us hl => match us, hl with | [_], _ => rfl
    exact ⟨K, fd, Toy.sp_law K, KX, fun s v => b s [v] rfl, fun H a ns hl hS => ⟨a, ns, rfl, hS, hl, fun _ => rfl⟩, fun base _ _ => Toy.ok_law T F⟩
