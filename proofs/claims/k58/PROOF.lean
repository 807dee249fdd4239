import PyProof.Rows.All
import Wide.All
import OpenK.AllK
import Wide.FinOn
import PyProof.EqAt
import PyProof.EqKinds
import PyProof.TupleCall
import HandS.ForMost
import HandS.ForExc
import HandS.Defaults
import HandS.MakeKwOnly
import HandS.WideBits
import HandS.IsInst
import HandS.Flow
import HandS.Style
import HandS.Evl
import HandS.StrMore
import HandS.TupAny
import HandS.SortInts
import HandS.RaiseMore
import HandS.Zip
import HandS.Head0
import HandS.Head1
import HandS.Head2
import HandS.HeadEnd
import HandS.HeadHook1
import HandS.HeadHook2
import HandS.Walk
import PyProof.Rows.StrJoinRep
import PyProof.StrLawsLast
import HandS.Codes
import HandS.ExcIs
import KE.KTryMore
import KE.KFmtOwn
import PyProof.InstSpecial
import HandS.TryOnly
import HandS.FStr
import HandS.Conv
import HandS.SetFor
import HandS.Strs
import HandS.OwnEq
import HandS.Deep
import HandS.RaiseFrom
import HandS.SuiteRaise
import HandS.Exc
import KE.GoesMore
import HandS.HotCalls
import HandS.ExcField
import HandS.More
import HandS.SetTxt0
import KE.KExcInit
import HandS.ExcInit
import HandS.ExcValue
import KE.KDictZip
import PySem.Challenge.RW_shortgoings_k58_as_without_a_book
set_option Elab.async false
set_option linter.all false
set_option maxRecDepth 100000
set_option maxHeartbeats 4000000
namespace L3
open PySem PySem.Spec PyProof.Rows L2
structure Rm (k : Nat) (A : Around) : Prop where
  rm : Room k A
  gd : A.guards = some []
theorem Rm.mono {j k : Nat} {A : Around} (r : Rm k A) (h : j ≤ k) : Rm j A := ⟨r.rm.mono h, r.gd⟩
theorem Rm.deeper {k : Nat} {A : Around} (r : Rm (k + 1) A) (env : Env) : Rm k (A.deeper env) := ⟨r.rm.deeper env, r.gd⟩
theorem make_guards {A : Around} {C : Addr} {us : List Value} {kw : List (Str × Value)} : (A.under (.builtin "type.__call__" ⟨.ref C :: us, kw⟩)).guards = A.guards := by
  have e : Code.guards (.builtin "type.__call__" ⟨.ref C :: us, kw⟩) = [] := by
    first | rfl | simp [Code.guards, Code.isGuard, guardIds]
  show pushGuards (Code.guards (.builtin "type.__call__" ⟨.ref C :: us, kw⟩)) A.guards = A.guards
  rw [e]
  cases A.guards <;> rfl
theorem Rm.make {k : Nat} {A : Around} (r : Rm (k + 1) A) (C : Addr) (us : List Value) (kw : List (Str × Value)) : Rm k (A.under (.builtin "type.__call__" ⟨.ref C :: us, kw⟩)) :=
  ⟨r.rm.make C us kw, make_guards.trans r.gd⟩
structure Fb (P : Program) (w : World) (K : PySem.W.Frag) (mg : Str → Option Value) (base : Heap) (k : Nat) (f : Addr) (fd : FuncData) (ps : List Str) (sp : Sp) : Prop where
  len : ∀ vs H Q E, sp vs H Q E → vs.length = ps.length
  run : ∀ (A : Around) (outer : List Env) (s : Shared) (H : Hp) (args : Args) (us : List Value) (vs : List V) (Q : VK) (E : XK), Rm k A → Env0 P w K mg base A outer s H → BindsTo s fd args (ps.zip us) → Vals vs us → sp vs H Q E →
    codeAny (model P w) A (.call (.ref f) args) (CR (L2.CX P w) outer P w H s Q E) s
section
variable {P : Program} {w : World} {K : PySem.W.Frag} {mg : Str → Option Value} {base : Heap} {x qual : Str} {params : Arguments} {body : List Stmt} {scope : Scope} {dvs : List V} {kws : List (Str × V)} {f : Addr} {fd : FuncData} {k : Nat} {ps N : List Str} {sp : Sp}
theorem fb_of (F : FunD K x qual params body scope dvs kws f fd) (S : FnScope N ps scope) (len : ∀ vs H Q E, sp vs H Q E → vs.length = ps.length)
    (hbody : ∀ (cdv : Value) (A : Around) (outer : List Env) (s : Shared) (H : Hp) (vs : List V) (Q : VK) (E : XK), Rm k (A.deeper (envOfC qual scope s.heap.objs.size f cdv)) → sp vs H Q E →
      ∃ t, PSs (cxOf (L2.CX P w) P w K mg base N qual scope f cdv A outer s H E) body t ∧ t { nx := fun _ H' => Q .non H', rt := Q } (start N vs) H) : Fb P w K mg base (k + 1) f fd ps sp := by
  obtain ⟨oc, od, dV, kV, doc, pm, an, cdv, ct, osl, rfl, lk, hcd, _, _⟩ := F.ex
  refine ⟨len, fun A outer s H args us vs Q E hr e0 hb r hsp => ?_⟩
  have hl := len _ _ _ _ hsp
  have KX : K.In s.heap := e0.mod.kin.keeps fun b o e => (e0.bs b o e).1
  have lim : s.heap.NoLimit := e0.mod.nolimit.keeps fun b o e => (e0.bs b o e).1
  have hkind : ∀ y ∈ ps.zip us, scope.names.lookup y.1 = some .local ∨ (scope.names.lookup y.1 = some .cell ∧ ((cellsFrom (s.heap.objs.size + 1) scope.names []).lookup y.1).isSome = true) := fun ⟨n, v⟩ hy => by
    rcases S.par n (List.of_mem_zip hy).1 with q | q
    · exact .inl q
    · exact .inr ⟨q, PySem.W.cellsFrom_some _ _ _ (.inl q)⟩
  refine codeAny_call_function hr.rm.depth (KX _ _ lk) rfl S.co S.gen rfl (PySem.W.codeRec_of KX hcd) (hb _ _ _ _ ?_)
  refine wpAny_newFunctionEnv_cells S.kind hkind fun env he s1 x => ?_
  subst he
  refine ⟨lim.keeps x.toInCall.keep, codeAny_func ?_⟩
  obtain ⟨t, ht, hq⟩ := hbody cdv A outer s H vs Q E (hr.deeper _) hsp
  have I : Inv (cxOf (L2.CX P w) P w K mg base N qual scope f cdv A outer s H E) [] (start N vs) H s1 := inv_start S hr.rm.hd e0 hl r x
  refine wpAny_mono (ht.run [] s1 (start N vs) H _ I hq) (fun fl s' hs => ?_) fun e s' hs => hs
  have fin : ∀ {σ' : L2.St} {H' : Hp} {v : V} {u : Value}, Inv (cxOf (L2.CX P w) P w K mg base N qual scope f cdv A outer s H E) [] σ' H' s' → RelV v u → Q v H' → CE outer P w H s Q u s' :=
    fun {σ' H' v u} J rv q => ⟨v, H', J.os, J.bare, J.base, J.hok, rv, q⟩
  cases fl with
  | ret u =>
    obtain ⟨v, σ', H', J, rv, q⟩ := hs
    exact fin J rv q
  | next =>
    obtain ⟨σ', H', J, q⟩ := hs
    exact fin (v := V.non) (u := Value.none) J rfl q
  | brk =>
    obtain ⟨_, _, _, q⟩ := hs
    exact False.elim q
  | cont =>
    obtain ⟨_, _, _, q⟩ := hs
    exact False.elim q
theorem Fb.mono {j : Nat} (F : Fb P w K mg base j f fd ps sp) (h : j ≤ k) : Fb P w K mg base k f fd ps sp := ⟨F.len, fun A outer s H args us vs Q E hr => F.run A outer s H args us vs Q E (hr.mono h)⟩
theorem Fb.imp {sp' : Sp} (F : Fb P w K mg base k f fd ps sp) (h : ∀ vs H Q E, sp' vs H Q E → sp vs H Q E) : Fb P w K mg base k f fd ps sp' :=
  ⟨fun vs H Q E q => F.len vs H Q E (h _ _ _ _ q), fun A outer s H args us vs Q E hr he hb hv hs => F.run A outer s H args us vs Q E hr he hb hv (h _ _ _ _ hs)⟩
def Fc (P : Program) (w : World) (K : PySem.W.Frag) (mg : Str → Option Value) (base : Heap) (k : Nat) (f : Addr) (ks : List Str) (sp : Sp) : Prop :=
  ∀ (A : Around) (outer : List Env) (s : Shared) (H : Hp) (us ws : List Value) (vs : List V) (Q : VK) (E : XK), Rm k A → Env0 P w K mg base A outer s H → Vals vs (us ++ ws) → ws.length = ks.length → sp vs H Q E →
    codeAny (model P w) A (.call (.ref f) ⟨us, ks.zip ws⟩) (CR (L2.CX P w) outer P w H s Q E) s
theorem Fc.mono {j : Nat} {ks : List Str} (F : Fc P w K mg base j f ks sp) (h : j ≤ k) : Fc P w K mg base k f ks sp := fun A outer s H us ws vs Q E hr => F A outer s H us ws vs Q E (hr.mono h)
theorem Fc.imp {sp' : Sp} {ks : List Str} (F : Fc P w K mg base k f ks sp) (h : ∀ vs H Q E, sp' vs H Q E → sp vs H Q E) : Fc P w K mg base k f ks sp' :=
  fun A outer s H us ws vs Q E hr he hv hl hs => F A outer s H us ws vs Q E hr he hv hl (h _ _ _ _ hs)
/-- every parameter is given by place -/
theorem Fb.all (F : Fb P w K mg base k f fd ps sp) (hb : Binds K fd ps []) : Fc P w K mg base k f [] sp := fun A outer s H us ws vs Q E hr e0 r hl h => by
  cases ws with
  | cons w ws => cases hl
  | nil =>
    rw [List.append_nil] at r
    have KX : K.In s.heap := e0.mod.kin.keeps fun b o e => (e0.bs b o e).1
    have l2 : us.length = ps.length := by rw [← r.length]; exact F.len _ _ _ _ h
    have b := hb s us KX (by rw [List.append_nil]; exact l2)
    rw [List.append_nil] at b
    exact F.run A outer s H ⟨us, []⟩ us vs Q E hr e0 b r h
/-- some by place, some by name, some left out: g puts the given ones and the defaults into the parameters' order -/
theorem Fb.shape (D : FunD K x qual params body scope dvs kws f fd) (F : Fb P w K mg base k f fd ps sp) (n : Nat) (ks : List Str) (g : {α : Type} → List α → List α → List α) (hd : dvs ≠ [])
    (hrel : ∀ {vs ds : List V} {us its : List Value}, Vals vs us → Vals ds its → Vals (g vs ds) (g us its))
    (h : ∀ (T : Addr) (kV doc pm : Value) (an : Option Addr) (cdv ct : Value) (us ws its : List Value), us.length = n → ws.length = ks.length → its.length = dvs.length →
      ∃ k, bindArgs (PySem.W.fnOf x qual params body scope (.ref T) kV doc pm an cdv ct) ⟨us, ks.zip ws⟩ = seqItems? (.ref T) >>= k ∧ k (some its.toArray) = pure (ps.zip (g (us ++ ws) its))) :
    Fc P w K mg base k f ks (fun vs H Q E => vs.length = n + ks.length ∧ sp (g vs dvs) H Q E) := by
  obtain ⟨oc, od, dV, kV, doc, pm, an, cdv, ct, osl, rfl, lk, hcd, hD, hK⟩ := D.ex
  rcases hD with ⟨e, _⟩ | ⟨_, T, o, its, m, rfl, lT, oT, rT⟩
  · exact absurd e hd
  · intro A outer s H us ws vs Q E hr e0 r hl hsp
    have KX : K.In s.heap := e0.mod.kin.keeps fun b o e => (e0.bs b o e).1
    have l1 : its.length = dvs.length := rT.length.symm
    have l2 : us.length = n := by
      have e := r.length
      rw [hsp.1, List.length_append, hl] at e
      omega
    obtain ⟨k, e1, e2⟩ := h T kV doc pm an cdv ct us ws its l2 hl l1
    refine F.run A outer s H ⟨us, ks.zip ws⟩ (g (us ++ ws) its) (g vs dvs) Q E hr e0 (BindsTo.of_looks fun M => ?_) (hrel r rT) hsp.2
    rw [e1]
    exact looks_items KX lT oT (.of_pure e2)
/-- all parameters given, some by name, no defaults -/
theorem Fb.names (D : FunD K x qual params body scope [] kws f fd) (F : Fb P w K mg base k f fd ps sp) (n : Nat) (ks : List Str) (g : {α : Type} → List α → List α)
    (hrel : ∀ {vs : List V} {us : List Value}, Vals vs us → Vals (g vs) (g us))
    (h : ∀ (kV doc pm : Value) (an : Option Addr) (cdv ct : Value) (us ws : List Value), us.length = n → ws.length = ks.length →
      bindArgs (PySem.W.fnOf x qual params body scope .none kV doc pm an cdv ct) ⟨us, ks.zip ws⟩ = pure (ps.zip (g (us ++ ws)))) :
    Fc P w K mg base k f ks (fun vs H Q E => vs.length = n + ks.length ∧ sp (g vs) H Q E) := by
  obtain ⟨oc, od, dV, kV, doc, pm, an, cdv, ct, osl, rfl, lk, hcd, hD, hK⟩ := D.ex
  rcases hD with ⟨_, rfl⟩ | ⟨e, _⟩
  · intro A outer s H us ws vs Q E hr e0 r hl hsp
    have l2 : us.length = n := by
      have e := r.length
      rw [hsp.1, List.length_append, hl] at e
      omega
    exact F.run A outer s H ⟨us, ks.zip ws⟩ (g (us ++ ws)) (g vs) Q E hr e0 (.of_eq (h kV doc pm an cdv ct us ws l2 hl)) (hrel r) hsp.2
  · exact absurd rfl e
end
def tFc (sp : Sp) (W : WX) (t : TA) : TE := fun σ H Q => t σ H fun vs H1 => sp vs H1 Q (WE W σ)
section
variable {X : Cx} {k : Nat} {f C : Addr} {ks : List Str} {sp : Sp} {W : WX} {x m : Str} {p pos apos : Pos} {e o : Expr} {es : List Expr} {kws : List Keyword} {ta : TE} {t tk : TA}
theorem run_fc {pins : List (Addr × Obj)} {σ : L2.St} {H : Hp} {s : Shared} {Q : VK} {us ws : List Value} {vs : List V} (F : Fc X.prog X.w X.K X.mg X.base k f ks sp) (hr : Rm k X.A) (hx : Takes X W)
    (I : Inv X pins σ H s) (r : Vals vs (us ++ ws)) (hl : ws.length = ks.length) (h : sp vs H Q (WE W σ)) : wpAny (model X.prog X.w) X.A (call (.ref f) us (ks.zip ws)) (EP X pins σ Q) X.xe s := by
  refine wpAny_call (codeAny_mono (F X.A X.stack s H us ws vs Q (WE W σ) hr I.env0 r hl h) fun r s' hq => ?_)
  cases r with
  | error e => exact passAt hx σ pins H s e s' I hq
  | ok fl =>
    cases fl with
    | ret u => exact I.after hq
    | next => exact False.elim hq
    | brk => exact False.elim hq
    | cont => exact False.elim hq
/-- f(e, ..) -/
theorem c_call (F : Fc X.prog X.w X.K X.mg X.base k f [] sp) (hr : Rm k X.A) (hm : X.mg x = some (.ref f)) (hk : PySem.W.keepIn X.K (.ref f) = true) (hx : Takes X W)
    (ha : PA X (e :: es) t) (hg : Gl X x := by rfl) (hdb : (x == ("__debug__" : Str)) = false := by decide) (he : starEach (e :: es) X.env = (false, eval e X.env) :: starEach es X.env := by rfl) (hpl : (backTo pos (starEach es X.env)).any (·.1) = false := by rfl) :
    PE X (.Call (.Name x p) (e :: es) [] pos) (tFc sp W t) := by
  refine ⟨fun pins s σ H Q I h => ?_⟩
  refine wpAny_Call_Name_kw (ld_glob I hg hm ?_ hdb)
  refine PySem.W.callWith_K (h₀ := X.base) I.ok.mod.kin hk (thn (ha.run pos pins s σ H _ I h) fun us s1 ⟨vs, H1, I1, r, q⟩ => ⟨I1.kIn, ?_⟩) he hpl
  exact run_fc (ws := []) F hr hx I1 (by rw [List.append_nil]; exact r) rfl q
end
@[irreducible] def rRepr (K : PySem.W.Frag) : List V → Hp → VK → Prop := fun xs H Q => ∃ (a : Addr) (d : PyData), xs = [.ref a] ∧ Dp K H (.ref a) d ∧ d.hasDict = false ∧ d.showable = true ∧ d.depth ≤ 60 ∧ d.shown.length ≤ sizeLine ∧ Q (.str d.shown) H
theorem call_repr {X : Cx} {k : Nat} (hr : Rm k X.A) : CallR X (.builtin "repr") (rRepr X.K) := by
  intro pins s σ H xs us Q I r h
  unfold rRepr at h
  obtain ⟨a, d, rfl, hd, hnd, hs, hdp, hsz, q⟩ := h
  cases r with
  | cons r1 r2 =>
    cases r2
    obtain ⟨as, rd⟩ := Dp.reads I d (.ref a) _ hd r1
    obtain rfl : _ = Value.ref a := r1
    refine repr_of_reads' rd hs (PyData.noDict_hsm hnd) hr.gd (by have := hr.rm.un; omega) (fun _ _ e => e) (fun h' u tk hk => ?_) hsz
    exact ⟨.str d.shown, H, I.kept hk, ⟨u, rfl⟩, q⟩
theorem rm_caller : Rm 230 callerA := ⟨⟨rfl, by decide, by decide⟩, rfl⟩
section
variable {P : Program} {w : World} {K : PySem.W.Frag} {mg mb : Str → Option Value} {k : Nat} {fa a : Addr} {fd : FuncData} {x : Str} {sp : Sp} {s₁ : Shared} {vs : List Value} {ns : List Int}
/-- the law's call over one abstract heap, in which at most the script is tracked -/
theorem law_core (H : Hp) (KX : K.In s₁.heap) (hns : s₁.heap.Ns mainGlobals mg) (hb : s₁.heap.Ns builtinsNs mb) (hbb : ∀ x : Str, x ≠ "__name__" → mb x = bootBuiltins x) (hlim : s₁.heap.NoLimit) (hg : s₁.gens = #[])
    (ha : s₁.heap.get? a = some { cls := .type "list", data := .seq vs.toArray }) (hr : Rm k callerA)
    (F : ∀ base : Heap, K.In base → base.Ns mainGlobals mg → Fb P w K mg base k fa fd [x] sp) (hbind : ∀ (s : Shared) (u : Value), BindsTo s fd ⟨[u], []⟩ [(x, u)])
    (hO : Only H) (hsp : sp [.ref a] H (fun v _ => v = .bl true) fun _ _ _ => False) (hok : HOk P w H s₁.heap) (hA : ∀ b, H b ≠ none → b = a) (hK : H a ≠ none → K.lookup a = none) :
    codeAny (model P w) callerA (.call (.ref fa) ⟨[.ref a], []⟩) (fun r s' => r = .ok (.ret (.bool true)) ∧ OldK s₁.heap s'.heap ∧ s'.os = s₁.os ∧ AllBare s'.gens) s₁ := by
  have isA : ∀ {b : Addr} {u : HO}, H b = some u → b = a := fun {b u} q => hA b (fun z => nomatch (q.symm.trans z))
  have free : ∀ {b : Addr} {o : Obj} {es : Array DictEntry} {ep : Nat}, s₁.heap.get? b = some o → o.data = .dict es ep → H b = none := fun {b o es ep} e d => by
    cases q : H b with
    | none => rfl
    | some u =>
      have eb := isA q
      subst eb
      rw [ha] at e
      cases e
      cases (show Data.seq vs.toArray _ = Data.dict es ep from d)
  have nsK : ∀ {b : Addr} {m : Str → Option Value}, s₁.heap.Ns b m → (hidT s₁.heap H).Ns b m := fun {b m} ⟨o, es, ep, e, d, r⟩ => ⟨o, es, ep, hidT_get e (free e d), d, r⟩
  have inK : K.In (hidT s₁.heap H) := fun b o e => hidT_get (KX b o e) (by
    cases q : H b with
    | none => rfl
    | some u =>
      have eb := isA q
      subst eb
      rw [hK (fun z => nomatch (q.symm.trans z))] at e
      cases e)
  have hM : Mod K mg (hidT s₁.heap H) := ⟨inK, nsK hns, ⟨mb, nsK hb, hbb⟩, let ⟨mc, h1, h2⟩ := hlim; ⟨mc, nsK h1, h2⟩⟩
  have e0 : Env0 P w K mg (hidT s₁.heap H) callerA [] s₁ H := ⟨rfl, hM, fun b o e => of_hidT e, Nat.le_of_eq (hidT_size _ _), trivial, (fun b z => nomatch (show b ∈ ([] : List Addr) from z)), hok, .of_eq hg⟩
  refine codeAny_mono ((F _ inK (nsK hns)).run callerA [] s₁ H ⟨[.ref a], []⟩ [.ref a] [.ref a] _ _ hr e0 (hbind s₁ (.ref a)) (.cons rfl .nil) hsp) fun r s' h => ?_
  cases r with
  | error e =>
    obtain ⟨_, _, _, _, _, _, _, _, _, _, _, _, z⟩ := h
    exact z.elim
  | ok fl =>
    cases fl with
    | next => exact h.elim
    | brk => exact h.elim
    | cont => exact h.elim
    | ret u =>
      obtain ⟨v, H', os, bare, un, hok2, rv, rfl⟩ := h
      obtain rfl : u = Value.bool true := rv
      refine ⟨rfl, OldK.of_keep fun b o e => ?_, os, bare⟩
      cases q : H b with
      | none => exact un.keep b o e q (fun z => nomatch (show b ∈ ([] : List Addr) from z)) (fun z => nomatch z)
      | some u =>
        rcases hO b with z | ⟨ob, xs, z⟩
        · exact nomatch (q.symm.trans z)
        · have e1 := (hok b _ z).1
          have e2 := (hok2 b _ (un.frzs b ob _ z)).1
          rw [e] at e1
          cases e1
          exact e2
theorem law_end (KX : K.In s₁.heap) (hns : s₁.heap.Ns mainGlobals mg) (hb : s₁.heap.Ns builtinsNs mb) (hbb : ∀ x : Str, x ≠ "__name__" → mb x = bootBuiltins x) (hlim : s₁.heap.NoLimit) (hg : s₁.gens = #[])
    (ha : s₁.heap.get? a = some { cls := .type "list", data := .seq vs.toArray }) (hi : IntsAre vs ns) (hl : ns.length ≤ sizeLine) (hr : Rm k callerA)
    (F : ∀ base : Heap, K.In base → base.Ns mainGlobals mg → Fb P w K mg base k fa fd [x] sp) (hbind : ∀ (s : Shared) (u : Value), BindsTo s fd ⟨[u], []⟩ [(x, u)])
    (hsp : ∀ H : Hp, SqL K H a (ns.map V.int) → sp [.ref a] H (fun v _ => v = .bl true) fun _ _ _ => False) :
    codeAny (model P w) callerA (.call (.ref fa) ⟨[.ref a], []⟩) (fun r s' => r = .ok (.ret (.bool true)) ∧ OldK s₁.heap s'.heap ∧ s'.os = s₁.os ∧ AllBare s'.gens) s₁ := by
  have rv := vals_ints hi
  cases hk : K.lookup a with
  | some o =>
    have e := KX a o hk
    rw [ha] at e
    cases e
    have sq : SqL K (fun _ => none) a (ns.map V.int) := .inr ⟨_, vs.toArray, _, hk, rfl, rfl, rfl, by rw [List.size_toArray, hi.length]; exact hl, by simpa using rv⟩
    exact law_core (fun _ => none) KX hns hb hbb hlim hg ha hr F hbind (fun _ => .inl rfl) (hsp _ sq) (fun b u z => nomatch (show (none : Option HO) = some u from z)) (fun b z => absurd rfl z) fun z => absurd rfl z
  | none =>
    have h1 : ∀ b, b ≠ a → (upd (fun _ => none) a (.frz { cls := .type "list", data := .seq vs.toArray } (.lst (ns.map V.int)))) b = none := fun b n => upd_ne n
    refine law_core (upd (fun _ => none) a (.frz { cls := .type "list", data := .seq vs.toArray } (.lst (ns.map V.int)))) KX hns hb hbb hlim hg ha hr F hbind (fun b => ?_) (hsp _ (.inl (.inr ⟨_, upd_same⟩))) (fun b u z => ?_) (fun b z => ?_) fun _ => hk
    · by_cases n : b = a
      · subst n
        exact .inr ⟨_, _, upd_same⟩
      · exact .inl (h1 b n)
    · by_cases n : b = a
      · subst n
        rw [upd_same] at z
        cases z
        exact ⟨ha, by rw [List.length_map]; exact hl, vs, _, rv, ha⟩
      · rw [h1 b n] at z
        cases z
    · by_cases n : b = a
      · exact n
      · exact absurd (h1 b n) z
end
theorem walk_end {l : PySem.W.OpenLaw} {n k : Nat} {q : Program} {loose : List Str} {XP : (Str → Option Value) → Heap → Prop} {YP : World → Heap → Prop} {d : DefRec} {x : Str}
    (hn : l.most = some n) (hn2 : n ≤ sizeLine) (hdf : d.params.defaults = []) (hr : Rm k callerA)
    (F : ∀ (w : World) (mg : Str → Option Value) (fa : Addr) (h : Heap), YP w h → h.Ns mainGlobals mg → mg d.name = some (.ref fa) →
      ∃ (K : PySem.W.Frag) (fd : FuncData) (sp : Sp), K.In h ∧ (∀ (s : Shared) (u : Value), BindsTo s fd ⟨[u], []⟩ [(x, u)]) ∧
        (∀ (H : Hp) (a : Addr) (ns : List Int), ns.length ≤ n → SqL K H a (ns.map V.int) → sp [.ref a] H (fun v _ => v = .bl true) fun _ _ _ => False) ∧
        ∀ base : Heap, K.In base → base.Ns mainGlobals mg → Fb l.prog w K mg base k fa fd [x] sp) :
    PySem.W.WalkO q loose XP YP l.row.toRowW d [] (fun f vs => PySem.call f vs) := by
  refine Att.attach_call hn hdf fun w s₀ s₁ mg mb fa o pm cd doc a vs ns G Y ho hd hcd hmg hobj hints hlen hg => ?_
  obtain ⟨K, fd, sp, KX, hb, hsp, hF⟩ := F w mg fa _ Y G.T.g hmg
  exact law_end KX G.T.g G.T.b G.T.builtins G.T.nolimit hg hobj hints (Nat.le_trans hlen hn2) hr hF hb (fun H hS => hsp H a ns hlen hS)
end L3
set_option Elab.async false
set_option linter.all false
set_option maxRecDepth 100000
set_option maxHeartbeats 4000000
namespace L3
open PySem PySem.Spec PyProof.Rows L2
abbrev Fx := PySem.W.Frag → Bool
def obsX (xf : List Fx) (fn : List He.DefD) (K : PySem.W.Frag) : He.AlD := ((xf.all fun p => p K) && fn.all fun d => d.ok K, fn.map fun d => He.fnW K d.at_)
def SaysX (xf : List Fx) (fn : List He.DefD) (K : PySem.W.Frag) : Prop := obsX xf fn K = He.valD fn
section
variable {xf : List Fx} {fn : List He.DefD} {K : PySem.W.Frag}
theorem SaysX.fact (c : SaysX xf fn K) (i : Nat) {f : Fx} (h : xf[i]? = some f := by rfl) : f K = true := by
  have c1 := (He.ba (show ((xf.all fun f => f K) && fn.all fun d => d.ok K) = true from congrArg (fun z : He.AlD => z.1) c)).1
  exact List.all_eq_true.mp c1 f (List.mem_of_getElem? h)
theorem SaysX.def_ (c : SaysX xf fn K) (i : Nat) {d : He.DefD} (h : fn[i]? = some d := by rfl) : ∃ fd, FunD K d.name d.qual d.params d.body d.scope (d.dvs K) (d.kws K) (He.fAd K d.at_) fd := by
  have c2 := (He.ba (show ((xf.all fun f => f K) && fn.all fun d => d.ok K) = true from congrArg (fun z : He.AlD => z.1) c)).2
  have e : fn.map (fun d => He.fnW K d.at_) = fn.map He.DefD.val := congrArg (fun z : He.AlD => z.2) c
  have e2 : (fn.map fun d => He.fnW K d.at_)[i]? = (fn.map He.DefD.val)[i]? := by rw [e]
  rw [List.getElem?_map, List.getElem?_map, h] at e2
  exact He.DefD.funD (Option.some.inj e2) (List.all_eq_true.mp c2 d (List.mem_of_getElem? h))
end
structure Exo (K : PySem.W.Frag) (C : Addr) (bmB : List Value) (newId : String) : Prop where
  x : PySem.W.excIn K C bmB newId = true
  kp : PySem.W.keepIn K (.ref C) = true
  sub : PySem.W.subIn K (.ref C) (.type "BaseException") = some true
  ty : PySem.W.typeIn K (.ref C) = some (.type "type")
abbrev bmV : List Value := [.type "ValueError", .type "Exception", .type "BaseException", .type "object"]
abbrev bmL : List Value := [.type "LookupError", .type "Exception", .type "BaseException", .type "object"]
def exoB (bmB : List Value) (newId : String) (x : Str) : Fx := fun K => PySem.W.excIn K (He.ga K x) bmB newId && (PySem.W.keepIn K (.ref (He.ga K x)) && (decide (PySem.W.subIn K (.ref (He.ga K x)) (.type "BaseException") = some true) && decide (PySem.W.typeIn K (.ref (He.ga K x)) = some (.type "type"))))
theorem exo_of {bmB : List Value} {newId : String} {x : Str} {K : PySem.W.Frag} (h : exoB bmB newId x K = true) : Exo K (He.ga K x) bmB newId := by
  obtain ⟨h1, h⟩ := He.ba h
  obtain ⟨h2, h⟩ := He.ba h
  obtain ⟨h3, h4⟩ := He.ba h
  exact ⟨h1, h2, of_decide_eq_true h3, of_decide_eq_true h4⟩
section
variable {K : PySem.W.Frag} {h : Heap} {mg : Str → Option Value}
theorem gint_of (X : K.In h) (G : h.Ns mainGlobals mg) {x : Str} {i : Int} (c : (He.Fa.int x i).ok K = true) : ∃ u, mg x = some u ∧ RelV (.int i) u := by
  obtain ⟨t, e⟩ := He.int_ok X G c
  exact ⟨_, e, ⟨t, rfl⟩⟩
theorem gstr_of (X : K.In h) (G : h.Ns mainGlobals mg) {x z : Str} (c : (He.Fa.str x z).ok K = true) : ∃ u, mg x = some u ∧ RelV (.str z) u := by
  obtain ⟨t, e⟩ := He.str_ok X G c
  exact ⟨_, e, ⟨t, rfl⟩⟩
end
/-- a module's constant -/
theorem pe_k {X : Cx} {x : Str} {v : V} {pos : Pos} (h : ∃ u, X.mg x = some u ∧ RelV v u) (hg : Gl X x := by rfl) (hdb : (x == ("__debug__" : Str)) = false := by decide) : PE X (.Name x pos) (tC v) := by
  obtain ⟨u, e, r⟩ := h
  exact pe_glob hg e r hdb
end L3
set_option Elab.async false
set_option linter.all false
set_option maxRecDepth 100000
set_option maxHeartbeats 4000000
namespace L3
open PySem PySem.Spec PyProof.Rows L2
abbrev Ex (H H' : Hp) : Prop := Same H H'
theorem ex_new {H : Hp} {p : Addr} {o : HO} (h : H p = none) : Ex H (upd H p o) := fun a u e => by
  rw [upd_ne (ne_of_none e h)]
  exact e
/-- an object that H does not know may change -/
theorem ex_mut {H H' : Hp} {p : Addr} {o : HO} (e : Ex H H') (h : H p = none) : Ex H (upd H' p o) := fun a u ha => by
  rw [upd_ne (ne_of_none ha h)]
  exact e a u ha
theorem ex_sql {K : PySem.W.Frag} {H H' : Hp} {a : Addr} {xs : List V} (e : Ex H H') (h : SqL K H a xs) : SqL K H' a xs := Same.seq e h
theorem ex_sqt {K : PySem.W.Frag} {H H' : Hp} {a : Addr} {xs : List V} (e : Ex H H') (h : SqT K H a xs) : SqT K H' a xs := by
  rcases h with (h | ⟨o, h⟩) | h
  · exact .inl (.inl (e _ _ h))
  · exact .inl (.inr ⟨o, e _ _ h⟩)
  · exact .inr h
theorem ex_fresh {H H' : Hp} {p : Addr} (e : Ex H H') (h : H' p = none) : H p = none := Same.free e h
theorem sq_lst {K : PySem.W.Frag} {H : Hp} {a : Addr} {xs : List V} (h : H a = some (.lst xs)) : SqL K H a xs := .inl (.inl h)
theorem sq_tup {K : PySem.W.Frag} {H : Hp} {a : Addr} {xs : List V} (h : H a = some (.tup xs)) : SqT K H a xs := .inl (.inl h)
/-- a value of a known type -/
def isW : V → Bool
  | .int _ => true
  | _ => false
def isM : V → Bool
  | .int i => decide (0 ≤ i)
  | _ => false
def Cl (K : PySem.W.Frag) (H : Hp) (x : V) : Prop := ∃ t b c, TyX K H x t ∧ PySem.W.kitOne K t (.type "int") = some b ∧ PySem.W.kitOne K t (.type "bool") = some c ∧ isW x = (b && !c)
section
variable {K : PySem.W.Frag} {H : Hp}
theorem cl_int (i : Int) : Cl K H (.int i) := ⟨_, true, false, .base (.int i), kit_ty (by decide +kernel), kit_ty (by decide +kernel), rfl⟩
theorem cl_bl (b : Bool) : Cl K H (.bl b) := ⟨_, true, true, .base (.bl b), kit_ty (by decide +kernel), kit_ty (by decide +kernel), rfl⟩
theorem cl_non : Cl K H .non := ⟨_, false, false, .base .non, kit_ty (by decide +kernel), kit_ty (by decide +kernel), rfl⟩
theorem cl_str (z : Str) : Cl K H (.str z) := ⟨_, false, false, .base (.str z), kit_ty (by decide +kernel), kit_ty (by decide +kernel), rfl⟩
end
theorem isM_w {x : V} (h : isM x = true) : ∃ i, x = .int i ∧ 0 ≤ i := by
  cases x with
  | int i => exact ⟨i, rfl, of_decide_eq_true h⟩
  | _ => cases h
/-- given values and defaults in the parameters' order -/
def pick {α : Type} (ix : List (Sum Nat Nat)) (us its : List α) : List α := ix.filterMap fun j => match j with
  | .inl i => us[i]?
  | .inr i => its[i]?
theorem pick_vals {vs ds : List V} {us its : List Value} (ix : List (Sum Nat Nat)) (r1 : Vals vs us) (r2 : Vals ds its) : Vals (pick ix vs ds) (pick ix us its) := by
  have one : ∀ {vs : List V} {us : List Value} (i : Nat), Vals vs us → (∃ v u, vs[i]? = some v ∧ us[i]? = some u ∧ RelV v u) ∨ (vs[i]? = none ∧ us[i]? = none) := fun {vs us} i r => by
    cases e : vs[i]? with
    | none => exact .inr ⟨rfl, r.none_of e⟩
    | some v =>
      obtain ⟨u, h1, h2⟩ := r.get e
      exact .inl ⟨v, u, rfl, h1, h2⟩
  induction ix with
  | nil => exact .nil
  | cons j ix ih =>
    unfold pick at ih ⊢
    cases j with
    | inl i =>
      rcases one i r1 with ⟨v, u, h1, h2, h3⟩ | ⟨h1, h2⟩
      · simp only [List.filterMap_cons, h1, h2]
        exact .cons h3 ih
      · simp only [List.filterMap_cons, h1, h2]
        exact ih
    | inr i =>
      rcases one i r2 with ⟨v, u, h1, h2, h3⟩ | ⟨h1, h2⟩
      · simp only [List.filterMap_cons, h1, h2]
        exact .cons h3 ih
      · simp only [List.filterMap_cons, h1, h2]
        exact ih
end L3
namespace L3
open PySem PySem.Spec PyProof.Rows L2
theorem log_of {n : Nat} (h : n < 10 ^ 200) : n.log2 < 1920 := PySem.Flt.log2_lt_of (by decide) (Nat.lt_trans h (by decide +kernel))
/-- data that repr shows, without dicts: whole numbers of at most 500 figures, texts of any signs -/
def okI (i : Int) : Bool := decide (i.natAbs < 10 ^ 200)
def okT (x : Str) : Bool := x.cps.toList.all fun c => decide (c < 16 ^ 8)
mutual
def okD : PyData → Bool
  | .none => true
  | .bool _ => true
  | .int i => okI i
  | .str x => okT x
  | .list xs => okL xs
  | .tuple xs => okL xs
  | .dict _ => false
def okL : List PyData → Bool
  | [] => true
  | x :: xs => okD x && okL xs
end
mutual
def szD : PyData → Nat
  | .none => 4
  | .bool _ => 5
  | .int _ => 1921
  | .str x => 10 * x.length + 2
  | .list xs => szL xs + 3
  | .tuple xs => szL xs + 3
  | .dict _ => 0
def szL : List PyData → Nat
  | [] => 0
  | x :: xs => szD x + 2 + szL xs
end
mutual
theorem okD_tells : ∀ d : PyData, okD d = true → d.hasDict = false ∧ d.showable = true ∧ d.shown.length ≤ szD d
  | .none, _ => ⟨rfl, rfl, Nat.le_refl _⟩
  | .bool b, _ => ⟨rfl, rfl, by cases b <;> decide⟩
  | .int i, h => by
    have h1 : i.natAbs < 10 ^ 200 := of_decide_eq_true (show decide (i.natAbs < 10 ^ 200) = true from h)
    exact ⟨rfl, decide_eq_true (log_of h1), int_text_len_1921 (log_of h1)⟩
  | .str x, h => by
    have h1 : ∀ c ∈ x.cps.toList, c < 16 ^ 8 := fun c hc => of_decide_eq_true (List.all_eq_true.mp h c hc)
    exact ⟨rfl, rfl, StrLaws.reprText_len x h1⟩
  | .list xs, h => by
    obtain ⟨h1, h2, h3⟩ := okL_tells xs h
    refine ⟨h1, h2, Nat.le_trans (listText_len_le (PyData.shownAll xs)) ?_⟩
    have e := PyData.shownAll_length xs
    show _ ≤ szL xs + 3
    omega
  | .tuple xs, h => by
    obtain ⟨h1, h2, h3⟩ := okL_tells xs h
    refine ⟨h1, h2, Nat.le_trans (tupleText_len_le (PyData.shownAll xs)) ?_⟩
    have e := PyData.shownAll_length xs
    show _ ≤ szL xs + 3
    omega
  | .dict _, h => by cases h
theorem okL_tells : ∀ xs : List PyData, okL xs = true → PyData.hasDictAll xs = false ∧ PyData.showableAll xs = true ∧ ((PyData.shownAll xs).map (·.length)).sum + 2 * xs.length ≤ szL xs
  | [], _ => ⟨rfl, rfl, Nat.le_refl _⟩
  | x :: xs, h => by
    obtain ⟨g1, g2⟩ := He.ba (show (okD x && okL xs) = true from h)
    obtain ⟨h1, h2, h3⟩ := okD_tells x g1
    obtain ⟨k1, k2, k3⟩ := okL_tells xs g2
    refine ⟨?_, ?_, ?_⟩
    · show (x.hasDict || PyData.hasDictAll xs) = false
      rw [h1, k1]
      rfl
    · show (x.showable && PyData.showableAll xs) = true
      rw [h2, k2]
      rfl
    · show (x.shown.length + ((PyData.shownAll xs).map (·.length)).sum) + 2 * (xs.length + 1) ≤ szD x + 2 + szL xs
      omega
end
/-- repr of a list, a tuple -/
theorem rr_data {K : PySem.W.Frag} {H : Hp} {a : Addr} {d : PyData} {Q : VK} (h : Dp K H (.ref a) d) (ho : okD d = true) (hz : szD d ≤ 16000000) (hd : d.depth ≤ 60) (q : Q (.str d.shown) H) : rRepr K [.ref a] H Q := by
  obtain ⟨h1, h2, h3⟩ := okD_tells d ho
  unfold rRepr
  exact ⟨a, d, rfl, h, h1, h2, hd, Nat.le_trans h3 (Nat.le_trans hz (by rw [sizeLine_eq]; decide)), q⟩
end L3
namespace L3
open PySem PySem.Spec PyProof.Rows L2
section
variable {K : PySem.W.Frag} {a : Addr} {xs : List V} {g : TG} {tt : TT} {te : TE} {vs : List Nat} {σ : L2.St} {H1 : Hp} {D : Addr} {Qd : Hp → Prop}
theorem rep_snoc (n : Nat) : (List.replicate n true).map V.bl ++ [V.bl true] = (List.replicate (n + 1) true).map V.bl := by
  rw [List.replicate_succ', List.map_append]
  rfl
theorem small_len {n : Nat} (h : n ≤ 100000) : n < sizeLine := Nat.lt_of_le_of_lt h (by rw [sizeLine_eq]; decide)
abbrev Turn (g : TG) (tt : TT) (te : TE) (vs : List Nat) (σ : L2.St) (D : Addr) (x : V) (H : Hp) (N : Hp → Prop) : Prop :=
  g x (wipe σ vs) H fun σ2 H2 => wipe σ2 vs = wipe σ vs ∧ tt σ2 H2 fun b H3 => if b = true then te σ2 H3 fun y H4 => ∃ acc, H4 D = some (.lst acc) ∧ acc.length < sizeLine ∧ N (upd H4 D (.lst (acc ++ [y]))) else N H3
theorem lc_true_list (I : Hp → Prop) (hI : ∀ H l, I H → I (upd H D (.lst l))) (i0 : I H1) (hx : xs.length ≤ 100000) (hl : ∀ H, I H → SqL K H a xs)
    (hs : ∀ (i : Nat) (x : V) (H : Hp) (acc : List V) (N : Hp → Prop), xs[i]? = some x → I H → H D = some (.lst acc) → acc.length < sizeLine → (∀ H4, I H4 → H4 D = some (.lst acc) → N (upd H4 D (.lst (acc ++ [.bl true])))) → Turn g tt te vs σ D x H N)
    (hd : ∀ H, I H → H D = some (.lst ((List.replicate xs.length true).map V.bl)) → Qd H) :
    ∃ W : Nat → Nat → Hp → Prop, (∃ m, W 0 m (upd H1 D (.lst []))) ∧ ∀ i m H, W i m H →
      ((Itl K a).stop i H ∧ Qd H) ∨ ((Itl K a).go i H ∧ ∃ Nx : Hp → Prop, (∀ H', Nx H' → ∃ m', m' < m ∧ W (i + 1) m' H') ∧ ∀ x H', (Itl K a).yld i H x H' → Turn g tt te vs σ D x H' Nx) := by
  refine lc_list (fun i H => I H ∧ i ≤ xs.length ∧ H D = some (.lst ((List.replicate i true).map V.bl))) ⟨hI _ _ i0, Nat.zero_le _, upd_same⟩ (fun i H _ p => hl H p.1) ?_ (fun H p => hd H p.1 p.2.2)
  rintro i x H hi ⟨p1, p2, p3⟩
  have lt : i < xs.length := (List.getElem?_eq_some_iff.mp hi).1
  refine hs i x H _ _ hi p1 p3 ?_ fun H4 i4 d4 => ⟨hI _ _ i4, lt, by rw [upd_same, rep_snoc]⟩
  rw [List.length_map, List.length_replicate]
  exact small_len (by omega)
theorem all_rep (n : Nat) : (List.replicate n true).all id = true := by
  rw [List.all_eq_true]
  intro b hb
  exact (List.eq_of_mem_replicate hb)
end
end L3
namespace L3
open PySem PySem.Spec PyProof.Rows L2
end L3
set_option Elab.async false
set_option linter.all false
set_option maxRecDepth 100000
set_option maxHeartbeats 4000000
namespace L3
open PySem PySem.Spec PyProof.Rows L2 TL
section
variable {J : It} {n : Nat} {G : Hp → Prop} {Y : Nat → Hp → V → Hp → Prop} {g : TG} {tt : TT} {te : TE} {vs : List Nat} {σ : L2.St} {H1 : Hp} {D : Addr} {Qd : Hp → Prop}
theorem range_fm_succ (fm : Nat → Option V) (i : Nat) : (List.range (i + 1)).filterMap fm = match fm i with
    | some y => (List.range i).filterMap fm ++ [y]
    | none => (List.range i).filterMap fm := by
  rw [List.range_succ, List.filterMap_append]
  cases e : fm i with
  | none => simp [e]
  | some y => simp [e]
theorem fm_len (fm : Nat → Option V) (i : Nat) : ((List.range i).filterMap fm).length ≤ i := by
  have := List.length_filterMap_le fm (List.range i)
  rwa [List.length_range] at this
theorem lc_fm (w : L2.Walk J n G Y) (fm : Nat → Option V) (I : Hp → Prop) (hI : ∀ H l, I H → I (upd H D (.lst l))) (i0 : I H1) (hn : n ≤ 100000) (hG : ∀ H, I H → G H)
    (hs : ∀ (i : Nat) (x : V) (H H' : Hp) (acc : List V) (N : Hp → Prop), i < n → I H → H D = some (.lst acc) → acc.length < sizeLine → Y i H x H' →
      (∀ H4, I H4 → H4 D = some (.lst acc) → match fm i with | some y => N (upd H4 D (.lst (acc ++ [y]))) | none => N H4) → Turn g tt te vs σ D x H' N)
    (hd : ∀ H, I H → H D = some (.lst ((List.range n).filterMap fm)) → Qd H) :
    ∃ W : Nat → Nat → Hp → Prop, (∃ m, W 0 m (upd H1 D (.lst []))) ∧ ∀ i m H, W i m H →
      (J.stop i H ∧ Qd H) ∨ (J.go i H ∧ ∃ Nx : Hp → Prop, (∀ H', Nx H' → ∃ m', m' < m ∧ W (i + 1) m' H') ∧ ∀ x H', J.yld i H x H' → Turn g tt te vs σ D x H' Nx) := by
  refine L2.lc_it w (fun i H => I H ∧ i ≤ n ∧ H D = some (.lst ((List.range i).filterMap fm))) ⟨hI _ _ i0, Nat.zero_le _, upd_same⟩ (fun i H _ p => hG H p.1) ?_ (fun H p => hd H p.1 p.2.2)
  rintro i x H H' hi ⟨p1, p2, p3⟩ y
  refine hs i x H H' _ _ hi p1 p3 (small_len (Nat.le_trans (fm_len fm i) (by omega))) y fun H4 i4 d4 => ?_
  have e := range_fm_succ fm i
  cases q : fm i with
  | none =>
    rw [q] at e
    exact ⟨i4, hi, by rw [e]; exact d4⟩
  | some y =>
    rw [q] at e
    exact ⟨hI _ _ i4, hi, by rw [upd_same, e]⟩
end
theorem range_map_get {α β : Type} (l : List α) (d : α) (f : α → β) : (List.range l.length).filterMap (fun i => some (f (l.getD i d))) = l.map f := by
  apply List.ext_getElem?
  intro i
  rw [List.filterMap_eq_map' (f := fun i => f (l.getD i d))]
  rw [List.getElem?_map, List.getElem?_map]
  by_cases h : i < l.length
  · rw [List.getElem?_range h, List.getElem?_eq_getElem h]
    simp [List.getD_eq_getElem?_getD, h]
  · rw [List.getElem?_eq_none (by simpa using h), List.getElem?_eq_none (by simpa using h)]
    rfl
end L3
set_option Elab.async false
set_option linter.all false
set_option maxRecDepth 100000
set_option maxHeartbeats 4000000
namespace Mo
open PySem TL
def val (l : List Nat) : Nat := NumText.digitsVal l
end Mo
set_option Elab.async false
set_option linter.all false
set_option maxRecDepth 100000
set_option maxHeartbeats 4000000
namespace L3
open PySem PySem.Spec PyProof.Rows L2
def excCB (x : Str) : Fx := fun K => He.eqO (PySem.W.findIn K (.ref (He.ga K x)) "__getattribute__") (some (some (.builtin "BaseException.__getattribute__"))) && (He.eqO (PySem.W.findIn K (.ref (He.ga K x)) "__getattr__") (some none) && (decide (PySem.W.subIn K (.ref (He.ga K x)) (.type "BaseException") = some true) && (PySem.W.hasDictIn K (He.ga K x) &&
  (He.eqO (PySem.W.findIn K (.ref (He.ga K x)) "__class__") (some (some (.builtin "object.__class__"))) && (He.eqO (PySem.W.specialIn K (.builtin "object.__class__") "__get__") (some (some (.builtin "getset_descriptor.__get__"))) && (decide (PySem.W.takesIn K (.builtin "object.__class__") = some true) && decide (PySem.W.mroIn K (He.ga K x) (.type "object") = some true)))))))
theorem excC_of {x : Str} {K : PySem.W.Frag} (h : excCB x K = true) : ExcC K (He.ga K x) := by
  obtain ⟨h1, h⟩ := He.ba h
  obtain ⟨h2, h⟩ := He.ba h
  obtain ⟨h3, h⟩ := He.ba h
  obtain ⟨h4, h⟩ := He.ba h
  obtain ⟨h5, h⟩ := He.ba h
  obtain ⟨h6, h⟩ := He.ba h
  obtain ⟨h7, h8⟩ := He.ba h
  exact ⟨He.eqO_ok h1, He.eqO_ok h2, of_decide_eq_true h3, h4, He.eqO_ok h5, He.eqO_ok h6, of_decide_eq_true h7, of_decide_eq_true h8⟩
def kitF (x y : Str) (b : Bool) : Fx := fun K => decide (PySem.W.kitOne K (.ref (He.ga K x)) (.ref (He.ga K y)) = some b)
def kitFT (x : Str) (y : String) (b : Bool) : Fx := fun K => decide (PySem.W.kitOne K (.ref (He.ga K x)) (.type y) = some b)
end L3
set_option Elab.async false
set_option linter.all false
set_option maxRecDepth 100000
set_option maxHeartbeats 4000000
namespace L3
open PySem PySem.Spec PyProof.Rows L2
def keyD : Key → PyData
  | .inl i => .int i
  | .inr x => .str x
def zipK : List (Key × V) → List PyData → List (PyData × PyData)
  | (k, _) :: r, d :: ds => (keyD k, d) :: zipK r ds
  | _, _ => []
inductive Dq (K : PySem.W.Frag) (H : Hp) : V → PyData → Prop
  | non : Dq K H .non .none
  | bl (b : Bool) : Dq K H (.bl b) (.bool b)
  | int (i : Int) : Dq K H (.int i) (.int i)
  | str (x : Str) : Dq K H (.str x) (.str x)
  | lst {a : Addr} {xs : List V} {ds : List PyData} : SqL K H a xs → xs.length = ds.length → (∀ (i : Nat) (x : V) (d : PyData), xs[i]? = some x → ds[i]? = some d → Dq K H x d) → Dq K H (.ref a) (.list ds)
  | tup {a : Addr} {xs : List V} {ds : List PyData} : SqT K H a xs → xs.length = ds.length → (∀ (i : Nat) (x : V) (d : PyData), xs[i]? = some x → ds[i]? = some d → Dq K H x d) → Dq K H (.ref a) (.tuple ds)
  | dct {a : Addr} {kvs : List (Key × V)} {ds : List PyData} : H a = some (.dK kvs) → kvs.length = ds.length → (∀ (i : Nat) (k : Key) (x : V) (d : PyData), kvs[i]? = some (k, x) → ds[i]? = some d → Dq K H x d) → Dq K H (.ref a) (.dict (zipK kvs ds))
theorem Dq.mono {K : PySem.W.Frag} {H H' : Hp} {x : V} {d : PyData} (e : Ex H H') (h : Dq K H x d) : Dq K H' x d := by
  induction h with
  | non => exact .non
  | bl b => exact .bl b
  | int i => exact .int i
  | str x => exact .str x
  | lst s l _ ih => exact .lst (ex_sql e s) l ih
  | tup s l _ ih => exact .tup (ex_sqt e s) l ih
  | dct s l _ ih => exact .dct (e _ _ s) l ih
theorem all_reads {h : Heap} : ∀ (xs : List V) (ds : List PyData) (us : List Value), xs.length = ds.length → Vals xs us → (∀ (i : Nat) (x : V) (d : PyData), xs[i]? = some x → ds[i]? = some d → ∀ u, RelV x u → ∃ as, Reads h u d as ∧ sysModules ∉ as) → ∃ as, ReadsAll h us ds as ∧ sysModules ∉ as
  | [], [], _, _, r, _ => by
    cases r
    exact ⟨_, .nil, by simp⟩
  | x :: xs, d :: ds, _, l, r, h => by
    cases r with
    | cons r1 r2 =>
      obtain ⟨as, q1, n1⟩ := h 0 x d rfl rfl _ r1
      obtain ⟨bs, q2, n2⟩ := all_reads xs ds _ (by simpa using l) r2 fun i y e h1 h2 => h (i + 1) y e (by simpa using h1) (by simpa using h2)
      refine ⟨_, .cons q1 q2, fun z => ?_⟩
      rcases List.mem_append.mp z with z | z
      · exact n1 z
      · exact n2 z
theorem key_reads {h : Heap} {k : Key} {v : Value} (e : keyIs k v = true) : Reads h v (keyD k) [] := by
  rcases keyIs_shape e with ⟨i, t, rfl, rfl⟩ | ⟨x, t, rfl, rfl⟩
  · exact .int i t
  · exact .str x t
theorem kv_reads {P : Program} {w : World} {h : Heap} : ∀ (kvs : List (Key × V)) (ds : List PyData) (es : List DictEntry) (vs : List (Key × Value)), kvs.length = ds.length → KV kvs vs → Pairs (mixKind P w) es vs →
    (∀ (i : Nat) (k : Key) (x : V) (d : PyData), kvs[i]? = some (k, x) → ds[i]? = some d → ∀ u, RelV x u → ∃ as, Reads h u d as ∧ sysModules ∉ as) →
    ReadsAll h (es.map (·.key)) ((zipK kvs ds).map (·.1)) [] ∧ ∃ bs, ReadsAll h (es.map (·.val)) ((zipK kvs ds).map (·.2)) bs ∧ sysModules ∉ bs
  | [], [], es, vs, _, r, p, _ => by
    cases r
    cases p
    exact ⟨.nil, _, .nil, by simp⟩
  | (k, x) :: kvs, d :: ds, es, vs, l, r, p, h => by
    cases r with
    | cons r1 r2 =>
      cases p with
      | cons p1 p2 p3 =>
        obtain ⟨as, q1, n1⟩ := h 0 k x d rfl rfl _ r1.2
        obtain ⟨h1, bs, q2, n2⟩ := kv_reads kvs ds _ _ (by simpa using l) r2 p3 fun i k' y e h1 h2 => h (i + 1) k' y e (by simpa using h1) (by simpa using h2)
        refine ⟨ReadsAll.cons (as := []) (bs := []) (key_reads (by have e : k = _ := r1.1; subst e; exact p1)) h1, as ++ bs, ReadsAll.cons (by rw [← p2] at q1; exact q1) q2, fun z => ?_⟩
        rcases List.mem_append.mp z with z | z
        · exact n1 z
        · exact n2 z
/-- the part that is written holds sys.modules: a dict -/
def SysK (K : PySem.W.Frag) : Prop := ∃ o, K.lookup sysModules = some o ∧ o.cls = .type "dict"
theorem Dq.reads {X : Cx} {pins : List (Addr × Obj)} {σ : L2.St} {H : Hp} {s : Shared} (I : Inv X pins σ H s) (S : SysK X.K) {x : V} {d : PyData} (h : Dq X.K H x d) : ∀ u, RelV x u → ∃ as, Reads s.heap u d as ∧ sysModules ∉ as := by
  obtain ⟨o1, k1, c1⟩ := S
  have g1 := I.kIn _ _ k1
  induction h with
  | non =>
    intro u r
    cases r
    exact ⟨_, .none, by simp⟩
  | bl b =>
    intro u r
    cases r
    exact ⟨_, .bool b, by simp⟩
  | int i =>
    rintro u ⟨t, rfl⟩
    exact ⟨_, .int i t, by simp⟩
  | str x =>
    rintro u ⟨t, rfl⟩
    exact ⟨_, .str x t, by simp⟩
  | @lst a xs ds hs l _ ih =>
    intro u r
    cases r
    obtain ⟨its, rv, ⟨o, n, ho, hc, _, hd⟩, _⟩ := I.list hs
    obtain ⟨as, hr, hn⟩ := all_reads xs ds its l rv ih
    refine ⟨_, .list ho hc hd hr, fun z => ?_⟩
    rcases List.mem_cons.mp z with z | z
    · rw [← z, g1] at ho
      cases ho
      rw [c1] at hc
      injection hc with z2
      exact absurd z2 (by decide)
    · exact hn z
  | @tup a xs ds hs l _ ih =>
    intro u r
    cases r
    obtain ⟨its, rv, ⟨o, ho, hc, n, hd⟩, _⟩ := I.tuple hs
    obtain ⟨as, hr, hn⟩ := all_reads xs ds its l rv ih
    exact ⟨_, .tuple ho hc hd hr, hn⟩
  | @dct a kvs ds hs l _ ih =>
    intro u r
    cases r
    obtain ⟨_, ns, vs, rk, o, es, ep, ho, ⟨hc, _, _⟩, hd, _, hp, _⟩ := dk_of I.hok hs
    obtain ⟨h1, bs, h2, hn⟩ := kv_reads kvs ds es.toList vs l rk hp ih
    refine ⟨_, .dict ho hc hd h1 h2, fun z => ?_⟩
    rcases List.mem_cons.mp z with z | z
    · rw [← z] at ns
      simp at ns
    · exact hn (by simpa using z)
end L3
set_option Elab.async false
set_option linter.all false
set_option maxRecDepth 100000
set_option maxHeartbeats 4000000
namespace L3
open PySem PySem.Spec PyProof.Rows L2
theorem Rm.in1 {k : Nat} {A : Around} (r : Rm (k + 1) A) : Rm k A.in1 := ⟨r.rm.in1, r.gd⟩
section
variable {X : Cx} {k : Nat} {f C : Addr} {ks : List Str} {sp : Sp} {W : WX} {x m : Str} {p pos apos : Pos} {e o : Expr} {es : List Expr} {kws : List Keyword} {ta : TE} {t tk : TA}
/-- o.m(e, ..) of an instance of the class at C -/
def tMt (C : Addr) (m : Str) (sp : Sp) (W : WX) (ta : TE) (t : TA) : TE := fun σ H Q => ta σ H fun x H1 => ∃ a dx fs, x = .ref a ∧ H1 a = some (.ins C dx fs) ∧ fs.lookup m = none ∧ t σ H1 fun vs H2 => sp (x :: vs) H2 Q (WE W σ)
theorem c_meth {pl : Sem Bool} (he : PE X o ta) (c : Cls X.K C) (hm : Meth X.K C m f) (F : Fc X.prog X.w X.K X.mg X.base k f [] sp) (hr : Rm k X.A) (hx : Takes X W) (ha : PA X (e :: es) t)
    (hst : starEach (e :: es) X.env = (false, eval e X.env) :: starEach es X.env := by rfl) (hpl : (backTo pos (starEach es X.env)).any (·.1) = false := by rfl)
    (ht : eval (.Call (.Attribute o m apos) (e :: es) [] pos) X.env = (do
      let ov ← eval o X.env
      standAt apos.atName
      let (f, first) ← holding [ov] (getMethod ov m pl)
      callWith pos f first (backTo pos (starEach (e :: es) X.env)) (backToKw pos (keywordEach [] X.env))) := by rfl) :
    PE X (.Call (.Attribute o m apos) (e :: es) [] pos) (tMt C m sp W ta t) := by
  refine ⟨fun pins s σ H Q I h => ?_⟩
  refine PySem.W.methodCall_KW (pl := pl) (thn (he.run pins s σ H _ I h) fun u s1 ⟨x, H1, I1, rx, a, dx, fs, ex, ea, l, q⟩ => ?_) ht
  subst ex
  obtain rfl : u = Value.ref a := rx
  refine getmeth_ok I1 ea c hm l ?_
  refine PySem.W.callWith_K (first := [.ref a]) (h₀ := X.base) I.ok.mod.kin hm.kp (thn (ha.run pos pins s1 σ H1 _ I1 q) fun us s2 ⟨vs, H2, I2, r, q2⟩ => ⟨I2.kIn, ?_⟩) hst hpl
  exact run_fc (us := .ref a :: us) (ws := []) (vs := .ref a :: vs) F hr hx I2 (by rw [List.append_nil]; exact .cons rfl r) rfl q2
theorem c_meth0 {pl : Sem Bool} (he : PE X o ta) (c : Cls X.K C) (hm : Meth X.K C m f) (F : Fc X.prog X.w X.K X.mg X.base k f [] sp) (hr : Rm k X.A) (hx : Takes X W)
    (ht : eval (.Call (.Attribute o m apos) [] [] pos) X.env = (do
      let ov ← eval o X.env
      standAt apos.atName
      let (f, first) ← holding [ov] (getMethod ov m pl)
      callWith pos f first (backTo pos (starEach [] X.env)) (backToKw pos (keywordEach [] X.env))) := by rfl) :
    PE X (.Call (.Attribute o m apos) [] [] pos) (tMt C m sp W ta tNil) := by
  refine ⟨fun pins s σ H Q I h => ?_⟩
  refine PySem.W.methodCall_KW (pl := pl) (thn (he.run pins s σ H _ I h) fun u s1 ⟨x, H1, I1, rx, a, dx, fs, ex, ea, l, q⟩ => ?_) ht
  subst ex
  obtain rfl : u = Value.ref a := rx
  refine getmeth_ok I1 ea c hm l ?_
  exact PySem.W.callWith_K0 (first := [.ref a]) I1.kIn hm.kp (run_fc (us := [.ref a]) (ws := []) (vs := [.ref a]) F hr hx I1 (.cons rfl .nil) rfl q)
theorem run_mk {pins : List (Addr × Obj)} {σ : L2.St} {H : Hp} {s : Shared} {Q : VK} {us ws : List Value} {vs : List V} (M : Mk X.K C f) (F : Fc X.prog X.w X.K X.mg X.base k f ks sp) (hr : Rm (k + 1) X.A) (hx : Takes X W)
    (I : Inv X pins σ H s) (r : Vals vs (us ++ ws)) (hl : ws.length = ks.length)
    (h : ∀ x dx, H x = none → H dx = none → dx ≠ x → sp (.ref x :: vs) (upd (upd H dx (.own x)) x (.ins C dx [])) (fun v H2 => v = .non ∧ Q (.ref x) H2) (WE W σ)) :
    wpAny (model X.prog X.w) X.A (call (.ref C) us (ks.zip ws)) (EP X pins σ Q) X.xe s := by
  have hq := h (s.heap.objs.size + 1) s.heap.objs.size (I.hok.fresh (Nat.le_succ _)) (I.hok.fresh (Nat.le_refl _)) (Nat.ne_of_lt (Nat.lt_succ_self _))
  have I2 := Inv.made (C := C) I
  refine wpAny_call (make_map (f := f) I.kIn M.makes M.init (beq_iff_eq.mp M.fn) (codeAny_mono (F _ X.stack _ _ (Value.ref (s.heap.objs.size + 1) :: us) ws (V.ref (s.heap.objs.size + 1) :: vs) _ (WE W σ) (hr.make C us (ks.zip ws))
    (I2.env0.make C us (ks.zip ws)) (.cons rfl r) hl hq) fun r s' hq' => ?_))
  cases r with
  | error e => exact passAt hx σ pins _ _ e s' I2 hq'
  | ok fl =>
    cases fl with
    | ret u =>
      obtain ⟨v, H', I3, rv, ev, q3⟩ := I2.after hq'
      subst ev
      exact ⟨rv, ⟨V.ref (s.heap.objs.size + 1), H', I3, rfl, q3⟩⟩
    | next => exact False.elim hq'
    | brk => exact False.elim hq'
    | cont => exact False.elim hq'
def tMk (C : Addr) (sp : Sp) (W : WX) (t : TA) : TE := fun σ H Q => t σ H fun vs H1 => ∀ x dx, H1 x = none → H1 dx = none → dx ≠ x →
  sp (.ref x :: vs) (upd (upd H1 dx (.own x)) x (.ins C dx [])) (fun v H2 => v = .non ∧ Q (.ref x) H2) (WE W σ)
theorem c_make (M : Mk X.K C f) (F : Fc X.prog X.w X.K X.mg X.base k f [] sp) (hr : Rm (k + 1) X.A) (hm : X.mg x = some (.ref C)) (hx : Takes X W)
    (ha : PA X (e :: es) t) (hg : Gl X x := by rfl) (hdb : (x == ("__debug__" : Str)) = false := by decide) (he : starEach (e :: es) X.env = (false, eval e X.env) :: starEach es X.env := by rfl) (hpl : (backTo pos (starEach es X.env)).any (·.1) = false := by rfl) :
    PE X (.Call (.Name x p) (e :: es) [] pos) (tMk C sp W t) := by
  refine ⟨fun pins s σ H Q I h => ?_⟩
  refine wpAny_Call_Name_kw (ld_glob I hg hm ?_ hdb)
  refine PySem.W.callWith_K (h₀ := X.base) I.ok.mod.kin M.kp (thn (ha.run pos pins s σ H _ I h) fun us s1 ⟨vs, H1, I1, r, q⟩ => ⟨I1.kIn, ?_⟩) he hpl
  exact run_mk (ws := []) M F hr hx I1 (by rw [List.append_nil]; exact r) rfl q
end
structure InsC (K : PySem.W.Frag) (C : Addr) : Prop where
  ha : PySem.W.findIn K (.ref C) "__class__" = some (some (.builtin "object.__class__"))
  hn : PySem.W.specialIn K (.builtin "object.__class__") "__get__" = some (some (.builtin "getset_descriptor.__get__"))
  ht : PySem.W.takesIn K (.builtin "object.__class__") = some true
  hm : PySem.W.mroIn K C (.type "object") = some true
def insB (x : Str) : Fx := fun K => He.eqO (PySem.W.findIn K (.ref (He.ga K x)) "__class__") (some (some (.builtin "object.__class__"))) && (He.eqO (PySem.W.specialIn K (.builtin "object.__class__") "__get__") (some (some (.builtin "getset_descriptor.__get__"))) &&
  (decide (PySem.W.takesIn K (.builtin "object.__class__") = some true) && decide (PySem.W.mroIn K (He.ga K x) (.type "object") = some true)))
theorem insC_of {x : Str} {K : PySem.W.Frag} (h : insB x K = true) : InsC K (He.ga K x) := by
  obtain ⟨h1, h⟩ := He.ba h
  obtain ⟨h2, h⟩ := He.ba h
  obtain ⟨h3, h4⟩ := He.ba h
  exact ⟨He.eqO_ok h1, He.eqO_ok h2, of_decide_eq_true h3, of_decide_eq_true h4⟩
theorem ty_ins {K : PySem.W.Frag} {H : Hp} {a C dx : Addr} {fs : List (Str × V)} (i : InsC K C) (c : Cls K C) (e : H a = some (.ins C dx fs)) : TyX K H (.ref a) (.ref C) := .base (.ins e c i.ha i.hn i.ht i.hm)
def exm1F (x y : Str) (b : Bool) : Fx := fun K => decide (PySem.W.exmOne K (.ref (He.ga K x)) (.ref (He.ga K y)) = some b)
def sameF (x y m : Str) : Fx := fun K => decide (He.ma K (He.ga K x) m = He.ma K (He.ga K y) m)
section
variable {X : Cx} {K : PySem.W.Frag}
theorem op_in_seqK (K : PySem.W.Frag) (h : X.K = K := by rfl) : OpR X (compareOp .In) (rIn K false) := h ▸ op_in_seq
theorem op_notIn_seqK (K : PySem.W.Frag) (h : X.K = K := by rfl) : OpR X (compareOp .NotIn) (rIn K true) := h ▸ op_notIn_seq
theorem ix_listK (K : PySem.W.Frag) (h : X.K = K := by rfl) : IxR X (rIxL K) := h ▸ ix_list
theorem pe_fldK (K : PySem.W.Frag) {e : Expr} {f : Str} {pos : Pos} {ta : TE} (he : PE X e ta) (hb : attributeBase e f X.env (eval e X.env) = eval e X.env) (h : X.K = K := by rfl) : PE X (.Attribute e f pos) (tFld K ta f) := h ▸ pe_fld he hb
end
end L3
set_option Elab.async false
set_option linter.all false
set_option maxRecDepth 100000
set_option maxHeartbeats 4000000
namespace L3
open PySem PySem.Spec PyProof.Rows L2
section
variable {J : It} {n : Nat} {G : Hp → Prop} {Y : Nat → Hp → V → Hp → Prop} {g : TG} {tt : TT} {te : TE} {vs : List Nat} {σ : L2.St} {H1 : Hp} {D : Addr} {Qd : Hp → Prop}
theorem lc_any (w : L2.Walk J n G Y) (I : Nat → List V → Hp → Prop) (hI : ∀ i acc H l, I i acc H → I i acc (upd H D (.lst l))) (i0 : I 0 [] H1) (hn : n ≤ 100000) (hl : ∀ i acc H, I i acc H → acc.length ≤ i) (hG : ∀ i acc H, I i acc H → G H)
    (hs : ∀ (i : Nat) (x : V) (H H' : Hp) (acc : List V) (N : Hp → Prop), i < n → I i acc H → H D = some (.lst acc) → acc.length < sizeLine → Y i H x H' →
      (∀ y H4, H4 D = some (.lst acc) → I (i + 1) (acc ++ [y]) H4 → N (upd H4 D (.lst (acc ++ [y])))) → (∀ H4, H4 D = some (.lst acc) → I (i + 1) acc H4 → N H4) → Turn g tt te vs σ D x H' N)
    (hd : ∀ acc H, I n acc H → H D = some (.lst acc) → Qd H) :
    ∃ W : Nat → Nat → Hp → Prop, (∃ m, W 0 m (upd H1 D (.lst []))) ∧ ∀ i m H, W i m H →
      (J.stop i H ∧ Qd H) ∨ (J.go i H ∧ ∃ Nx : Hp → Prop, (∀ H', Nx H' → ∃ m', m' < m ∧ W (i + 1) m' H') ∧ ∀ x H', J.yld i H x H' → Turn g tt te vs σ D x H' Nx) := by
  refine L2.lc_it w (fun i H => i ≤ n ∧ ∃ acc, I i acc H ∧ H D = some (.lst acc)) ⟨Nat.zero_le _, [], hI _ _ _ _ i0, upd_same⟩ (fun i H _ p => ?_) ?_ (fun H p => ?_)
  · obtain ⟨_, acc, p, _⟩ := p
    exact hG i acc H p
  · rintro i x H H' hi ⟨p1, acc, p2, p3⟩ y
    have := hl _ _ _ p2
    refine hs i x H H' acc _ hi p2 p3 (small_len (by omega)) y (fun y H4 d4 i4 => ⟨hi, _, hI _ _ _ _ i4, upd_same⟩) fun H4 d4 i4 => ⟨hi, _, i4, d4⟩
  · obtain ⟨_, acc, p, d⟩ := p
    exact hd acc H p d
end
end L3
set_option Elab.async false
set_option linter.all false
set_option maxRecDepth 100000
set_option maxHeartbeats 4000000
namespace SrtA
open PySem PyProof.Rows Srt SrtO
section
variable {prog : Program} {w : World} {A : Around} {E : Value → Shared → Prop} {s : Shared}
theorem collect_tup {l : Addr} {vs : List Value} {Q : List Value → Shared → Prop} (hl : s.heap.IsTuple l vs.toArray)
    (h : Q vs { s with heap := (s.heap.push (seqObj "list" #[] 0)).update s.heap.objs.size (Obj.mapSeq (· ++ vs.toArray)) }) (hsz : vs.length ≤ sizeLine) :
    wpAny (model prog w) A (collect (.ref l)) Q E s := by
  obtain ⟨o, ho, hc, n, hd⟩ := id hl
  unfold collect
  refine wpAny_bind (wpAny_runValue (codeAny_builtin entry_proto_collect' ?_))
  show wpAny _ _ (do again (.builtin "list.__iadd__" ⟨[← newList [], .ref l], []⟩)) _ _ s
  refine wpAny_bind (wpAny_newList (wpAny_pure ⟨Code.quiet_builtin _ (by decide +kernel), codeAny_builtin entry_list_iadd' ?_⟩))
  show wpAny _ _ (Builtin.List.listExtendWith (.ref s.heap.objs.size) (.ref l) (.ref s.heap.objs.size)) _ _ { s with heap := s.heap.push (seqObj "list" #[] 0) }
  unfold Builtin.List.listExtendWith
  have ho' : (s.heap.push (seqObj "list" #[] 0)).get? l = some o := Heap.get?_push_of_some _ ho
  refine wpAny_bind (wpAny_typeOf (T := "tuple") ⟨o, ho', hc⟩ ?_)
  have ht : (Value.type "tuple" == Value.type "tuple") = true := by rfl
  rw [if_pos (by rw [ht]; simp)]
  refine wpAny_bind (listItems_at ho' hd ?_)
  refine wpAny_bind (listItems_at (xs := #[]) (n := 0) (Heap.get?_push_size _ rfl) rfl ?_)
  rw [if_neg (by simp)]
  refine wpAny_bind (listUpdate_at (xs := #[]) (n := 0) (Heap.get?_push_size _ rfl) rfl ?_ (Nat.zero_le _) (by show (#[] ++ vs.toArray).size ≤ sizeLine + 1; simp only [Array.size_append, List.size_toArray, List.length_nil]; omega))
  refine wpAny_pure ?_
  show wpAny (model prog w) A (do
      let o ← load s.heap.objs.size
      match o.data with
      | .seq xs _ => pure xs.toList
      | _ => unsupported "internal:collect") Q E { s with heap := (s.heap.push (seqObj "list" #[] 0)).update s.heap.objs.size (Obj.mapSeq (· ++ vs.toArray)) }
  refine wpAny_bind (wpAny_load (get?_update_seq (Heap.get?_push_size _ rfl) _) ?_)
  show wpAny _ _ (pure ((#[] : Array Value) ++ vs.toArray).toList) Q E _
  rw [show ((#[] : Array Value) ++ vs.toArray).toList = vs by simp]
  exact wpAny_pure h
theorem sorted_tup {l : Addr} {vs : List Value} {ltv : Value → Value → Bool} {Q : Value → Shared → Prop} (O : Swo ltv) (hl : s.heap.IsTuple l vs.toArray) (hz : vs.length ≤ sizeLine)
    (hS : 2 ≤ vs.length → ∀ (h₁ : Heap) (a : Addr), h₁.get? a = some (seqObj "list" vs.toArray 0) → (∀ b o, s.heap.get? b = some o → b ≠ a ∧ h₁.get? b = some o) → SortableO prog w A.in1.in1 { s with heap := h₁ } a vs ltv)
    (h : ∀ out : List Value, Srtd ltv out → Stb ltv out vs → Q (.ref (s.heap.objs.size + 1)) { s with heap := sortedAll s.heap vs out.toArray }) :
    wpAny (model prog w) A (call (.builtin "sorted") [.ref l]) Q E s := by
  refine Calls.call_function_entry kind_sorted plain_sorted entry_sorted (args_sorted1 _) ?_
  unfold Builtin.«sorted»
  refine wpAny_bind (m := checkCount "sorted" 1 1 _) (wpAny_pure ?_)
  refine wpAny_bind (collect_tup hl ?_ hz)
  refine wpAny_bind (wpAny_newList ?_ hz)
  have hsz : ((s.heap.push (seqObj "list" #[] 0)).update s.heap.objs.size (Obj.mapSeq (· ++ vs.toArray))).objs.size = s.heap.objs.size + 1 := by
    rw [Heap.size_update, size_push']
  have hoL : (((s.heap.push (seqObj "list" #[] 0)).update s.heap.objs.size (Obj.mapSeq (· ++ vs.toArray))).push (seqObj "list" vs.toArray 0)).get? (s.heap.objs.size + 1) = some (seqObj "list" vs.toArray 0) := by
    rw [← hsz]; exact Heap.get?_push_size _ rfl
  have keep : ∀ b o, s.heap.get? b = some o → b ≠ s.heap.objs.size + 1 ∧ (((s.heap.push (seqObj "list" #[] 0)).update s.heap.objs.size (Obj.mapSeq (· ++ vs.toArray))).push (seqObj "list" vs.toArray 0)).get? b = some o := fun b o q => by
    have hlt : b < s.heap.objs.size := Heap.lt_size q
    refine ⟨Nat.ne_of_lt (Nat.lt_succ_of_lt hlt), Heap.get?_push_of_some _ ?_⟩
    rw [Heap.get?_update_ne _ _ _ _ (Nat.ne_of_lt hlt)]
    exact Heap.get?_push_of_some _ q
  show wpAny _ _ _ _ _ { s with heap := ((s.heap.push (seqObj "list" #[] 0)).update s.heap.objs.size (Obj.mapSeq (· ++ vs.toArray))).push (seqObj "list" vs.toArray 0) }
  rw [hsz]
  refine wpAny_bind (wpAny_holding (wpAny_call_entry slot_list_sort ⟨_, hoL, rfl⟩ entry_list_sort (list_sort_ord O hoL hz (fun h2 => hS h2 _ _ hoL keep) fun out hs hb => ⟨_, rfl, ?_⟩) (args_list_sort _)))
  exact wpAny_pure ⟨_, rfl, h out hs hb⟩
end
end SrtA
namespace L3
open PySem PySem.Spec PyProof.Rows L2
/-- the numbers in order -/
def srt (ns : List Int) : List Int := ns.mergeSort (fun a b => decide (a ≤ b))
theorem srt_perm (ns : List Int) : (srt ns).Perm ns := List.mergeSort_perm ns _
theorem srt_sorted (ns : List Int) : (srt ns).Pairwise (· ≤ ·) := by
  have h := List.pairwise_mergeSort (le := fun a b : Int => decide (a ≤ b)) (fun a b c h1 h2 => decide_eq_true (Int.le_trans (of_decide_eq_true h1) (of_decide_eq_true h2))) (fun a b => by
    rcases Int.le_total a b with h | h
    · rw [decide_eq_true h]; rfl
    · rw [decide_eq_true h, Bool.or_true]) ns
  exact h.imp fun h => of_decide_eq_true h
theorem sorted_uniq : ∀ {xs ys : List Int}, xs.Perm ys → xs.Pairwise (· ≤ ·) → ys.Pairwise (· ≤ ·) → xs = ys
  | [], ys, p, _, _ => p.nil_eq
  | x :: xs, [], p, _, _ => absurd p.symm.nil_eq (by simp)
  | x :: xs, y :: ys, p, hx, hy => by
    have e : x = y := by
      have h1 : x ∈ y :: ys := p.subset List.mem_cons_self
      have h2 : y ∈ x :: xs := p.symm.subset List.mem_cons_self
      have l1 : y ≤ x := by
        rcases List.mem_cons.mp h1 with h | h
        · omega
        · exact (List.pairwise_cons.mp hy).1 x h
      have l2 : x ≤ y := by
        rcases List.mem_cons.mp h2 with h | h
        · omega
        · exact (List.pairwise_cons.mp hx).1 y h
      omega
    subst e
    rw [sorted_uniq (List.perm_cons x |>.mp p) (List.pairwise_cons.mp hx).2 (List.pairwise_cons.mp hy).2]
theorem srt_eq {xs ns : List Int} (p : xs.Perm ns) (h : xs.Pairwise (· ≤ ·)) : xs = srt ns := sorted_uniq (p.trans (srt_perm ns).symm) h (srt_sorted ns)
/-- sorted(xs), xs a list or a tuple of whole numbers -/
def rSortedA (K : PySem.W.Frag) : List V → Hp → VK → Prop := fun vs H Q => ∃ (a : Addr) (ns : List Int), vs = [V.ref a] ∧ (SqL K H a (ns.map V.int) ∨ SqT K H a (ns.map V.int)) ∧ ∀ p : Addr, H p = none → Q (.ref p) (upd H p (.lst ((srt ns).map V.int)))
section
variable {X : Cx}
theorem cr_sortedA (K : PySem.W.Frag) (hK : X.K = K := by rfl) : CallR X (.builtin "sorted") (rSortedA K) := by
  subst hK
  intro pins s σ H vs us Q I r h
  obtain ⟨a, ns, rfl, hs | hs, q⟩ := h
  · exact cr_sortedI pins s σ H [.ref a] us Q I r ⟨a, ns, rfl, hs, fun ns' p h1 h2 hp => by rw [srt_eq h1 h2]; exact q p hp⟩
  · obtain ⟨its, rv, hl, hz⟩ := I.tuple hs
    rw [Vals.ref1 r]
    have hi := rv.ints
    refine SrtA.sorted_tup SrtO.swo_int hl (by rw [← rv.length]; exact hz) (fun h2 h₁ a' _ _ => SrtO.ints_sortable hi h2) fun out h1 h2 => ?_
    obtain ⟨k1, k2, k3⟩ := SrtO.ints_out hi h1 h2
    obtain ⟨ep, he'⟩ := PyProof.Rows.sortedAll_at s.heap its out.toArray
    have hlen : ((out.map SrtO.iv).map V.int).length ≤ sizeLine := by
      rw [List.length_map, k2.length_eq]
      rw [List.length_map] at hz
      exact hz
    have q2 := q (s.heap.objs.size + 1) (I.hok.fresh (Nat.le_succ _))
    rw [← srt_eq k2 k3] at q2
    exact ⟨.ref _, upd H (s.heap.objs.size + 1) (.lst ((out.map SrtO.iv).map V.int)), I.laid (t' := s.toks) (fun _ _ => PyProof.Rows.sortedAll_old) (Nat.le_succ _) ⟨hlen, out, ep, vals_of_ints k1, he'⟩, rfl, q2⟩
end
section
variable {X : Cx} {K : PySem.W.Frag}
def iSeq (K : PySem.W.Frag) (tl : TE) : TI := fun σ H R => iList K tl σ H R ∨ iTup K tl σ H R
theorem pi_seq {tg l : Expr} {tl : TE} (hl : PE X l tl) : PI X tg l (iSeq X.K tl) := ⟨fun pins s σ H R I h => h.elim ((pi_list hl).run pins s σ H R I) ((pi_tup hl).run pins s σ H R I)⟩
theorem pg_tupK (K : PySem.W.Frag) {es : List Expr} {k : Nat} {t : TGs} {n : Nat} {pos : Pos} (hc : X.calm = true) (h : PGs X es t)
    (hn : (assignEach es X.env).length = n := by rfl) (hst : (assignEach es X.env).findIdx? (·.1) = none := by rfl) (hK : X.K = K := by rfl) : PG X (.Tuple es k pos) (gTup K n t) := hK ▸ pg_tup hc h hn hst
theorem walk_zipT {a b : Addr} {xs ys : List V} {n : Nat} (hn : n = min xs.length ys.length) : L2.Walk (RZ.ItzT K a b) n (fun H => SqT K H a xs ∧ SqT K H b ys) (L2.YPair (fun i => xs[i]?) (fun i => ys[i]?)) := by
  subst hn
  refine ⟨fun i _ hi q => ?_, fun _ q => ⟨xs, ys, q.1, q.2, by omega⟩, fun i H v H' _ q y => ?_⟩
  · have h1 : i < xs.length := by omega
    have h2 : i < ys.length := by omega
    exact ⟨xs, ys, xs[i], ys[i], q.1, q.2, by simp [h1], by simp [h2]⟩
  · obtain ⟨T, x, z, h1, h2, h3, h4, h5⟩ := y
    exact ⟨T, x, z, h1, h2, h3, h4 xs q.1, h5 ys q.2⟩
theorem inV_int (d : Int) (ns : List Int) : inV (.int d) (ns.map V.int) = decide (d ∈ ns) := by
  induction ns with
  | nil => rfl
  | cons n r ih =>
    show (eqV (.int n) (.int d) || inV (.int d) (r.map V.int)) = _
    rw [ih]
    have e : eqV (.int n) (.int d) = decide (d = n) := by
      show decide (n = d) = _
      exact decide_eq_decide.mpr ⟨fun h => h.symm, fun h => h.symm⟩
    rw [e]
    by_cases h : d = n
    · simp [h]
    · simp [h]
theorem flat_ints (ns : List Int) : (ns.map V.int).all flatV = true := by
  induction ns with
  | nil => rfl
  | cons n r ih => exact (Bool.and_eq_true_iff.mpr ⟨rfl, ih⟩)
end
theorem isM_nat (n : Nat) : isM (.int (n : Int)) = true := decide_eq_true (Int.natCast_nonneg n)
theorem isM_no {n : Nat} {C : Prop} (h : isM (.int (n : Int)) = false) : C := absurd ((isM_nat n).symm.trans h) Bool.noConfusion
end L3
set_option Elab.async false
set_option linter.all false
set_option maxRecDepth 100000
set_option maxHeartbeats 4000000
namespace L3
open PySem PySem.Spec PyProof.Rows L2
section
variable {P : Program} {w : World} {A : Around} {E : Value → Shared → Prop} {s : Shared}
abbrev newSet (w : World) : Obj := { cls := .type "set", dict := none, data := .set #[] 0 (.fresh 0 0 (!w.params.followText "set-order")) }
end
end L3
set_option Elab.async false
set_option linter.all false
set_option maxRecDepth 100000
set_option maxHeartbeats 4000000
namespace L3
open PySem PySem.Spec PyProof.Rows L2
end L3
set_option Elab.async false
set_option linter.all false
set_option maxRecDepth 100000
set_option maxHeartbeats 4000000
namespace L3
open PySem PySem.Spec PyProof.Rows L2
theorem range_fm {α β : Type} (g : α → Option β) : ∀ l : List α, (List.range l.length).filterMap (fun i => l[i]?.bind g) = l.filterMap g
  | [] => rfl
  | x :: l => by
    rw [List.length_cons, List.range_succ_eq_map, List.filterMap_cons, List.filterMap_map, List.filterMap_cons]
    have ih := range_fm g l
    have e : ((fun i => (x :: l)[i]?.bind g) ∘ Nat.succ) = fun i => l[i]?.bind g := funext fun i => by simp
    rw [e, ih]
    simp
section
variable {J : It} {G : Hp → Prop} {g : TG} {tt : TT} {te : TE} {vs : List Nat} {σ : L2.St} {H1 : Hp} {D : Addr} {Qd : Hp → Prop}
/-- a comprehension over xs (told as values by v), each of which gives gm x, or nothing -/
theorem lc_on {α : Type} (xs : List α) (v : α → V) (w : L2.Walk J (xs.map v).length G (L2.YAt (xs.map v))) (gm : α → Option V) (I : Hp → Prop) (hI : ∀ H l, I H → I (upd H D (.lst l))) (i0 : I H1) (hn : xs.length ≤ 100000) (hG : ∀ H, I H → G H)
    (hs : ∀ (i : Nat) (x : α) (H : Hp) (acc : List V) (N : Hp → Prop), xs[i]? = some x → I H → H D = some (.lst acc) → acc.length < sizeLine →
      (∀ H4, I H4 → H4 D = some (.lst acc) → match gm x with | some y => N (upd H4 D (.lst (acc ++ [y]))) | none => N H4) → Turn g tt te vs σ D (v x) H N)
    (hd : ∀ H, I H → H D = some (.lst (xs.filterMap gm)) → Qd H) :
    ∃ W : Nat → Nat → Hp → Prop, (∃ m, W 0 m (upd H1 D (.lst []))) ∧ ∀ i m H, W i m H →
      (J.stop i H ∧ Qd H) ∨ (J.go i H ∧ ∃ Nx : Hp → Prop, (∀ H', Nx H' → ∃ m', m' < m ∧ W (i + 1) m' H') ∧ ∀ x H', J.yld i H x H' → Turn g tt te vs σ D x H' Nx) := by
  refine lc_fm w (fun i => xs[i]?.bind gm) I hI i0 (by rw [List.length_map]; exact hn) hG (fun i x H H' acc N hi p hD la y k => ?_) fun H p hD => hd H p ?_
  · obtain ⟨rfl, hx⟩ := y
    rw [List.getElem?_map] at hx
    obtain ⟨z, hz, rfl⟩ := Option.map_eq_some_iff.mp hx
    refine hs i z _ acc N hz p hD la fun H4 p4 d4 => ?_
    have := k H4 p4 d4
    simp only [hz, Option.bind_some] at this
    exact this
  · rw [hD, List.length_map, range_fm]
end
section
variable {J : It} {G : Hp → Prop} {g : TG} {tb : TS} {D : Ends} {σ : L2.St} {H : Hp}
/-- a for over xs (told as values by v) -/
theorem for_on {α : Type} (xs : List α) (v : α → V) (w : L2.Walk J (xs.map v).length G (L2.YAt (xs.map v))) (Pv : Nat → L2.St → Hp → Prop) (h0 : Pv 0 σ H) (hG : ∀ i σ H, Pv i σ H → G H)
    (hs : ∀ (i : Nat) (x : α) (σ : L2.St) (H : Hp), xs[i]? = some x → Pv i σ H → g (v x) σ H fun σ2 H2 => tb { D with nx := Pv (i + 1), ct := Pv (i + 1), bk := D.nx } σ2 H2) (hd : ∀ σ H, Pv xs.length σ H → D.nx σ H) :
    ∃ W : Nat → Nat → L2.St → Hp → Prop, (∃ m, W 0 m σ H) ∧ ∀ i m σ H, W i m σ H →
      (J.stop i H ∧ D.nx σ H) ∨ (J.go i H ∧ ∃ N : L2.St → Hp → Prop, (∀ σ' H', N σ' H' → ∃ m', m' < m ∧ W (i + 1) m' σ' H') ∧ ∀ x H', J.yld i H x H' → g x σ H' fun σ2 H2 => tb { D with nx := N, ct := N, bk := D.nx } σ2 H2) := by
  refine L2.for_it w Pv h0 (fun i σ H _ p => hG i σ H p) (fun i x σ H H' hi p y => ?_) (fun σ H p => hd σ H (by rw [List.length_map] at p; exact p))
  obtain ⟨rfl, hx⟩ := y
  rw [List.getElem?_map] at hx
  obtain ⟨z, hz, rfl⟩ := Option.map_eq_some_iff.mp hx
  exact hs i z σ _ hz p
end
theorem take_snoc {α : Type} {l : List α} {i : Nat} {x : α} (h : l[i]? = some x) : l.take (i + 1) = l.take i ++ [x] := by
  rw [List.take_add_one, h]
  rfl
theorem catA_of {K : PySem.W.Frag} {H : Hp} {a b : Addr} {xs ys : List V} {Q : VK} (ha : SqT K H a xs) (hb : SqT K H b ys) (hz : xs.length + ys.length ≤ sizeLine) (q : ∀ p H', Ex H H' → SqT K H' p (xs ++ ys) → Q (.ref p) H') : rCatA K (.ref a) (.ref b) H Q := by
  refine ⟨a, b, xs, ys, rfl, rfl, ha, hb, hz, fun e => ?_, fun _ e => ?_, fun _ _ p np => ?_⟩
  · exact q b H (.refl _) (by rw [e]; exact hb)
  · exact q a H (.refl _) (by rw [e, List.append_nil]; exact ha)
  · exact q p _ (ex_new np) (sq_tup upd_same)
/-- what stands elsewhere than at f stays -/
def Oth (f : Addr) (H H' : Hp) : Prop := ∀ b o, b ≠ f → H b = some o → H' b = some o
theorem Oth.refl (f : Addr) (H : Hp) : Oth f H H := fun _ _ _ e => e
theorem Oth.trans {f : Addr} {H H1 H2 : Hp} (a : Oth f H H1) (b : Oth f H1 H2) : Oth f H H2 := fun c o h e => b c o h (a c o h e)
theorem ex_oth {f : Addr} {H H1 : Hp} (a : Ex H H1) : Oth f H H1 := fun c o _ e => a c o e
theorem Oth.upd {f : Addr} {H H1 : Hp} {o : HO} (a : Oth f H H1) : Oth f H (L2.upd H1 f o) := fun b u nb e => by rw [upd_ne nb]; exact a b u nb e
theorem Oth.ex {f : Addr} {H0 H H1 : Hp} (x : Ex H0 H) (n : H0 f = none) (a : Oth f H H1) : Ex H0 H1 := fun b o e => a b o (ne_of_none e n) (x b o e)
theorem sz_le {n : Nat} (h : n ≤ 100000) : n ≤ sizeLine := Nat.le_of_lt (small_len h)
end L3
set_option Elab.async false
set_option linter.all false
set_option maxRecDepth 100000
set_option maxHeartbeats 4000000
namespace L3
open PySem PySem.Spec PyProof.Rows L2
theorem slA_of {K : PySem.W.Frag} {H : Hp} {a : Addr} {xs : List V} {lo hi : Option Int} {Q : VK} (ha : SqT K H a xs) (q : ∀ p H', Ex H H' → SqT K H' p (cutV xs lo hi) → Q (.ref p) H') : rSlA K (.ref a) lo hi H Q := by
  refine ⟨a, xs, rfl, ha, fun hw => q a H (.refl _) ?_, fun _ p np => q p _ (ex_new np) (sq_tup upd_same)⟩
  have e : cutV xs lo hi = xs := by
    unfold cutV
    rw [hw.1, hw.2]
    simp
  rw [e]
  exact ha
theorem tyOf_mono {K : PySem.W.Frag} {H H' : Hp} {x : V} {t : Value} (e : Ex H H') (h : TyOf K H x t) : TyOf K H' x t := by
  cases h with
  | non => exact .non
  | bl x => exact .bl x
  | int i => exact .int i
  | str x => exact .str x
  | flt x => exact .flt x
  | lst h => exact .lst (e _ _ h)
  | frz h => exact .frz (e _ _ h)
  | tup h => exact .tup (e _ _ h)
  | dK h => exact .dK (e _ _ h)
  | dT h => exact .dT (e _ _ h)
  | ins h cl ha hn htk hm => exact .ins (e _ _ h) cl ha hn htk hm
theorem tyX_mono {K : PySem.W.Frag} {H H' : Hp} {x : V} {t : Value} (e : Ex H H') (h : TyX K H x t) : TyX K H' x t := by
  cases h with
  | base h => exact .base (tyOf_mono e h)
  | byt b => exact .byt b
  | set h => exact .set (e _ _ h)
  | kList h c => exact .kList h c
  | kTuple h c => exact .kTuple h c
  | kDict h c => exact .kDict h c
  | fTuple h => exact .fTuple (e _ _ h)
  | fDict h => exact .fDict (e _ _ h)
theorem Cl.mono {K : PySem.W.Frag} {H H' : Hp} {x : V} (c : Cl K H x) (e : Ex H H') : Cl K H' x := let ⟨t, b, d, h1, h2⟩ := c; ⟨t, b, d, tyX_mono e h1, h2⟩
section
variable {J : It} {n : Nat} {G : Hp → Prop} {g : TG} {tt : TT} {te : TE} {vs : List Nat} {σ : L2.St} {H1 : Hp} {D : Addr} {Qd : Hp → Prop}
/-- a comprehension over pairs of xs and ys -/
theorem lc_zip {α β : Type} (xs : List α) (ys : List β) (v : α → V) (w : β → V) (wk : L2.Walk J n G (L2.YPair (fun i => (xs.map v)[i]?) (fun i => (ys.map w)[i]?))) (hn : n = min xs.length ys.length) (gm : α → β → Option V) (I : Hp → Prop) (hI : ∀ H l, I H → I (upd H D (.lst l))) (i0 : I H1) (hz : xs.length ≤ 100000) (hG : ∀ H, I H → G H)
    (hs : ∀ (i : Nat) (a : α) (b : β) (u : Addr) (H : Hp) (acc : List V) (N : Hp → Prop), xs[i]? = some a → ys[i]? = some b → I H → H u = none → H D = some (.lst acc) → acc.length < sizeLine →
      (∀ H4, I H4 → H4 D = some (.lst acc) → match gm a b with | some y => N (upd H4 D (.lst (acc ++ [y]))) | none => N H4) → Turn g tt te vs σ D (.ref u) (upd H u (.tup [v a, w b])) N)
    (hd : ∀ H, I H → H D = some (.lst ((xs.zip ys).filterMap fun p => gm p.1 p.2)) → Qd H) :
    ∃ W : Nat → Nat → Hp → Prop, (∃ m, W 0 m (upd H1 D (.lst []))) ∧ ∀ i m H, W i m H →
      (J.stop i H ∧ Qd H) ∨ (J.go i H ∧ ∃ Nx : Hp → Prop, (∀ H', Nx H' → ∃ m', m' < m ∧ W (i + 1) m' H') ∧ ∀ x H', J.yld i H x H' → Turn g tt te vs σ D x H' Nx) := by
  refine lc_fm wk (fun i => (xs.zip ys)[i]?.bind fun p => gm p.1 p.2) I hI i0 (by omega) hG (fun i x H H' acc N hi p hD la y k => ?_) fun H p hD => hd H p ?_
  · obtain ⟨u, x1, x2, rfl, nu, rfl, g1, g2⟩ := y
    dsimp only at g1 g2
    rw [List.getElem?_map] at g1 g2
    obtain ⟨a, ha, rfl⟩ := Option.map_eq_some_iff.mp g1
    obtain ⟨b, hb, rfl⟩ := Option.map_eq_some_iff.mp g2
    refine hs i a b u H acc N ha hb p nu hD la fun H4 p4 d4 => ?_
    have := k H4 p4 d4
    have ez : (xs.zip ys)[i]? = some (a, b) := by
      rw [List.getElem?_zip_eq_some]
      exact ⟨ha, hb⟩
    simp only [ez, Option.bind_some] at this
    exact this
  · rw [hD, hn, ← List.length_zip, range_fm]
end
end L3
set_option Elab.async false
set_option linter.all false
set_option maxRecDepth 100000
set_option maxHeartbeats 4000000
namespace L3
open PySem PySem.Spec PyProof.Rows L2 PySem.SeqAt PySem.Calls
end L3
set_option Elab.async false
set_option linter.all false
set_option maxRecDepth 100000
set_option maxHeartbeats 4000000
namespace L3
open PySem PySem.Spec PyProof.Rows L2 PySem.SeqAt PySem.Calls
theorem call_isiK {X : Cx} (K : PySem.W.Frag) (h : X.K = K := by rfl) : CallR X (.builtin "isinstance") (rIsi K) := by
  subst h
  exact call_isi
end L3
set_option Elab.async false
set_option linter.all false
set_option maxRecDepth 100000
set_option maxHeartbeats 4000000
namespace L3
open PySem PySem.Spec PyProof.Rows L2 PySem.SeqAt PySem.Calls
section
variable {X : Cx} {e : Expr} {t1 t2 : TE}
def tOrE (t1 t2 : TE) : TE := fun σ H Q => t1 σ H Q ∨ t2 σ H Q
/-- one reading or the other -/
theorem pe_orE (h1 : PE X e t1) (h2 : PE X e t2) : PE X e (tOrE t1 t2) := ⟨fun pins s σ H Q I h => h.elim (h1.run pins s σ H Q I) (h2.run pins s σ H Q I)⟩
end
/-- a promise that is asked for nothing -/
theorem fc_no {P : Program} {w : World} {K : PySem.W.Frag} {mg : Str → Option Value} {base : Heap} {k : Nat} {f : Addr} {ks : List Str} {sp : Sp} (h : ∀ vs H Q E, ¬ sp vs H Q E) : Fc P w K mg base k f ks sp := fun _ _ _ _ _ _ _ _ _ _ _ _ _ z => absurd z (h _ _ _ _)
end L3
set_option Elab.async false
set_option linter.all false
set_option maxRecDepth 100000
set_option maxHeartbeats 4000000
namespace L3
open PySem PySem.Spec PyProof.Rows L2 PySem.SeqAt PySem.Calls
end L3
set_option Elab.async false
set_option linter.all false
set_option maxRecDepth 100000
set_option maxHeartbeats 4000000
namespace L3
open PySem PySem.Spec PyProof.Rows L2
theorem sz_big {n : Nat} (h : n ≤ 16000000) : n ≤ sizeLine := Nat.le_trans h (by rw [sizeLine_eq]; decide)
end L3
set_option Elab.async false
set_option linter.all false
set_option maxRecDepth 100000
set_option maxHeartbeats 4000000
namespace L3
open PySem PySem.Spec PyProof.Rows L2
structure FbN (P : Program) (w : World) (K : PySem.W.Frag) (mg : Str → Option Value) (base : Heap) (k : Nat) (f : Addr) (fd : FuncData) (ps : List Str) (sp : Sp) : Prop where
  len : ∀ vs H Q E, sp vs H Q E → vs.length = ps.length
  run : ∀ (A : Around) (outer : List Env) (s : Shared) (H : Hp) (args : Args) (us : List Value) (vs : List V) (Q : VK) (E : XK), Rm k A → Env0 P w K mg base A outer s H → BindsTo s fd args (ps.zip us) → Vals vs us → sp vs H Q E →
    codeAny (model P w) A (.call (.ref f) args) (CR (L2N.CX P w) outer P w H s Q E) s
section
variable {P : Program} {w : World} {K : PySem.W.Frag} {mg : Str → Option Value} {base : Heap} {x qual : Str} {params : Arguments} {body : List Stmt} {scope : Scope} {dvs : List V} {kws : List (Str × V)} {f : Addr} {fd : FuncData} {k : Nat} {ps N : List Str} {sp : Sp}
theorem fbN_of (F : FunD K x qual params body scope dvs kws f fd) (S : FnScope N ps scope) (len : ∀ vs H Q E, sp vs H Q E → vs.length = ps.length)
    (hbody : ∀ (cdv : Value) (A : Around) (outer : List Env) (s : Shared) (H : Hp) (vs : List V) (Q : VK) (E : XK), Rm k (A.deeper (envOfC qual scope s.heap.objs.size f cdv)) → sp vs H Q E →
      ∃ t, PSs (cxOf (L2N.CX P w) P w K mg base N qual scope f cdv A outer s H E) body t ∧ t { nx := fun _ H' => Q .non H', rt := Q } (start N vs) H) : FbN P w K mg base (k + 1) f fd ps sp := by
  obtain ⟨oc, od, dV, kV, doc, pm, an, cdv, ct, osl, rfl, lk, hcd, _, _⟩ := F.ex
  refine ⟨len, fun A outer s H args us vs Q E hr e0 hb r hsp => ?_⟩
  have hl := len _ _ _ _ hsp
  have KX : K.In s.heap := e0.mod.kin.keeps fun b o e => (e0.bs b o e).1
  have lim : s.heap.NoLimit := e0.mod.nolimit.keeps fun b o e => (e0.bs b o e).1
  have hkind : ∀ y ∈ ps.zip us, scope.names.lookup y.1 = some .local ∨ (scope.names.lookup y.1 = some .cell ∧ ((cellsFrom (s.heap.objs.size + 1) scope.names []).lookup y.1).isSome = true) := fun ⟨n, v⟩ hy => by
    rcases S.par n (List.of_mem_zip hy).1 with q | q
    · exact .inl q
    · exact .inr ⟨q, PySem.W.cellsFrom_some _ _ _ (.inl q)⟩
  refine codeAny_call_function hr.rm.depth (KX _ _ lk) rfl S.co S.gen rfl (PySem.W.codeRec_of KX hcd) (hb _ _ _ _ ?_)
  refine wpAny_newFunctionEnv_cells S.kind hkind fun env he s1 x => ?_
  subst he
  refine ⟨lim.keeps x.toInCall.keep, codeAny_func ?_⟩
  obtain ⟨t, ht, hq⟩ := hbody cdv A outer s H vs Q E (hr.deeper _) hsp
  have I : Inv (cxOf (L2N.CX P w) P w K mg base N qual scope f cdv A outer s H E) [] (start N vs) H s1 := inv_start S hr.rm.hd e0 hl r x
  refine wpAny_mono (ht.run [] s1 (start N vs) H _ I hq) (fun fl s' hs => ?_) fun e s' hs => hs
  have fin : ∀ {σ' : L2.St} {H' : Hp} {v : V} {u : Value}, Inv (cxOf (L2N.CX P w) P w K mg base N qual scope f cdv A outer s H E) [] σ' H' s' → RelV v u → Q v H' → CE outer P w H s Q u s' :=
    fun {σ' H' v u} J rv q => ⟨v, H', J.os, J.bare, J.base, J.hok, rv, q⟩
  cases fl with
  | ret u =>
    obtain ⟨v, σ', H', J, rv, q⟩ := hs
    exact fin J rv q
  | next =>
    obtain ⟨σ', H', J, q⟩ := hs
    exact fin (v := V.non) (u := Value.none) J rfl q
  | brk =>
    obtain ⟨_, _, _, q⟩ := hs
    exact False.elim q
  | cont =>
    obtain ⟨_, _, _, q⟩ := hs
    exact False.elim q
theorem FbN.mono {j : Nat} (F : FbN P w K mg base j f fd ps sp) (h : j ≤ k) : FbN P w K mg base k f fd ps sp := ⟨F.len, fun A outer s H args us vs Q E hr => F.run A outer s H args us vs Q E (hr.mono h)⟩
theorem FbN.imp {sp' : Sp} (F : FbN P w K mg base k f fd ps sp) (h : ∀ vs H Q E, sp' vs H Q E → sp vs H Q E) : FbN P w K mg base k f fd ps sp' :=
  ⟨fun vs H Q E q => F.len vs H Q E (h _ _ _ _ q), fun A outer s H args us vs Q E hr he hb hv hs => F.run A outer s H args us vs Q E hr he hb hv (h _ _ _ _ hs)⟩
def FcN (P : Program) (w : World) (K : PySem.W.Frag) (mg : Str → Option Value) (base : Heap) (k : Nat) (f : Addr) (ks : List Str) (sp : Sp) : Prop :=
  ∀ (A : Around) (outer : List Env) (s : Shared) (H : Hp) (us ws : List Value) (vs : List V) (Q : VK) (E : XK), Rm k A → Env0 P w K mg base A outer s H → Vals vs (us ++ ws) → ws.length = ks.length → sp vs H Q E →
    codeAny (model P w) A (.call (.ref f) ⟨us, ks.zip ws⟩) (CR (L2N.CX P w) outer P w H s Q E) s
theorem FcN.mono {j : Nat} {ks : List Str} (F : FcN P w K mg base j f ks sp) (h : j ≤ k) : FcN P w K mg base k f ks sp := fun A outer s H us ws vs Q E hr => F A outer s H us ws vs Q E (hr.mono h)
theorem FcN.imp {sp' : Sp} {ks : List Str} (F : FcN P w K mg base k f ks sp) (h : ∀ vs H Q E, sp' vs H Q E → sp vs H Q E) : FcN P w K mg base k f ks sp' :=
  fun A outer s H us ws vs Q E hr he hv hl hs => F A outer s H us ws vs Q E hr he hv hl (h _ _ _ _ hs)
/-- every parameter is given by place -/
theorem FbN.all (F : FbN P w K mg base k f fd ps sp) (hb : Binds K fd ps []) : FcN P w K mg base k f [] sp := fun A outer s H us ws vs Q E hr e0 r hl h => by
  cases ws with
  | cons w ws => cases hl
  | nil =>
    rw [List.append_nil] at r
    have KX : K.In s.heap := e0.mod.kin.keeps fun b o e => (e0.bs b o e).1
    have l2 : us.length = ps.length := by rw [← r.length]; exact F.len _ _ _ _ h
    have b := hb s us KX (by rw [List.append_nil]; exact l2)
    rw [List.append_nil] at b
    exact F.run A outer s H ⟨us, []⟩ us vs Q E hr e0 b r h
/-- all parameters given, some by name, no defaults -/
theorem FbN.names (D : FunD K x qual params body scope [] kws f fd) (F : FbN P w K mg base k f fd ps sp) (n : Nat) (ks : List Str) (g : {α : Type} → List α → List α)
    (hrel : ∀ {vs : List V} {us : List Value}, Vals vs us → Vals (g vs) (g us))
    (h : ∀ (kV doc pm : Value) (an : Option Addr) (cdv ct : Value) (us ws : List Value), us.length = n → ws.length = ks.length →
      bindArgs (PySem.W.fnOf x qual params body scope .none kV doc pm an cdv ct) ⟨us, ks.zip ws⟩ = pure (ps.zip (g (us ++ ws)))) :
    FcN P w K mg base k f ks (fun vs H Q E => vs.length = n + ks.length ∧ sp (g vs) H Q E) := by
  obtain ⟨oc, od, dV, kV, doc, pm, an, cdv, ct, osl, rfl, lk, hcd, hD, hK⟩ := D.ex
  rcases hD with ⟨_, rfl⟩ | ⟨e, _⟩
  · intro A outer s H us ws vs Q E hr e0 r hl hsp
    have l2 : us.length = n := by
      have e := r.length
      rw [hsp.1, List.length_append, hl] at e
      omega
    exact F.run A outer s H ⟨us, ks.zip ws⟩ (g (us ++ ws)) (g vs) Q E hr e0 (.of_eq (h kV doc pm an cdv ct us ws l2 hl)) (hrel r) hsp.2
  · exact absurd rfl e
end
theorem cxN {P : Program} {w : World} {outer : List Env} {H : Hp} {s : Shared} {E : XK} {u : Value} {s' : Shared} (h : L2N.CX P w outer H s E u s') : L2.CX P w outer H s E u s' := by
  obtain ⟨a, B, H', cls, d, e, fl, r⟩ := h
  exact ⟨a, B, H', cls, d, e, L2H.flyingZ_imp (fun o z => z.zc) fl, r⟩
theorem FcN.fc {P : Program} {w : World} {K : PySem.W.Frag} {mg : Str → Option Value} {base : Heap} {k : Nat} {f : Addr} {ks : List Str} {sp : Sp} (F : FcN P w K mg base k f ks sp) : Fc P w K mg base k f ks sp :=
  fun A outer s H us ws vs Q E hr e0 r hl h => codeAny_mono (F A outer s H us ws vs Q E hr e0 r hl h) fun r s' hq => by
    cases r with
    | error e => exact cxN hq
    | ok fl =>
      cases fl with
      | ret u => exact hq
      | next => exact hq
      | brk => exact hq
      | cont => exact hq
end L3
namespace L3
open PySem PySem.Spec PyProof.Rows L2 L2H HotX
end L3
set_option Elab.async false
set_option linter.all false
set_option maxRecDepth 100000
set_option maxHeartbeats 4000000
namespace L3
open PySem PySem.Spec PyProof.Rows L2
end L3
set_option Elab.async false
set_option linter.all false
set_option maxRecDepth 100000
set_option maxHeartbeats 4000000
namespace L3
open PySem PySem.Spec PyProof.Rows L2
def Stays (H H' : Hp) (x : V) : Prop := ∀ a o, x = .ref a → H a = some o → H' a = some o
theorem tyOf_at {K : PySem.W.Frag} {H H' : Hp} {x : V} {t : Value} (e : Stays H H' x) (h : TyOf K H x t) : TyOf K H' x t := by
  cases h with
  | non => exact .non
  | bl x => exact .bl x
  | int i => exact .int i
  | str x => exact .str x
  | flt x => exact .flt x
  | lst h => exact .lst (e _ _ rfl h)
  | frz h => exact .frz (e _ _ rfl h)
  | tup h => exact .tup (e _ _ rfl h)
  | dK h => exact .dK (e _ _ rfl h)
  | dT h => exact .dT (e _ _ rfl h)
  | ins h cl ha hn htk hm => exact .ins (e _ _ rfl h) cl ha hn htk hm
theorem tyX_at {K : PySem.W.Frag} {H H' : Hp} {x : V} {t : Value} (e : Stays H H' x) (h : TyX K H x t) : TyX K H' x t := by
  cases h with
  | base h => exact .base (tyOf_at e h)
  | byt b => exact .byt b
  | set h => exact .set (e _ _ rfl h)
  | kList h c => exact .kList h c
  | kTuple h c => exact .kTuple h c
  | kDict h c => exact .kDict h c
  | fTuple h => exact .fTuple (e _ _ rfl h)
  | fDict h => exact .fDict (e _ _ rfl h)
theorem Cl.at {K : PySem.W.Frag} {H H' : Hp} {x : V} (c : Cl K H x) (e : Stays H H' x) : Cl K H' x := let ⟨t, b, d, h1, h2⟩ := c; ⟨t, b, d, tyX_at e h1, h2⟩
end L3
set_option Elab.async false
set_option linter.all false
set_option maxRecDepth 100000
set_option maxHeartbeats 4000000
namespace L3
open PySem PySem.Spec PyProof.Rows L2
def obsA (as : List Addr) (xf : List Fx) (fn : List He.DefD) (g : Addr → Option Obj) : He.AlD := obsX xf fn (He.frG g as)
def hookA (as : List Addr) (xf : List Fx) (fn : List He.DefD) : PySem.W.Hook where
  α := He.AlD
  obs := fun s => obsA as xf fn s.heap.get?
  val := fun _ => He.valD fn
  says := fun _ h => ∃ K : PySem.W.Frag, K.In h ∧ SaysX xf fn K
  of := fun _ _ e => ⟨_, He.frG_in, e⟩
  keeps := fun _ _ _ ⟨K, hK, c⟩ k => ⟨K, PySem.W.Frag.In.keeps hK k, c⟩
theorem obsA_eq {as : List Addr} {xf : List Fx} {fn : List He.DefD} {g : Addr → Option Obj} {s : Shared} (h : ∀ a, g a = s.heap.get? a) : obsA as xf fn g = (hookA as xf fn).obs s := by
  have e : g = s.heap.get? := funext h
  rw [e] <;> rfl
end L3
noncomputable section
namespace HandSHeadRun
open PySem PySem.W PySem.Calls PyProof.Rows
abbrev endR (r : OpenRow) (M : Nat) (w : World) (os : OsState) : Option SharedT := endF (stepQ (denQ tabQ) r.prog w) M r.prog w os
/-- what the machine's own looks say behind the run -/
def RunA (r : OpenRow) (q : Program) (M : Nat) (loose : List PySem.Str) (w : World) : Prop :=
  ∀ os : OsState, (endR r M w os).map (fun s => (looksF r.prog (boot_heap w.params) s.abs, seenQ q loose (importedModules r.prog.main.body) (fun s => xlAt q [] s && recOk r.toRowW.records s) s.abs)) = some (true, openGood q loose)
/-- some facts of what stands behind the run -/
def RunB (r : OpenRow) (M : Nat) (fs : SharedT → Bool) (w : World) : Prop := ∀ os : OsState, (endR r M w os).map fs = some true
/-- the defs' own values -/
def RunC (r : OpenRow) (H : Hook) (ob : SharedT → H.α) (M : Nat) (w : World) : Prop := ∀ os : OsState, (endR r M w os).map ob = some (H.val w)
theorem runEq_of {r : OpenRow} {q : Program} {H : Hook} {ob : SharedT → H.α} {M : Nat} {loose : List PySem.Str} {w : World} (a : RunA r q M loose w) (c : RunC r H ob M w) : RunEq r q H ob M loose w := fun os => by
  have h1 := a os
  have h2 := c os
  show (endR r M w os).map _ = _
  cases e : endR r M w os with
  | none =>
    rw [e] at h1
    cases h1
  | some s =>
    rw [e] at h1 h2
    have g1 := Option.some.inj h1
    have g2 := Option.some.inj h2
    show some _ = some _
    rw [← g2]
    have e1 := congrArg Prod.fst g1
    have e2 := congrArg Prod.snd g1
    dsimp only at e1 e2 ⊢
    rw [e1, e2]
end HandSHeadRun
end
namespace L3
open PySem PySem.Spec PyProof.Rows L2 HandSHeadRun
/-- the facts in three parts: two of the Bools, one of the defs -/
theorem runC_of {r : PySem.W.OpenRow} {as : List Addr} {xf xf1 xf2 : List Fx} {fn : List He.DefD} {M : Nat} {w : World} (e : xf = xf1 ++ xf2)
    (a : RunB r M (fun s => xf1.all fun p => p (He.frG (getT s) as)) w) (b : RunB r M (fun s => xf2.all fun p => p (He.frG (getT s) as)) w)
    (c : ∀ os : OsState, (endR r M w os).map (fun s => (fn.all fun d => d.ok (He.frG (getT s) as), fn.map fun d => He.fnW (He.frG (getT s) as) d.at_)) = some (true, fn.map He.DefD.val)) :
    RunC r (hookA as xf fn) (fun s => obsA as xf fn (getT s)) M w := fun os => by
  have h1 := a os
  have h2 := b os
  have h3 := c os
  cases e2 : endR r M w os with
  | none =>
    rw [e2] at h1
    cases h1
  | some s =>
    rw [e2] at h1 h2 h3
    have g1 : (xf1.all fun p => p (He.frG (getT s) as)) = true := Option.some.inj h1
    have g2 : (xf2.all fun p => p (He.frG (getT s) as)) = true := Option.some.inj h2
    have g3 := Option.some.inj h3
    have e3 := congrArg Prod.fst g3
    have e4 := congrArg Prod.snd g3
    dsimp only at e3 e4
    show some (obsA as xf fn (getT s)) = some (He.valD fn)
    unfold obsA obsX He.valD
    rw [e, List.all_append, g1, g2, e3, e4]
    rfl
end L3
set_option Elab.async false
set_option linter.all false
set_option maxRecDepth 100000
set_option maxHeartbeats 4000000
namespace L3
open PySem PySem.Spec PyProof.Rows L2
end L3
namespace L3
open PySem PySem.Spec PyProof.Rows L2
/-- at a a list or a tuple of these -/
def SqS (K : PySem.W.Frag) (H : Hp) (a : Addr) (xs : List V) : Prop := SqL K H a xs ∨ SqT K H a xs
theorem SqS.at {K : PySem.W.Frag} {H H' : Hp} {a : Addr} {xs : List V} (h : SqS K H a xs) (e : Stays H H' (.ref a)) : SqS K H' a xs := by
  rcases h with ((h | ⟨o, h⟩) | h) | ((h | ⟨o, h⟩) | h)
  · exact .inl (.inl (.inl (e _ _ rfl h)))
  · exact .inl (.inl (.inr ⟨o, e _ _ rfl h⟩))
  · exact .inl (.inr h)
  · exact .inr (.inl (.inl (e _ _ rfl h)))
  · exact .inr (.inl (.inr ⟨o, e _ _ rfl h⟩))
  · exact .inr (.inr h)
theorem stays_ex {H H' : Hp} {x : V} (e : Ex H H') : Stays H H' x := fun a o _ h => e a o h
theorem SqS.mono {K : PySem.W.Frag} {H H' : Hp} {a : Addr} {xs : List V} (h : SqS K H a xs) (e : Ex H H') : SqS K H' a xs := h.at (stays_ex e)
theorem sqL_at {K : PySem.W.Frag} {H H' : Hp} {a : Addr} {xs : List V} (h : SqL K H a xs) (e : Stays H H' (.ref a)) : SqL K H' a xs := by
  rcases h with (h | ⟨o, h⟩) | h
  · exact .inl (.inl (e _ _ rfl h))
  · exact .inl (.inr ⟨o, e _ _ rfl h⟩)
  · exact .inr h
theorem sqT_at {K : PySem.W.Frag} {H H' : Hp} {a : Addr} {xs : List V} (h : SqT K H a xs) (e : Stays H H' (.ref a)) : SqT K H' a xs := by
  rcases h with (h | ⟨o, h⟩) | h
  · exact .inl (.inl (e _ _ rfl h))
  · exact .inl (.inr ⟨o, e _ _ rfl h⟩)
  · exact .inr h
/-- what is a list or a tuple, walked: J stands for either walk, G for what it asks of a heap -/
def iSeqB (K : PySem.W.Frag) (tl : TE) : TI := fun σ H R => tl σ H fun v H1 => ∃ a xs, v = .ref a ∧ SqS K H1 a xs ∧ ∀ J G, L2.Walk J xs.length G (L2.YAt xs) → (∀ H', Stays H1 H' (.ref a) → G H') → R J H1
theorem pi_seqB {X : Cx} {tg l : Expr} {tl : TE} (hl : PE X l tl) (K : PySem.W.Frag) (hK : X.K = K := by rfl) : PI X tg l (iSeqB K tl) := by
  subst hK
  refine ⟨fun pins s σ H R I h => ?_⟩
  refine thn (hl.run pins s σ H _ I h) fun v s1 ⟨x, H1, I1, r1, a, xs, e, hq, q⟩ => ?_
  subst e
  cases r1
  rcases hq with hq | hq
  · have q1 := q (Itl X.K a) (fun H => SqL X.K H a xs) L2.walk_list fun H' e => sqL_at hq e
    obtain ⟨its, rv, p, hz⟩ := I1.list hq
    refine wpAny_pyIter_list p.isList ?_
    refine ⟨s1.heap.objs.size, [s1.heap.objs.size], _, _, H1, rfl, I1.kept (t' := s1.toks) fun b o e => Heap.get?_push_of_some _ e, turn_list a _, ⟨_, Heap.get?_push_size _ rfl, rfl, rfl⟩, fun b hb => ?_, q1⟩
    have e : b = s1.heap.objs.size := by simpa using hb
    subst e
    exact I1.fpOk (Nat.le_refl _) (I1.hok.fresh (Nat.le_refl _))
  · have q1 := q (Itt X.K a) (fun H => SqT X.K H a xs) L2.walk_tup fun H' e => sqT_at hq e
    obtain ⟨its, rv, p, hz⟩ := I1.tuple hq
    refine wpAny_pyIter_tuple (show s1.heap.IsTuple a its.toArray from p) ?_
    refine ⟨s1.heap.objs.size, [s1.heap.objs.size], _, _, H1, rfl, I1.kept (t' := s1.toks) fun b o e => Heap.get?_push_of_some _ e, turn_tuple a _, ⟨_, Heap.get?_push_size _ rfl, rfl, rfl⟩, fun b hb => ?_, q1⟩
    have e : b = s1.heap.objs.size := by simpa using hb
    subst e
    exact I1.fpOk (Nat.le_refl _) (I1.hok.fresh (Nat.le_refl _))
end L3
set_option Elab.async false
set_option linter.all false
set_option maxRecDepth 100000
set_option maxHeartbeats 4000000
namespace L3
open PySem PySem.Spec PyProof.Rows L2
end L3
set_option Elab.async false
set_option linter.all false
set_option maxRecDepth 100000
set_option maxHeartbeats 4000000
namespace L3
open PySem PySem.Spec PySem.Calls PyProof.Rows
section
open PySem.W
variable {prog : Program} {w : World} {A : Around} {E : Value → Shared → Prop} {s : Shared} {K : Frag} {x D : Addr} {ox : Obj} {od : Option Obj}
theorem findObj_dataA {C : Addr} {name : Str} {a g : Value} (hc : (clsIn K C).isSome = true) (ha : findIn K (.ref C) name = some (some a)) (hg : specialIn K a "__get__" = some (some g)) (ht : takesIn K a = some true) : findObj K C od name = some (.bind g a) := by
  obtain ⟨cd, hc⟩ := Option.isSome_iff_exists.mp hc
  unfold findObj
  rw [hc, Option.bind_some, ha, Option.bind_some]
  simp [hg, ht]
/-- e.__class__, with or without fields of its own -/
theorem kin_classA {Q : Option Value → Shared → Prop} (C : L2.ExcC K D) (X : K.In s.heap) (I : W.InstAt s.heap x ox D od) (h : Q (some (.ref D)) { s with toks := s.toks + 1 }) : wpAny (model prog w) A (getAttr? (.ref x) "__class__") Q E s := by
  have hf : findObj K D od "__class__" = some (.bind (.builtin "getset_descriptor.__get__") (.builtin "object.__class__")) := findObj_dataA (by obtain ⟨cd, hc, _⟩ := any_some C.hd; rw [hc]; rfl) C.ha C.hn C.ht
  obtain ⟨hp, g, d, t, os⟩ := s
  have L0 := I.type (M := model prog w)
  have L1 := looks_findIn (M := model prog w) X C.hg
  have L2 := looks_findIn (M := model prog w) X C.hk
  have L3 := looks_find (M := model prog w) X I hf
  have sub : Looks (model prog w) hp (isInstance (.ref x) (.type "BaseException")) true := L0.andThen (looks_subIn X C.hs)
  have hx0 : (false && onTheHeap (Value.builtin "BaseException.__getattribute__")) = false := rfl
  have hx2 : (Value.builtin "BaseException.__getattribute__" == Value.builtin "object.__getattribute__") = false := by decide +kernel
  have hx1 : (onTheHeap (Value.ref D) && Value.builtin "BaseException.__getattribute__" == Value.builtin "object.__getattribute__") = false := by rw [hx2]; rfl
  unfold getAttr? getAttrBy? getAttrBy
  refine wpAny_bind (wpAny_mkText (wpAny_bind (wpAny_attempt (wpAny_holding (wpAny_bind (L0.at (wpAny_bind (L1.at ?_))))))))
  show wpAny _ _ (if (onTheHeap (Value.ref D) && Value.builtin "BaseException.__getattribute__" == Value.builtin "object.__getattribute__") = true then _ else _) _ _ _
  rw [hx1, if_neg Bool.false_ne_true]
  unfold getAttrByItsOwn hookBefore
  refine wpAny_bind ?_
  rw [if_pos (show onTheHeap (Value.ref D) = true from rfl)]
  refine L2.at ?_
  refine wpAny_bind (wpAny_attempt (wpAny_holding ?_))
  unfold callGetattribute
  rw [hx0, if_neg Bool.false_ne_true]
  unfold boundAndCalled
  rw [PySem.F.excAttr_ValueError.ga.bind (.ref x)]
  refine wpAny_bind (wpAny_pure ?_)
  show wpAny _ _ (call (.builtin "BaseException.__getattribute__") [.ref x, .str "__class__" t]) _ _ _
  refine wpAny_call (codeAny_call_builtin PySem.F.excAttr_ValueError.ga.plain PySem.F.entry_bexc_ga ?_)
  refine @check_slot (model prog w) _ _ ⟨hp, g, d, t + 1, os⟩ "BaseException.__getattribute__" "BaseException" "__getattribute__" (.ref x) [.str "__class__" t] [] _ (by decide +kernel) (by decide +kernel) sub (PySem.F.args_bexc_ga (.ref x) (.str "__class__" t)) ?_
  unfold Builtin.«object.__getattribute__»
  refine wpAny_bind (wpAny_of_eq (a := ((Value.ref x : Value), [Value.str "__class__" t])) (by first | rfl | (simp only [slotArgs]; rfl)) ?_)
  refine wpAny_bind (wpAny_pure (wpAny_bind (L0.at (wpAny_bind (L3.at ?_)))))
  show wpAny _ _ (holding [Value.builtin "object.__class__"] (call (.builtin "getset_descriptor.__get__") [.builtin "object.__class__", .ref x, .ref D]) >>= ret) _ _ _
  refine wpAny_bind (wpAny_holding (wpAny_call (class_get (s := ⟨hp, g, d, t + 1, os⟩) (ox := ox) (od := od) X I C.hm ?_)))
  refine wpAny_pure ?_
  show wpAny _ _ (handedOut (.ref D)) _ _ _
  rw [handedOut_of (v := .ref D) rfl]
  first
    | exact wpAny_pure (wpAny_pure h)
    | exact wpAny_pure h
    | exact wpAny_pure (wpAny_bind (wpAny_pure (wpAny_pure h)))
theorem kitx_excA (C : L2.ExcC K D) : KitX K (.ref x) (.ref D) (fun h => W.InstAt h x ox D od) where
  ty := fun _ _ _ I => I.type
  it := fun _ _ X _ => by
    obtain ⟨cdD, hcD, _⟩ := any_some C.hd
    unfold clsIn at hcD
    split at hcD
    · rename_i c' d' cd' sl' ho
      intro A' Q' E' s' k q
      unfold isType loadHead
      exact wpAny_bind (wpAny_loadPart (k _ _ (X _ _ ho)) (wpAny_pure q))
    · cases hcD
  ne := fun h tp dd its n sl X htp => by
    obtain ⟨cdD, hcD, _⟩ := any_some C.hd
    refine Bool.eq_false_iff.mpr fun q => ?_
    have e : D = tp := Value.ref.inj (beq_iff_eq.mp q)
    subst e
    unfold clsIn at hcD
    split at hcD
    · rename_i c' d' cd' sl' ho
      have z := (X _ _ ho).symm.trans htp
      cases z
    · cases hcD
  ca := fun X I k => kin_classA C X I k
end
open L2
/-- the exception's own fields, if it has any -/
def XdAt (H : Hp) (d : Option Addr) : Prop := d = none ∨ ∃ dd fs, d = some dd ∧ H dd = some (.xd fs)
section
variable {X : Cx} {a D : Addr} {oe : Obj} {cls : Value} {d : Option Addr} {pins : List (Addr × Obj)} {s : Shared} {σ : L2.St} {H : Hp}
theorem pin_inst (I : Inv X pins σ H s) (hp : (a, oe) ∈ X.pn) (hz : Zc (.ref D) d oe) (hf : ∃ vs, oe.data = .fields vs) (hd : XdAt H d) : ∃ od, PySem.W.InstAt s.heap a oe D od := by
  obtain ⟨hget, _⟩ := I.pin (a, oe) (List.mem_append.mpr (.inl hp))
  obtain ⟨vs, hv⟩ := hf
  obtain ⟨oc, odd, oda, osl⟩ := oe
  obtain ⟨h1, h2⟩ := hz
  dsimp only at h1 h2 hv
  subst h1 h2 hv
  rcases hd with rfl | ⟨dd, fs, rfl, hdd⟩
  · exact ⟨none, hget, rfl, rfl, trivial⟩
  · have hx : ObjOk X.prog X.w H s.heap dd (.xd fs) := I.hok dd _ hdd
    obtain ⟨mA, hns, _⟩ := hx
    obtain ⟨od, ho, _⟩ := lookIn_ns hns
    exact ⟨some od, hget, rfl, rfl, ho⟩
/-- isinstance(e, C), isinstance(e, (C, ..)), e the exception -/
def rIsP (K : PySem.W.Frag) (a : Addr) (cls : Value) (d : Option Addr) : List V → Hp → VK → Prop := fun xs H Q => ∃ (D : Addr) (c : V) (cv : Value) (b : Bool), cls = .ref D ∧ ExcC K D ∧ XdAt H d ∧ xs = [.ref a, c] ∧ ClsV c cv ∧ PySem.W.kitOne K (.ref D) cv = some b ∧ Q (.bl b) H
def rIsPT (K : PySem.W.Frag) (a : Addr) (cls : Value) (d : Option Addr) : List V → Hp → VK → Prop := fun xs H Q => ∃ (D tp : Addr) (cs : List V) (us : List Value) (b : Bool), cls = .ref D ∧ ExcC K D ∧ XdAt H d ∧ xs = [.ref a, .ref tp] ∧ H tp = some (.tup cs) ∧ Paired ClsV cs us ∧ PySem.W.kitAny K (.ref D) us = some b ∧ Q (.bl b) H
theorem call_isP (K : PySem.W.Frag) (hp : (a, oe) ∈ X.pn) (hz : Zc cls d oe) (hf : ∃ vs, oe.data = .fields vs) (hK : X.K = K := by rfl) : CallR X (.builtin "isinstance") (rIsP K a cls d) := by
  subst hK
  intro pins s σ H xs us Q I r h
  obtain ⟨D, c, cv, b, rfl, C, hd, rfl, k, e, q⟩ := h
  obtain ⟨u1, u2, rfl, r1, r2⟩ := vals2 r
  have e2 := k.eq r2
  subst e2
  cases (show u1 = Value.ref a from r1)
  obtain ⟨od, J⟩ := pin_inst I hp hz hf hd
  exact PySem.W.kia_one (kitx_excA C) I.kIn J e (fun z => nomatch z) fun tk => ⟨.bl b, H, I.kept (t' := tk) fun _ _ z => z, rfl, q⟩
theorem call_isPT (K : PySem.W.Frag) (hp : (a, oe) ∈ X.pn) (hz : Zc cls d oe) (hf : ∃ vs, oe.data = .fields vs) (hK : X.K = K := by rfl) : CallR X (.builtin "isinstance") (rIsPT K a cls d) := by
  subst hK
  intro pins s σ H xs us Q I r h
  obtain ⟨D, tp, cs, ws, b, rfl, C, hd, rfl, hT, k, e, q⟩ := h
  obtain ⟨u1, u2, rfl, r1, r2⟩ := vals2 r
  cases (show u1 = Value.ref a from r1)
  cases (show u2 = Value.ref tp from r2)
  obtain ⟨_, its, rv, o, h1, h2, n, h3⟩ := (show ObjOk X.prog X.w H s.heap tp (.tup cs) from I.hok tp _ hT)
  have e3 := ClsV.all k rv
  subst e3
  obtain ⟨oc, odd, dt, sl⟩ := o
  simp only at h2 h3
  subst h2 h3
  obtain ⟨od, J⟩ := pin_inst I hp hz hf hd
  exact PySem.W.kia_tup (kitx_excA C) I.kIn J h1 e (fun z => nomatch z) fun tk => ⟨.bl b, H, I.kept (t' := tk) fun _ _ z => z, rfl, q⟩
/-- e.f, e the exception -/
def tXfP (K : PySem.W.Frag) (a : Addr) (cls : Value) (d : Option Addr) (f : Str) (te : TE) : TE := fun σ H Q => te σ H fun x H1 => x = .ref a ∧ ∃ (C dd : Addr) (fs : List (Str × V)) (v : V), cls = .ref C ∧ XfC K C ∧ PySem.W.findIn K (.ref C) f = some none ∧ d = some dd ∧ H1 dd = some (.xd fs) ∧ fs.lookup f = some v ∧ Q v H1
theorem pe_xfP {e : Expr} {te : TE} {pos : Pos} {n : Str} (K : PySem.W.Frag) (hp : (a, oe) ∈ X.pn) (hz : Zc cls d oe) (hf : ∃ vs, oe.data = .fields vs) (he : PE X e te) (hK : X.K = K := by rfl) (hb : attributeBase e n X.env (eval e X.env) = eval e X.env := by rfl) :
    PE X (.Attribute e n pos) (tXfP K a cls d n te) := by
  subst hK
  refine ⟨fun pins s σ H Q I h => ?_⟩
  refine attr_of hb (thn (he.run pins s σ H _ I h) fun u s1 hh => ?_)
  obtain ⟨x, H1, I1, rx, ex, C, dd, fs, v, ec, T, hno, ed, ea, l, q⟩ := hh
  subst ex
  obtain rfl : u = Value.ref a := rx
  subst ec
  subst ed
  obtain ⟨ha, _⟩ := I1.pin (a, oe) (List.mem_append_left _ hp)
  obtain ⟨vs, hd⟩ := hf
  have hx : ObjOk X.prog X.w H1 s1.heap dd (.xd fs) := I1.hok dd _ ea
  obtain ⟨mA, hns, hr⟩ := hx
  obtain ⟨od, ho, hl⟩ := lookIn_ns hns
  obtain ⟨u, hu, ru⟩ := RelO.some_of (v := v) (o := mA n) (by rw [← l]; exact hr n)
  have J : PySem.W.InstAt s1.heap a oe C (some od) := ⟨ha, hz.1, by unfold PySem.W.notCls; rw [hd] <;> rfl, by rw [hz.2]; exact ho⟩
  exact HandSPX.exc_get I1.kIn J T.ga T.gg T.exC (PySem.W.findObj_own T.hdC hno rfl (by rw [hl, hu])) (handed_of ru) ⟨v, H1, I1.tok _, ru, q⟩
end
abbrev SpP := Addr × Obj → Sp
structure FbP (P : Program) (w : World) (K : PySem.W.Frag) (mg : Str → Option Value) (base : Heap) (k : Nat) (f : Addr) (fd : FuncData) (ps : List Str) (sp : SpP) : Prop where
  len : ∀ p vs H Q E, sp p vs H Q E → vs.length = ps.length
  run : ∀ (A : Around) (outer : List Env) (s : Shared) (H : Hp) (args : Args) (us : List Value) (vs : List V) (Q : VK) (E : XK) (p : Addr × Obj), L2H.RoomH k A → L2H.PinOk outer H s p → Env0 P w K mg base A outer s H → BindsTo s fd args (ps.zip us) → Vals vs us → sp p vs H Q E →
    codeAny (model P w) A (.call (.ref f) args) (CR (L2.CX P w) outer P w H s Q E) s
section
variable {P : Program} {w : World} {K : PySem.W.Frag} {mg : Str → Option Value} {base : Heap} {x qual : Str} {params : Arguments} {body : List Stmt} {scope : Scope} {dvs : List V} {kws : List (Str × V)} {f : Addr} {fd : FuncData} {k : Nat} {ps N : List Str} {sp : SpP}
theorem fbP_of (F : FunD K x qual params body scope dvs kws f fd) (S : FnScope N ps scope) (len : ∀ p vs H Q E, sp p vs H Q E → vs.length = ps.length)
    (hbody : ∀ (cdv : Value) (A : Around) (outer : List Env) (s : Shared) (H : Hp) (vs : List V) (Q : VK) (E : XK) (p : Addr × Obj), L2H.RoomH k (A.deeper (envOfC qual scope s.heap.objs.size f cdv)) → sp p vs H Q E →
      ∃ t, PSs (L2H.cxH (L2.CX P w) P w K mg base N qual scope f cdv A outer s H E p) body t ∧ t { nx := fun _ H' => Q .non H', rt := Q } (L2.start N vs) H) : FbP P w K mg base (k + 1) f fd ps sp := by
  obtain ⟨oc, od, dV, kV, doc, pm, an, cdv, ct, osl, rfl, lk, hcd, _, _⟩ := F.ex
  refine ⟨len, fun A outer s H args us vs Q E p hr hpin e0 hb r hsp => ?_⟩
  have hl := len _ _ _ _ _ hsp
  have KX : K.In s.heap := e0.mod.kin.keeps fun b o e => (e0.bs b o e).1
  have lim : s.heap.NoLimit := e0.mod.nolimit.keeps fun b o e => (e0.bs b o e).1
  have hkind : ∀ y ∈ ps.zip us, scope.names.lookup y.1 = some .local ∨ (scope.names.lookup y.1 = some .cell ∧ ((cellsFrom (s.heap.objs.size + 1) scope.names []).lookup y.1).isSome = true) := fun ⟨n, v⟩ hy => by
    rcases S.par n (List.of_mem_zip hy).1 with q | q
    · exact .inl q
    · exact .inr ⟨q, PySem.W.cellsFrom_some _ _ _ (.inl q)⟩
  refine codeAny_call_function hr.depth (KX _ _ lk) rfl S.co S.gen rfl (PySem.W.codeRec_of KX hcd) (hb _ _ _ _ ?_)
  refine wpAny_newFunctionEnv_cells S.kind hkind fun env he s1 x => ?_
  subst he
  refine ⟨lim.keeps x.toInCall.keep, codeAny_func ?_⟩
  obtain ⟨t, ht, hq⟩ := hbody cdv A outer s H vs Q E p (hr.deeper _) hsp
  have I : Inv (L2H.cxH (L2.CX P w) P w K mg base N qual scope f cdv A outer s H E p) [] (L2.start N vs) H s1 := L2H.inv_startH S hpin e0 hl r x
  refine wpAny_mono (ht.run [] s1 (L2.start N vs) H _ I hq) (fun fl s' hs => ?_) fun e s' hs => hs
  have fin : ∀ {σ' : L2.St} {H' : Hp} {v : V} {u : Value}, Inv (L2H.cxH (L2.CX P w) P w K mg base N qual scope f cdv A outer s H E p) [] σ' H' s' → RelV v u → Q v H' → CE outer P w H s Q u s' :=
    fun {σ' H' v u} J rv q => ⟨v, H', J.os, J.bare, J.base, J.hok, rv, q⟩
  cases fl with
  | ret u =>
    obtain ⟨v, σ', H', J, rv, q⟩ := hs
    exact fin J rv q
  | next =>
    obtain ⟨σ', H', J, q⟩ := hs
    exact fin (v := V.non) (u := Value.none) J rfl q
  | brk =>
    obtain ⟨_, _, _, q⟩ := hs
    exact False.elim q
  | cont =>
    obtain ⟨_, _, _, q⟩ := hs
    exact False.elim q
/-- such a def called with all parameters by place -/
def FcP (P : Program) (w : World) (K : PySem.W.Frag) (mg : Str → Option Value) (base : Heap) (k : Nat) (f : Addr) (sp : SpP) : Prop :=
  ∀ (A : Around) (outer : List Env) (s : Shared) (H : Hp) (us : List Value) (vs : List V) (Q : VK) (E : XK) (p : Addr × Obj), L2H.RoomH k A → L2H.PinOk outer H s p → Env0 P w K mg base A outer s H → Vals vs us → sp p vs H Q E →
    codeAny (model P w) A (.call (.ref f) ⟨us, []⟩) (CR (L2.CX P w) outer P w H s Q E) s
theorem FcP.mono {j : Nat} (F : FcP P w K mg base j f sp) (h : j ≤ k) : FcP P w K mg base k f sp := fun A outer s H us vs Q E p hr => F A outer s H us vs Q E p (hr.mono h)
theorem FbP.all (F : FbP P w K mg base k f fd ps sp) (hb : Binds K fd ps []) : FcP P w K mg base k f sp := fun A outer s H us vs Q E p hr hp e0 r h => by
  have KX : K.In s.heap := e0.mod.kin.keeps fun b o e => (e0.bs b o e).1
  have l2 : us.length = ps.length := by rw [← r.length]; exact F.len _ _ _ _ _ h
  have b := hb s us KX (by rw [List.append_nil]; exact l2)
  rw [List.append_nil] at b
  exact F.run A outer s H ⟨us, []⟩ us vs Q E p hr hp e0 b r h
end
theorem roomM {k : Nat} {A : Around} {v : Option Value} (r : Rm k A) : L2H.RoomH k (A.mark v) := ⟨r.rm.dp, r.rm.un⟩
/-- the caught exception handed to a def -/
def tFcP (a : Addr) (cls : Value) (d : Option Addr) (sp : SpP) (W : WX) (t : TA) : TE := fun σ H Q => t σ H fun vs H1 => ∀ oe : Obj, Zc cls d oe → (∃ vs, oe.data = .fields vs) → sp (a, oe) vs H1 Q (WE W σ)
section
variable {X : Cx} {k : Nat} {f : Addr} {sp : SpP} {W : WX} {x : Str} {p pos : Pos} {e : Expr} {es : List Expr} {t : TA} {a : Addr} {oe : Obj} {cls : Value} {d : Option Addr}
theorem c_callP (F : FcP X.prog X.w X.K X.mg X.base k f sp) (hr : L2H.RoomH k X.A) (hp : (a, oe) ∈ X.pn) (hz : Zc cls d oe) (hf : ∃ vs, oe.data = .fields vs) (hm : X.mg x = some (.ref f)) (hk : PySem.W.keepIn X.K (.ref f) = true) (hx : Takes X W)
    (ha : PA X (e :: es) t) (hg : Gl X x := by rfl) (hdb : (x == ("__debug__" : Str)) = false := by decide) (he : starEach (e :: es) X.env = (false, eval e X.env) :: starEach es X.env := by rfl) (hpl : (backTo pos (starEach es X.env)).any (·.1) = false := by rfl) :
    PE X (.Call (.Name x p) (e :: es) [] pos) (tFcP a cls d sp W t) := by
  refine ⟨fun pins s σ H Q I h => ?_⟩
  refine wpAny_Call_Name_kw (ld_glob I hg hm ?_ hdb)
  refine PySem.W.callWith_K (h₀ := X.base) I.ok.mod.kin hk (thn (ha.run pos pins s σ H _ I h) fun us s1 ⟨vs, H1, I1, r, q⟩ => ⟨I1.kIn, ?_⟩) he hpl
  have P1 := I1.pin (a, oe) (List.mem_append_left _ hp)
  have hpin : L2H.PinOk X.stack H1 s1 (a, oe) := ⟨P1.1, P1.2.1, fun hm => (List.mem_cons.mp (I1.stkSub a hm)).elim P1.2.2.1 P1.2.2.2.1, P1.2.2.2.2⟩
  refine wpAny_call (codeAny_mono (F X.A X.stack s1 H1 us vs Q (WE W σ) (a, oe) hr hpin I1.env0 r (q oe hz hf)) fun r s' hq => ?_)
  cases r with
  | error e => exact passAt hx σ pins H1 s1 e s' I1 hq
  | ok fl =>
    cases fl with
    | ret u => exact I1.after hq
    | next => exact False.elim hq
    | brk => exact False.elim hq
    | cont => exact False.elim hq
end
end L3
set_option Elab.async false
set_option linter.all false
set_option maxRecDepth 100000
set_option maxHeartbeats 4000000
namespace L3
open PySem PySem.Spec PyProof.Rows L2 PySem.SeqAt PySem.Calls
end L3
set_option Elab.async false
set_option linter.all false
set_option maxRecDepth 100000
set_option maxHeartbeats 4000000
namespace L3
open PySem PySem.Spec PyProof.Rows L2 PySem.SeqAt PySem.Calls
end L3
set_option Elab.async false
set_option linter.all false
set_option maxRecDepth 100000
set_option maxHeartbeats 4000000
namespace L3
open PySem PySem.Spec PyProof.Rows L2 PySem.SeqAt PySem.Calls
end L3
set_option Elab.async false
set_option linter.all false
set_option maxRecDepth 100000
set_option maxHeartbeats 4000000
namespace L3
open PySem PySem.Spec PyProof.Rows L2 PySem.SeqAt PySem.Calls
end L3
set_option Elab.async false
set_option linter.all false
set_option maxRecDepth 100000
set_option maxHeartbeats 4000000
namespace L3
open PySem PySem.Spec PyProof.Rows L2 PySem.SeqAt PySem.Calls
end L3
set_option Elab.async false
set_option linter.all false
set_option maxRecDepth 100000
set_option maxHeartbeats 4000000
namespace L3
open PySem PySem.Spec PyProof.Rows L2 PySem.SeqAt PySem.Calls
end L3
set_option Elab.async false
set_option linter.all false
set_option maxRecDepth 100000
set_option maxHeartbeats 4000000
namespace L3
open PySem PySem.Spec PyProof.Rows L2
/-- the texts of a row, each once, behind those of acc -/
def dst : List Str → List Str → List Str
  | acc, [] => acc
  | acc, x :: r => dst (if x ∈ acc then acc else x :: acc) r
theorem mem_dst {y : Str} : ∀ (xs acc : List Str), y ∈ dst acc xs ↔ y ∈ acc ∨ y ∈ xs
  | [], acc => by simp [dst]
  | x :: r, acc => by
    unfold dst
    rw [mem_dst r]
    by_cases h : x ∈ acc
    · rw [if_pos h, List.mem_cons]
      exact ⟨fun z => z.elim .inl fun z => .inr (.inr z), fun z => z.elim .inl fun z => z.elim (fun e => .inl (e ▸ h)) .inr⟩
    · rw [if_neg h, List.mem_cons, List.mem_cons]
      exact ⟨fun z => z.elim (fun z => z.elim (fun e => .inr (.inl e)) .inl) fun z => .inr (.inr z), fun z => z.elim (fun z => .inl (.inr z)) fun z => z.elim (fun e => .inl (.inl e)) .inr⟩
theorem dst_nodup : ∀ (xs acc : List Str), acc.Nodup → (dst acc xs).Nodup
  | [], acc, h => h
  | x :: r, acc, h => by
    unfold dst
    by_cases hx : x ∈ acc
    · rw [if_pos hx]
      exact dst_nodup r acc h
    · rw [if_neg hx]
      exact dst_nodup r _ (List.nodup_cons.mpr ⟨hx, h⟩)
theorem dst_len : ∀ (xs acc : List Str), (dst acc xs).length ≤ acc.length + xs.length
  | [], acc => Nat.le_refl _
  | x :: r, acc => by
    unfold dst
    have h := dst_len r (if x ∈ acc then acc else x :: acc)
    by_cases hx : x ∈ acc
    · rw [if_pos hx] at h ⊢
      rw [List.length_cons]
      omega
    · rw [if_neg hx] at h ⊢
      rw [List.length_cons] at h ⊢
      omega
/-- none stands twice: as many as they are; one twice: fewer -/
theorem dst_full : ∀ (xs acc : List Str), xs.Nodup → (∀ x ∈ xs, x ∉ acc) → (dst acc xs).length = acc.length + xs.length
  | [], acc, _, _ => rfl
  | x :: r, acc, h, ha => by
    unfold dst
    obtain ⟨h1, h2⟩ := List.nodup_cons.mp h
    have e := dst_full r (x :: acc) h2 fun y hy z => (List.mem_cons.mp z).elim (fun e => h1 (by rw [← e]; exact hy)) (ha y (List.mem_cons_of_mem _ hy))
    rw [if_neg (ha x List.mem_cons_self), e, List.length_cons, List.length_cons]
    omega
theorem dst_less : ∀ (xs acc : List Str), ¬ (xs.Nodup ∧ ∀ x ∈ xs, x ∉ acc) → (dst acc xs).length < acc.length + xs.length
  | [], acc, h => absurd ⟨List.nodup_nil, nofun⟩ h
  | x :: r, acc, h => by
    unfold dst
    by_cases hx : x ∈ acc
    · rw [if_pos hx, List.length_cons]
      have := dst_len r acc
      omega
    · rw [if_neg hx, List.length_cons]
      have := dst_less r (x :: acc) fun ⟨h1, h2⟩ => h ⟨List.nodup_cons.mpr ⟨fun z => h2 x z List.mem_cons_self, h1⟩, fun y hy => (List.mem_cons.mp hy).elim (fun e => e ▸ hx) fun hy z => h2 y hy (List.mem_cons_of_mem _ z)⟩
      rw [List.length_cons] at this
      omega
def leS (a b : Str) : Bool := !decide (b.cps.toList < a.cps.toList)
def srtS (xs : List Str) : List Str := xs.mergeSort leS
theorem srtS_perm (xs : List Str) : (srtS xs).Perm xs := List.mergeSort_perm xs _
theorem leS_iff {a b : Str} : leS a b = true ↔ a.cps.toList ≤ b.cps.toList := by
  unfold leS
  rw [Bool.not_eq_true', decide_eq_false_iff_not]
  exact List.not_lt
theorem leS_total (a b : Str) : (leS a b || leS b a) = true := by
  rw [Bool.or_eq_true, leS_iff, leS_iff]
  exact List.le_total _ _
theorem leS_trans (a b c : Str) (h1 : leS a b = true) (h2 : leS b c = true) : leS a c = true := leS_iff.mpr (List.le_trans (leS_iff.mp h1) (leS_iff.mp h2))
theorem leS_anti {a b : Str} (h1 : leS a b = true) (h2 : leS b a = true) : a = b := by
  obtain ⟨⟨a⟩⟩ := a
  obtain ⟨⟨b⟩⟩ := b
  have h : a = b := List.le_antisymm (leS_iff.mp h1) (leS_iff.mp h2)
  rw [h]
theorem srtS_sorted (xs : List Str) : (srtS xs).Pairwise fun a b => leS a b = true := List.pairwise_mergeSort leS_trans leS_total xs
theorem sortedS_uniq : ∀ {xs ys : List Str}, xs.Perm ys → (xs.Pairwise fun a b => leS a b = true) → (ys.Pairwise fun a b => leS a b = true) → xs = ys
  | [], ys, p, _, _ => p.nil_eq
  | x :: xs, [], p, _, _ => absurd p.symm.nil_eq (by simp)
  | x :: xs, y :: ys, p, hx, hy => by
    have e : x = y := by
      rcases List.mem_cons.mp (p.mem_iff.mp (List.mem_cons_self (a := x) (l := xs))) with e | m
      · exact e
      rcases List.mem_cons.mp (p.mem_iff.mpr (List.mem_cons_self (a := y) (l := ys))) with e | m2
      · exact e.symm
      exact leS_anti ((List.pairwise_cons.mp hx).1 y m2) ((List.pairwise_cons.mp hy).1 x m)
    subst e
    rw [sortedS_uniq (List.perm_cons x |>.mp p) (List.pairwise_cons.mp hx).2 (List.pairwise_cons.mp hy).2]
theorem srtS_eq {xs ns : List Str} (p : xs.Perm ns) (h : xs.Pairwise fun a b => leS a b = true) : xs = srtS ns := sortedS_uniq (p.trans (srtS_perm ns).symm) h (srtS_sorted ns)
theorem srtS_congr {xs ys : List Str} (p : xs.Perm ys) : srtS xs = srtS ys := srtS_eq ((srtS_perm xs).trans p) (srtS_sorted xs)
section
variable {prog : Program} {w : World} {A : Around} {E : Value → Shared → Prop} {s : Shared}
def ltSv (v u : Value) : Bool := decide ((strOf v).cps.toList < (strOf u).cps.toList)
theorem swo_txt : SrtO.Swo ltSv := by
  refine ⟨fun x y h => ?_, fun x y z h1 h2 => ?_⟩
  · exact decide_eq_false (List.lt_asymm (of_decide_eq_true h))
  · exact decide_eq_false (List.not_lt.mpr (List.le_trans (List.not_lt.mp (of_decide_eq_false h1)) (List.not_lt.mp (of_decide_eq_false h2))))
theorem txts_sortable {a : Addr} {vs : List Value} {ss : List Str} (hI : StrsAre vs ss) (h2 : 2 ≤ vs.length) : SrtO.SortableO prog w A s a vs ltSv := by
  intro h' _
  refine ⟨oneType', fun Q E hq => ?_, fun p q hm hm' => ?_⟩
  · match vs, hI, h2 with
    | v1 :: v2 :: rest, hI, _ =>
      rw [keyKind_strs hI]
      exact wpAny_pure hq
    | [], _, h => exact absurd h (by decide)
    | [v], _, h => exact absurd h (by simp)
  · obtain ⟨x, t, e⟩ := hI.all _ hm
    obtain ⟨y, u, e'⟩ := hI.all _ hm'
    show wpAny (model prog w) A (keyLt' oneType' p.1 q.1) (fun r s' => s' = _ ∧ r = ltSv p.1 q.1) (fun _ _ => False) _
    rw [e, e', keyLt'_oneType]
    exact oneLt_str ⟨rfl, rfl⟩
theorem txts_out {vs out : List Value} {ss : List Str} (hI : StrsAre vs ss) (hs : SrtO.Srtd ltSv out) (hb : SrtO.Stb ltSv out vs) : StrsAre out (srtS ss) := by
  have h1 : StrsAre out (out.map strOf) := strsAre_map out fun v hv => hI.all v (hb.perm.mem_iff.mp hv)
  have h2 : (out.map strOf).Perm ss := by
    have q := hb.perm.map strOf
    rw [hI.strs] at q
    exact q
  have h3 : (out.map strOf).Pairwise fun a b => leS a b = true := List.pairwise_map.mpr (hs.imp fun {x y} h => by
    show (!decide ((strOf y).cps.toList < (strOf x).cps.toList)) = true
    have h' : decide ((strOf y).cps.toList < (strOf x).cps.toList) = false := h
    rw [h']
    rfl)
  rw [← srtS_eq h2 h3]
  exact h1
end
section
variable {X : Cx}
/-- sorted(xs), xs a list or a tuple of texts -/
def rSortedT (K : PySem.W.Frag) : List V → Hp → VK → Prop := fun vs H Q => ∃ (a : Addr) (xs : List Str), vs = [V.ref a] ∧ (SqL K H a (xs.map V.str) ∨ SqT K H a (xs.map V.str)) ∧ ∀ p : Addr, H p = none → Q (.ref p) (upd H p (.lst ((srtS xs).map V.str)))
theorem cr_sortedT (K : PySem.W.Frag) (hK : X.K = K := by rfl) : CallR X (.builtin "sorted") (rSortedT K) := by
  subst hK
  intro pins s σ H vs us Q I r h
  obtain ⟨a, xs, rfl, hs, q⟩ := h
  rw [Vals.ref1 r]
  have fin : ∀ (its out : List Value), Vals (xs.map V.str) its → SrtO.Srtd ltSv out → SrtO.Stb ltSv out its → (xs.map V.str).length ≤ sizeLine → EP X pins σ Q (.ref (s.heap.objs.size + 1)) { s with heap := sortedAll s.heap its out.toArray } := fun its out rv h1 h2 hz => by
    have k := txts_out rv.strs h1 h2
    obtain ⟨ep, he'⟩ := PyProof.Rows.sortedAll_at s.heap its out.toArray
    have hlen : ((srtS xs).map V.str).length ≤ sizeLine := by
      rw [List.length_map, (srtS_perm xs).length_eq]
      rw [List.length_map] at hz
      exact hz
    exact ⟨.ref _, upd H (s.heap.objs.size + 1) (.lst ((srtS xs).map V.str)), I.laid (t' := s.toks) (fun _ _ => PyProof.Rows.sortedAll_old) (Nat.le_succ _) ⟨hlen, out, ep, vals_of_strs k, he'⟩, rfl, q _ (I.hok.fresh (Nat.le_succ _))⟩
  rcases hs with hs | hs
  · obtain ⟨its, rv, hl, hz⟩ := I.list hs
    exact SrtO.sorted_ord swo_txt hl.isList (by rw [← rv.length]; exact hz) (fun h2 h₁ a' _ _ => txts_sortable rv.strs h2) fun out h1 h2 => fin its out rv h1 h2 hz
  · obtain ⟨its, rv, hl, hz⟩ := I.tuple hs
    exact SrtA.sorted_tup swo_txt hl (by rw [← rv.length]; exact hz) (fun h2 h₁ a' _ _ => txts_sortable rv.strs h2) fun out h1 h2 => fin its out rv h1 h2 hz
end
theorem strsAre_len : ∀ {vs : List Value} {xs : List Str}, StrsAre vs xs → vs.length = xs.length
  | _, _, .nil => rfl
  | _, _, .cons _ _ r => congrArg (· + 1) (strsAre_len r)
theorem isStr_of {k : Str} {v : Value} {P : Program} {w : World} (h : (PySem.strKind P w).is k v = true) : ∃ t, v = .str k t := by
  have h' : Value.isStrOf k v = true := h
  cases v with
  | str x t =>
    have : x = k := by simpa [Value.isStrOf] using h'
    exact ⟨t, by rw [this]⟩
  | _ => simp [Value.isStrOf] at h'
theorem isStr_shape {k : Str} {v : Value} {P : Program} {w : World} (h : (PySem.strKind P w).is k v = true) : ∃ x t, v = .str x t := by
  obtain ⟨t, e⟩ := isStr_of h
  exact ⟨k, t, e⟩
theorem perm_of_len : ∀ {l m : List Str}, l.Nodup → m.length = l.length → (∀ k ∈ l, k ∈ m) → m.Perm l
  | [], m, _, hl, _ => by rw [List.length_eq_zero_iff.mp hl]
  | k :: r, m, nd, hl, h => by
    obtain ⟨n1, n2⟩ := List.nodup_cons.mp nd
    have hk := h k List.mem_cons_self
    have p := List.perm_cons_erase hk
    have e := List.length_erase_of_mem hk
    rw [List.length_cons] at hl
    exact p.trans (.cons k (perm_of_len n2 (by omega) fun x hx => (List.mem_erase_of_ne fun z => n1 (by rw [← z]; exact hx)).mpr (h x (List.mem_cons_of_mem _ hx))))
section
variable {P : Program} {w : World} {A : Around} {E : Value → Shared → Prop} {s : Shared}
open PySem.Froz
/-- the set of texts at a: its members, in some order -/
def SetT (P : Program) (w : World) (h : Heap) (a : Addr) (l : List Str) : Prop := ∃ D : SD, h.get? a = some (sObj "set" D) ∧ TxOk P w D l ∧ l.length < scanBound ∧ Ris D.2.2.place.toList ∧ (w.params.followText "set-order" = true ∨ D.2.2.led = true)
theorem SetT.at {h h' : Heap} {a : Addr} {l : List Str} (R : SetT P w h a l) (k : ∀ o, h.get? a = some o → h'.get? a = some o) : SetT P w h' a l := by
  obtain ⟨D, ho, r⟩ := R
  exact ⟨D, k _ ho, r⟩
theorem ris_tail {ep : Nat} {es : Array (Int × Value)} {t : SetTable} {b : Bool} (r : Ris t.place.toList) : Ris (tailTx ep es t b).2.2.place.toList := by
  unfold tailTx
  by_cases c : (!b && t.tooFull) = true
  · rw [if_pos c]
    exact relayAll_ris _ _ _
  · rw [if_neg c]
    exact r
theorem led_tail {ep : Nat} {es : Array (Int × Value)} {t : SetTable} {b : Bool} : (tailTx ep es t b).2.2.led = t.led := by
  unfold tailTx
  by_cases c : (!b && t.tooFull) = true
  · rw [if_pos c]
    exact relayAll_led _ _ _
  · rw [if_neg c]
theorem ris_addTx {h : Int} {v : Value} {D : SD} (r : Ris D.2.2.place.toList) : Ris (addTx h v D).2.2.place.toList := by
  unfold addTx
  refine ris_tail ?_
  have z := layNew_ris D.2.2 D.1 h v r
  by_cases c : (layNew D.2.2 D.1 h v).2.1.plain = true
  · rw [if_pos c]
    exact z
  · rw [if_neg c]
    exact z
theorem led_addTx {h : Int} {v : Value} {D : SD} : (addTx h v D).2.2.led = D.2.2.led := by
  unfold addTx
  rw [led_tail]
  have z := layNew_led D.2.2 D.1 h v
  by_cases c : (layNew D.2.2 D.1 h v).2.1.plain = true
  · rw [if_pos c]
    exact z
  · rw [if_neg c]
    exact z
/-- a text that is there already -/
theorem add_old {a : Addr} {D : SD} {l : List Str} {k : Str} {u : Tok} {Q : Bool → Shared → Prop} (ho : s.heap.get? a = some (sObj "set" D)) (F : TxOk P w D l) (hk : k ∈ l) (hb : l.length < scanBound) (q : Q false s) :
    wpAny (model P w) A (setAddHashed a (.str k u) (hashStr w k)) Q E s := by
  obtain ⟨es, ep, t⟩ := D
  have hd : (sObj "set" (es, ep, t)).data = .set es ep t := rfl
  have hf : t.fits es.size = true := F.fit
  have hel : ElemsOf (PySem.strKind P w) es.toList := F.el
  have hsz : es.size = l.length := F.sz
  have hkey : (PySem.strKind P w).is k (.str k u) = true := is_str k u
  unfold setAddHashed setAddHashedIn
  refine wpAny_holding (wpAny_bind (wpAny_setState_of ho hd hf ?_))
  dsimp only
  rw [byScan_of rfl (by omega) hel]
  simp only [↓reduceIte]
  unfold setAddByScan
  refine wpAny_bind ?_
  refine wpAny_bind (wpAny_rule ?_)
  refine wpAny_bind (wpAny_setScan_of (knd := PySem.strKind P w) (k := k) hkey ho hd hf hel ?_)
  cases hr : List.findIdx? (fun e => (PySem.strKind P w).is k e.2) es.toList with
  | some j =>
    dsimp only
    exact wpAny_pure (wpAny_pure q)
  | none =>
    obtain ⟨e, he, hp⟩ := (F.mem k).mp hk
    have c := List.findIdx?_eq_none_iff.mp hr e he
    rw [hp] at c
    cases c
/-- a text is put in -/
theorem setT_add {a : Addr} {l : List Str} {k : Str} {u : Tok} {Q : Bool → Shared → Prop} (R : SetT P w s.heap a l) (hb : l.length + 1 < scanBound)
    (q : ∀ b h', (∀ c o, c ≠ a → s.heap.get? c = some o → h'.get? c = some o) → SetT P w h' a (if k ∈ l then l else k :: l) → Q b { s with heap := h' }) :
    wpAny (model P w) A (setAddHashed a (.str k u) (hashStr w k)) Q E s := by
  obtain ⟨D, ho, F, hl, hr, hled⟩ := R
  by_cases hk : k ∈ l
  · exact add_old ho F hk hl (q false s.heap (fun _ _ _ e => e) (by rw [if_pos hk]; exact ⟨D, ho, F, hl, hr, hled⟩))
  · refine add_x ho F hk hb (q true _ (fun c o hc e => (Heap.get?_update_other _ _ (Ne.symm hc)).trans e) ?_)
    rw [if_neg hk]
    exact ⟨_, get_upd _ ho rfl, add_ok u F, hb, ris_addTx hr, hled.imp id fun z => by rw [led_addTx]; exact z⟩
theorem update_txts {I : Addr} {fp wr : List Addr} {G : Array GenState → Array GenState → Prop} {n : Nat} {Pv : Nat → Value → Prop} {St : Nat → Shared → Prop} {R : Result → Shared → Prop}
    (W : WalksS P w A.in1 I fp wr G n Pv St) (S : Addr) (hSf : S ∉ fp) (hval : ∀ i v, Pv i v → ∃ k t, v = .str k t) :
    ∀ (xs : List Str) (i : Nat) (acc : List Str) (s : Shared), i + xs.length = n → (∀ j v, Pv (i + j) v → ∃ k t, xs[j]? = some k ∧ v = .str k t) → acc.length + xs.length + 1 < scanBound → St i s → SetT P w s.heap S acc →
      (∀ s', Moved (S :: wr) G s s' → SetT P w s'.heap S (dst acc xs) → R (.ok (.ret .none)) s') →
      codeAny (model P w) A (.builtin "set.update.loop" ⟨[.ref S, .ref I], []⟩) R s := by
  have hSw : S ∉ wr := fun h => hSf (W.sub _ h)
  have hsub : ∀ b ∈ wr, b ∈ S :: wr := fun b hb => List.mem_cons_of_mem _ hb
  intro xs
  induction xs with
  | nil =>
    intro i acc s hn _ _ hst hS fin
    rw [List.length_nil, Nat.add_zero] at hn
    subst hn
    refine codeAny_builtin F.entry_set_update_loop ?_
    rw [Around.under_plainId F.plain_set_update_loop _]
    show wpAny _ A.in1 (pyNext (.ref I) >>= _) _ _ s
    refine wpAny_bind (W.done s _ _ hst fun s' hm => ?_)
    show wpAny _ A.in1 (ret Value.none) _ _ s'
    exact wpAny_pure (fin s' (hm.mono hsub) (hS.at fun o e => hm.heap S o hSw e))
  | cons x r ih =>
    intro i acc s hn hx hb hst hS fin
    rw [List.length_cons] at hn hb
    have hlt : i < n := by omega
    refine codeAny_builtin F.entry_set_update_loop ?_
    rw [Around.under_plainId F.plain_set_update_loop _]
    show wpAny _ A.in1 (pyNext (.ref I) >>= _) _ _ s
    refine wpAny_bind (W.item i s _ _ hlt hst fun v s' hP hst' hm => ?_)
    obtain ⟨z, t, hz, rfl⟩ := hx 0 v hP
    cases hz
    have hS' : SetT P w s'.heap S acc := hS.at fun o e => hm.heap S o hSw e
    show wpAny _ A.in1 (holding [Value.str x t] (setAdd S (.str x t)) >>= _) _ _ s'
    refine wpAny_bind (wpAny_holding ?_)
    unfold setAdd
    refine wpAny_holding ?_
    refine wpAny_bind ((PySem.strKind P w).pyHash (k := x) (Froz.is_str x t) ?_)
    refine setT_add (s := { s' with toks := s'.toks + 1 }) hS' (by omega) fun b h' hsb hS2 => ?_
    refine wpAny_pure ⟨plainId_quiet F.plain_set_update_loop _, ih (i + 1) (if x ∈ acc then acc else x :: acc) _ (by omega) (fun j v hv => ?_) ?_ (W.frame _ s' _ _ hst' (Nat.le_succ _) fun b hb o e => hsb b o (fun h : b = S => hSf (by rw [← h]; exact hb)) e) hS2 fun s'' hm'' hS'' => ?_⟩
    · obtain ⟨k, t2, e1, e2⟩ := hx (j + 1) v (by rw [show i + (j + 1) = i + 1 + j by omega]; exact hv)
      exact ⟨k, t2, e1, e2⟩
    · by_cases hxa : x ∈ acc
      · rw [if_pos hxa]
        omega
      · rw [if_neg hxa, List.length_cons]
        omega
    · exact fin s'' (Moved.trans W.gtrans ((hm.mono hsub).then_heap (Nat.le_succ _) fun b o hb e => hsb b o (fun h : b = S => hb (by rw [h]; exact List.mem_cons_self)) e) hm'') hS''
/-- set(xs), xs a thing of the type T whose walk gives texts -/
theorem call_set_txts {l : Addr} {T : String} {its : Array Value} {xs : List Str} {io : Obj} {Q : Value → Shared → Prop} (calm : A.handled = none) (few : xs.length + 1 < scanBound) (size : its.size = xs.length)
    (isT : ∀ z : Shared, (∀ b o, s.heap.get? b = some o → z.heap.get? b = some o) → z.TypeIs (.ref l) T) (lt : l < s.heap.objs.size) (vs : StrsAre its.toList xs)
    (m1 : isSubtype (.type T) (.type "set") = pure false) (m2 : isSubtype (.type T) (.type "frozenset") = pure false) (m3 : (Value.type T == Value.type "dict") = false)
    (iter : ∀ (z : Shared) (A2 : Around) (E2 : Value → Shared → Prop) (Q2 : Value → Shared → Prop), (∀ b o, s.heap.get? b = some o → z.heap.get? b = some o) → Q2 (.ref z.heap.objs.size) { z with heap := z.heap.push io } → wpAny (model P w) A2 (pyIter (.ref l)) Q2 E2 z)
    (St : Addr → Nat → Heap → Prop) (W : ∀ (A2 : Around) (I : Addr), A2.handled = none → l ≠ I → Walks P w A2 I [I, l] [I] its.size (fun i v => its[i]? = some v) (St I))
    (start : ∀ h : Heap, (∀ b o, s.heap.get? b = some o → h.get? b = some o) → St h.objs.size 0 (h.push io))
    (fin : ∀ (h' : Heap) (tk : Nat), SetT P w h' s.heap.objs.size (dst [] xs) → (∀ b o, s.heap.get? b = some o → h'.get? b = some o) → Q (.ref s.heap.objs.size) { s with heap := h', toks := tk }) :
    wpAny (model P w) A (call (.type "set") [.ref l]) Q E s := by
  obtain ⟨c, tl, k1⟩ := F.called_set.mro
  have k2 := F.called_set.made
  have k3 := F.called_set.sub
  refine wpAny_call (codeAny_of_tree ?_)
  show wpAny _ _ (callAny (.type "set") _) _ _ _
  refine wpAny_pure ⟨Code.quiet_builtin _ (by decide +kernel), codeAny_builtin F.entry_type_call ?_⟩
  rw [Around.under_plain (weight_type_call_type "set" [.ref l] []) rfl]
  have k4 := F.called_set.notType
  have k5 := F.called_set.canCreate
  have k6 := F.typeCall_set_1 (.ref l)
  repeat (any_goals (first | assumption | wp_step))
  refine codeAny_mono (code_set_led1 (.ref l) (E := E) (Q₁ := fun obj z => obj = .ref s.heap.objs.size ∧ z = { s with heap := s.heap.push (newSet w) }) ⟨rfl, rfl⟩) fun r z hr => ?_
  cases r with
  | error e => exact hr
  | ok fl =>
    cases fl with
    | ret obj =>
      obtain ⟨rfl, rfl⟩ := hr
      have there : (s.heap.push (newSet w)).get? s.heap.objs.size = some (newSet w) := Heap.get?_push_size _ rfl
      have ty : Shared.TypeIs { s with heap := s.heap.push (newSet w) } (.ref s.heap.objs.size) "set" := ⟨_, there, rfl⟩
      have tl1 := isT { s with heap := s.heap.push (newSet w) } fun b o e => Heap.get?_push_of_some _ e
      have k7 := F.called_set.init.lookup
      have k8 := F.called_set.init.bind (.ref s.heap.objs.size)
      repeat (any_goals (first | assumption | wp_step))
      refine codeAny_mono (codeAny_call_builtin (R := wants (fun r z => r = .none ∧ ∃ h' tk, z = { s with heap := h', toks := tk } ∧ SetT P w h' s.heap.objs.size (dst [] xs) ∧ (∀ b o, s.heap.get? b = some o → h'.get? b = some o)) E) F.called_set.init.plain F.entry_set_init (check_set_init_1 ty ?_)) fun r₂ z hr₂ => ?_
      · unfold Builtin.«set.__init__» noKeywords Builtin.Frozenset.updateFrom
        generalize hPI : pyIter = PI
        wp_walk
        subst hPI
        have lt2 : l ≠ (s.heap.push (newSet w)).objs.size := by
          rw [Heap.size_push]
          exact Nat.ne_of_lt (Nat.lt_succ_of_lt lt)
        have calm3 : A.in1.in1.in1.handled = none := by simp [calm]
        have ne2 : s.heap.objs.size ∉ [(s.heap.push (newSet w)).objs.size, l] := by
          rw [Heap.size_push]
          intro hm
          rcases List.mem_cons.mp hm with hm | hm
          · exact Nat.ne_of_lt (Nat.lt_succ_self _) hm
          · exact Nat.ne_of_gt lt (List.mem_singleton.mp hm)
        refine iter { s with heap := s.heap.push (newSet w) } _ _ _ (fun b o e => Heap.get?_push_of_some _ e) ?_
        refine wpAny_bind (wpAny_runValue ?_)
        have vals : ∀ (i : Nat) (v : Value), its[i]? = some v → ∃ k t, xs[i]? = some k ∧ v = .str k t := fun i v hv => by
          have hi : i < xs.length := by rw [← size]; exact (Array.getElem?_eq_some_iff.mp hv).1
          obtain ⟨t, e⟩ := SS.strs_at vs i v (by rw [Array.getElem?_toList]; exact hv)
          refine ⟨xs[i], t, List.getElem?_eq_getElem hi, ?_⟩
          rw [e, List.getD_eq_getElem?_getD, List.getElem?_eq_getElem hi] <;> rfl
        refine update_txts ((W _ _ calm3 lt2).toS) s.heap.objs.size ne2 (fun i v hv => by obtain ⟨k, t, _, e⟩ := vals i v hv; exact ⟨k, t, e⟩) xs 0 [] _ (by rw [Nat.zero_add]; exact size.symm) (fun j v hv => vals j v (by rw [Nat.zero_add] at hv; exact hv)) (by rw [List.length_nil]; omega) (start (s.heap.push (newSet w)) fun b o e => Heap.get?_push_of_some _ e) ?g1 ?g2
        case g1 =>
          have at2 : ((s.heap.push (newSet w)).push io).get? s.heap.objs.size = some (newSet w) := Heap.get?_push_of_some _ there
          exact ⟨(#[], 0, .fresh 0 0 (!w.params.followText "set-order")), at2, TxOk.nil (by first | rfl | decide), by decide, by first | exact List.Pairwise.nil | trivial, by
            show _ ∨ (!w.params.followText "set-order") = true
            cases w.params.followText "set-order"
            · exact .inr rfl
            · exact .inl rfl⟩
        case g2 =>
          intro z mv sr
          obtain ⟨h2, gn, dr, tk2, os2⟩ := z
          have e1 : gn = s.gens := mv.gens
          have e2 : dr = s.drawn := mv.drawn
          have e3 : os2 = s.os := mv.os
          subst e1; subst e2; subst e3
          show wpAny _ _ _ _ _ _
          refine wpAny_pure ?_
          show wpAny _ _ (ret Value.none) _ _ _
          refine wpAny_pure ⟨rfl, h2, tk2, rfl, sr, fun b o e => ?_⟩
          have l0 : b < s.heap.objs.size := Heap.lt_size e
          refine mv.heap b o (fun hm => ?_) (Heap.get?_push_of_some _ (Heap.get?_push_of_some _ e))
          rcases List.mem_cons.mp hm with hm | hm
          · exact Nat.ne_of_lt l0 hm
          · have e9 := List.mem_singleton.mp hm
            rw [Heap.size_push] at e9
            exact Nat.ne_of_lt (Nat.lt_succ_of_lt l0) e9
      · cases r₂ with
        | error e => exact hr₂
        | ok fl₂ =>
          cases fl₂ with
          | ret r =>
            obtain ⟨rfl, h', tk, rfl, sr, kp⟩ := hr₂
            repeat (any_goals (first | assumption | wp_step))
            exact fin _ _ sr kp
          | _ => exact hr₂.elim
    | _ => exact hr.elim
theorem call_set_lstT {l : Addr} {its : Array Value} {xs : List Str} {Q : Value → Shared → Prop} (calm : A.handled = none) (few : xs.length + 1 < scanBound) (isl : s.heap.IsList l its) (vs : StrsAre its.toList xs)
    (fin : ∀ (h' : Heap) (tk : Nat), SetT P w h' s.heap.objs.size (dst [] xs) → (∀ b o, s.heap.get? b = some o → h'.get? b = some o) → Q (.ref s.heap.objs.size) { s with heap := h', toks := tk }) :
    wpAny (model P w) A (call (.type "set") [.ref l]) Q E s := by
  have up : ∀ h : Heap, (∀ b o, s.heap.get? b = some o → h.get? b = some o) → h.IsList l its := fun h k => by
    obtain ⟨o, ho, r⟩ := isl
    exact ⟨o, k _ _ ho, r⟩
  have size : its.size = xs.length := by
    have q := strsAre_len vs
    rwa [Array.length_toList] at q
  refine call_set_txts (T := "list") (io := { cls := .type "list_iterator", data := .fields #[.ref l, .int 0 0] }) calm few size (fun z k => ?_) ?_ vs F.sub_list_set F.sub_list_frozenset (by decide) (fun z A2 E2 Q2 k q => wpAny_pyIter_list (up z.heap k) q) (fun I i h => h.IsListIter I l i ∧ h.IsList l its) (fun A2 I hc ne => Walks.list hc I l ne its) (fun h k => ⟨⟨_, Heap.get?_push_size _ rfl, rfl, rfl⟩, (up h k).push _⟩) fin
  · obtain ⟨o, ho, hc, _⟩ := up z.heap k
    exact ⟨o, ho, hc⟩
  · obtain ⟨o, ho, _⟩ := isl
    exact Heap.lt_size ho
theorem call_set_tupT {l : Addr} {its : Array Value} {xs : List Str} {Q : Value → Shared → Prop} (calm : A.handled = none) (few : xs.length + 1 < scanBound) (isl : s.heap.IsTuple l its) (vs : StrsAre its.toList xs)
    (fin : ∀ (h' : Heap) (tk : Nat), SetT P w h' s.heap.objs.size (dst [] xs) → (∀ b o, s.heap.get? b = some o → h'.get? b = some o) → Q (.ref s.heap.objs.size) { s with heap := h', toks := tk }) :
    wpAny (model P w) A (call (.type "set") [.ref l]) Q E s := by
  have up : ∀ h : Heap, (∀ b o, s.heap.get? b = some o → h.get? b = some o) → h.IsTuple l its := fun h k => by
    obtain ⟨o, ho, r⟩ := isl
    exact ⟨o, k _ _ ho, r⟩
  have size : its.size = xs.length := by
    have q := strsAre_len vs
    rwa [Array.length_toList] at q
  refine call_set_txts (T := "tuple") (io := { cls := .type "tuple_iterator", data := .fields #[.ref l, .int 0 0] }) calm few size (fun z k => ?_) ?_ vs F.sub_tuple_set F.sub_tuple_frozenset (by decide) (fun z A2 E2 Q2 k q => wpAny_pyIter_tuple (up z.heap k) q) (fun I i h => h.IsTupleIter I l i ∧ h.IsTuple l its) (fun A2 I hc ne => Walks.tuple hc I l ne its) (fun h k => ⟨⟨_, Heap.get?_push_size _ rfl, rfl, rfl⟩, up _ fun b o e => Heap.get?_push_of_some _ (k b o e)⟩) fin
  · obtain ⟨o, ho, hc, _⟩ := up z.heap k
    exact ⟨o, ho, hc⟩
  · obtain ⟨o, ho, _⟩ := isl
    exact Heap.lt_size ho
/-- sorted(x), x a set of texts -/
theorem sorted_setT {a : Addr} {l : List Str} {Q : Value → Shared → Prop} (R : SetT P w s.heap a l) (nd : l.Nodup) (calm : A.handled = none)
    (fin : ∀ z p (out : List Value) (c : Nat), (∀ b o, s.heap.get? b = some o → z.heap.get? b = some o) → z.gens = s.gens → z.os = s.os → s.heap.objs.size ≤ p →
      z.heap.get? p = some (seqObj "list" out.toArray c) → StrsAre out (srtS l) → l.length ≤ sizeLine → Q (.ref p) z) :
    wpAny (model P w) A (call (.builtin "sorted") [.ref a]) Q E s := by
  obtain ⟨⟨es, ep, t⟩, ho, F, hb, hr, hl⟩ := R
  have hsz : es.size = l.length := F.sz
  have hel : ElemsOf (PySem.strKind P w) es.toList := F.el
  refine Calls.call_function_entry kind_sorted plain_sorted entry_sorted (args_sorted1 _) ?_
  unfold Builtin.«sorted»
  refine wpAny_bind (m := checkCount "sorted" 1 1 _) (wpAny_pure ?_)
  refine wpAny_bind (collect_set (A := A.in1) calm (es := es) (ep := ep) (t := t) ⟨_, ho, rfl, rfl⟩ F.fit (by omega) hr hl fun z1 vs keep zl g1 o1 pm => ?_)
  have vn : vs.length = l.length := by rw [pm.length_eq, List.length_map, Array.length_toList]; exact hsz
  have str : ∀ v ∈ vs, ∃ x t, v = .str x t := fun v hv => by
    obtain ⟨e, he, q⟩ := List.mem_map.mp (pm.mem_iff.mp hv)
    obtain ⟨⟨k, hk, _⟩, _⟩ := hel e he
    rw [← q]
    exact isStr_shape hk
  have iv : StrsAre vs (vs.map strOf) := strsAre_map vs str
  have mem : ∀ k, k ∈ vs.map strOf ↔ k ∈ l := fun k => by
    rw [F.mem k, List.mem_map]
    constructor
    · rintro ⟨v, hv, rfl⟩
      obtain ⟨e, he, q⟩ := List.mem_map.mp (pm.mem_iff.mp hv)
      obtain ⟨x, t, ev⟩ := str v hv
      refine ⟨e, he, ?_⟩
      rw [q, ev]
      exact is_str _ _
    · rintro ⟨e, he, hk⟩
      obtain ⟨t, ev⟩ := isStr_of hk
      exact ⟨e.2, pm.mem_iff.mpr (List.mem_map.mpr ⟨e, he, rfl⟩), by rw [ev]; rfl⟩
  have pk : (vs.map strOf).Perm l := perm_of_len nd (by rw [List.length_map, vn]) fun k hk => (mem k).mpr hk
  have lz : vs.length ≤ sizeLine := by
    rw [vn, sizeLine_eq]
    unfold scanBound at hb
    omega
  refine wpAny_bind (wpAny_newList ?_ lz)
  have at1 : (z1.heap.push (seqObj "list" vs.toArray 0)).get? z1.heap.objs.size = some (seqObj "list" vs.toArray 0) := Heap.get?_push_size _ rfl
  refine wpAny_bind (wpAny_holding (wpAny_call_entry slot_list_sort ⟨_, at1, rfl⟩ entry_list_sort (SrtO.list_sort_ord swo_txt at1 lz (fun h2 => txts_sortable iv h2) fun out q1 q2 => ⟨_, rfl, ?_⟩) (args_list_sort _)))
  have k := txts_out iv q1 q2
  rw [srtS_congr pk] at k
  obtain ⟨c, at2⟩ := sortedHeap_at (vs := vs) (out := out.toArray) at1
  refine wpAny_pure ⟨_, rfl, fin _ z1.heap.objs.size out c (fun b u e => ?_) g1 o1 zl at2 k (by rw [← vn]; exact lz)⟩
  have q := keep b u e
  have lt := Heap.lt_size q
  show (sortedHeap (z1.heap.push (seqObj "list" vs.toArray 0)) z1.heap.objs.size vs out.toArray).get? b = some u
  rw [sortedHeap_old (Nat.ne_of_lt lt) (by rw [size_push']; exact Nat.lt_succ_of_lt lt)]
  exact Heap.get?_push_of_some _ q
/-- len(x), x a set of texts -/
theorem len_setT {a : Addr} {l : List Str} {Q : Value → Shared → Prop} (R : SetT P w s.heap a l) (fin : Q (.int (l.length : Nat) (s.toks + 1)) { s with toks := s.toks + 1 + 1 }) :
    wpAny (model P w) A (call (.builtin "len") [.ref a]) Q E s := by
  obtain ⟨⟨es, ep, t⟩, ho, F, hb, hr, hl⟩ := R
  have hsz : es.size = l.length := F.sz
  refine call_len_set (o := sObj "set" (es, ep, t)) (es := es) (ep := ep) (t := t) ho ⟨rfl, rfl, rfl⟩ rfl F.fit ?_ ?_
  · unfold scanBound at hb
    omega
  · rw [hsz]
    exact fin
end
section
variable {X : Cx}
/-- a set of texts, l its members -/
def SetTO (P : Program) (w : World) (a : Addr) (l : List Str) : HO := .ext fun h => SetT P w h a l
theorem setTO_new {w : World} {P : Program} {H : Hp} {h : Heap} {a : Addr} {l : List Str} (R : SetT P w h a l) : ObjOk P w H h a (SetTO P w a l) := by
  have ⟨o, ho, _⟩ := R
  exact ⟨R, ⟨_, ho⟩, fun h1 h2 p k => SetT.at p k⟩
theorem setTO_get {pins : List (Addr × Obj)} {σ : L2.St} {H : Hp} {s : Shared} {a : Addr} {l : List Str} (I : Inv X pins σ H s) (ha : H a = some (SetTO X.prog X.w a l)) : SetT X.prog X.w s.heap a l := (I.hok a _ ha).1
/-- set(xs), xs a list or a tuple of texts -/
def rSetT (P : Program) (w : World) (K : PySem.W.Frag) : List V → Hp → VK → Prop := fun vs H Q => ∃ (a : Addr) (xs : List Str), vs = [.ref a] ∧ (SqL K H a (xs.map V.str) ∨ SqT K H a (xs.map V.str)) ∧ xs.length ≤ 3000 ∧ ∀ p, H p = none → Q (.ref p) (upd H p (SetTO P w p (dst [] xs)))
theorem cr_setT (K : PySem.W.Frag) (cm : X.calm = true) (hK : X.K = K := by rfl) : CallR X (.type "set") (rSetT X.prog X.w K) := by
  subst hK
  intro pins s σ H vs us Q I r h
  obtain ⟨a, xs, rfl, hs, few, q⟩ := h
  rw [Vals.ref1 r]
  have done : ∀ (h' : Heap) (tk : Nat), SetT X.prog X.w h' s.heap.objs.size (dst [] xs) → (∀ b o, s.heap.get? b = some o → h'.get? b = some o) → EP X pins σ Q (.ref s.heap.objs.size) { s with heap := h', toks := tk } := fun h' tk R keep =>
    ⟨.ref _, upd H s.heap.objs.size (SetTO X.prog X.w s.heap.objs.size (dst [] xs)), I.laid (t' := tk) keep (Nat.le_refl _) (setTO_new R), rfl, q _ (I.hok.fresh (Nat.le_refl _))⟩
  have sb : xs.length + 1 < scanBound := by unfold scanBound; omega
  rcases hs with hs | hs
  · obtain ⟨its, rv, pl, hz⟩ := I.list hs
    exact call_set_lstT (I.ok.hd cm) sb pl.isList (by simpa using rv.strs) done
  · obtain ⟨its, rv, pl, hz⟩ := I.tuple hs
    exact call_set_tupT (I.ok.hd cm) sb (show s.heap.IsTuple a its.toArray from pl) (by simpa using rv.strs) done
def rLenT (P : Program) (w : World) : List V → Hp → VK → Prop := fun vs H Q => ∃ (a : Addr) (l : List Str), vs = [V.ref a] ∧ H a = some (SetTO P w a l) ∧ Q (.int (l.length : Nat)) H
theorem cr_lenT : CallR X (.builtin "len") (rLenT X.prog X.w) := by
  intro pins s σ H vs us Q I r h
  obtain ⟨a, l, rfl, ha, q⟩ := h
  rw [Vals.ref1 r]
  exact len_setT (setTO_get I ha) ⟨.int _, H, I.tok _, ⟨_, rfl⟩, q⟩
def rSortedST (P : Program) (w : World) : List V → Hp → VK → Prop := fun vs H Q => ∃ (a : Addr) (l : List Str), vs = [V.ref a] ∧ H a = some (SetTO P w a l) ∧ l.Nodup ∧ ∀ p, H p = none → Q (.ref p) (upd H p (.lst ((srtS l).map V.str)))
theorem cr_sortedST (cm : X.calm = true) : CallR X (.builtin "sorted") (rSortedST X.prog X.w) := by
  intro pins s σ H vs us Q I r h
  obtain ⟨a, l, rfl, ha, nd, q⟩ := h
  rw [Vals.ref1 r]
  refine sorted_setT (setTO_get I ha) nd (I.ok.hd cm) fun z p out c keep g o hp hg hi hl => ?_
  have ln : ((srtS l).map V.str).length ≤ sizeLine := by rw [List.length_map, (srtS_perm l).length_eq]; exact hl
  have hn : H p = none := I.hok.fresh hp
  have J : Inv X pins σ (upd H p (.lst ((srtS l).map V.str))) { s with heap := z.heap, gens := z.gens, drawn := z.drawn, toks := z.toks } :=
    I.call (ch := []) (Un.laid keep hp hn) (I.hok.laid keep hp ⟨ln, out, c, vals_of_strs hi, hg⟩) (by rw [g]; exact I.bare) (fun _ z => nomatch z)
  have e : z = { s with heap := z.heap, gens := z.gens, drawn := z.drawn, toks := z.toks } := by
    cases z; cases s; cases o; rfl
  rw [e]
  exact ⟨.ref p, _, J, rfl, q p hn⟩
end
end L3
set_option Elab.async false
set_option linter.all false
set_option maxRecDepth 100000
set_option maxHeartbeats 4000000
namespace L3
open PySem PySem.Spec PySem.Calls PyProof.Rows L2
/-- a built-in base -/
structure BaseX (bmB : List Value) (B newId initId : String) : Prop where
  F : ExcBaseFacts B newId initId bmB
  ps : ∀ self : Value, refuseLoop self "__setattr__" bmB = pure ()
  ob : bmB.contains (.type "object") = true
theorem baseL : BaseX bmL "LookupError" "LookupError.__new__" "LookupError.__init__" := ⟨PySem.F.excBase_LookupError, fun self => by kernel_rfl, by decide +kernel⟩
theorem tail_ne {bmB l : List Value} (ob : bmB.contains (.type "object") = true) (h : PySem.W.excTail bmB l = true) : l.isEmpty = false := by
  cases l with
  | nil =>
    rw [← PySem.W.excTail_contains "object" [] h] at ob
    cases ob
  | cons _ _ => rfl
section
open PySem.W Builtin Builtin.ObjectAttr
variable {prog : Program} {w : World} {A : Around} {E : Value → Shared → Prop} {R : Result → Shared → Prop} {hp : Heap} {g : Array GenState} {d : Drawn} {t : Nat} {os : OsState} {bmB : List Value} {B newId initId : String}
/-- the first field of an exception -/
theorem osa_newB {K : W.Frag} {name : Str} {tk : Tok} {v : Value} {x C : Addr} {fv : Array Value} {cd : ClassData} (BX : BaseX bmB B newId initId)
    (X : K.In hp) (hx : hp.get? x = some { cls := .ref C, data := .fields fv }) (hcd : W.clsIn K C = some cd) (hm : excTail bmB cd.mro = true) (hh : cd.hasDict = true) (ha : W.findIn K (.ref C) name = some none)
    (hq : ∀ h' tk' dx, (∀ b o, b ≠ x → hp.get? b = some o → h'.get? b = some o) → hp.objs.size ≤ dx → dx ≠ x → h'.get? x = some { cls := .ref C, dict := some dx, data := .fields fv } →
      h'.Ns1 dx (fun y => if y = name then some v else none) → R (.ok (.ret .none)) ⟨h', g, d, tk', os⟩) :
    codeAny (model prog w) A (.call (.builtin "object.__setattr__") ⟨[.ref x, .str name tk, v], []⟩) R ⟨hp, g, d, t, os⟩ := by
  have I : W.InstAt hp x { cls := .ref C, data := .fields fv } C none := ⟨hx, rfl, rfl, trivial⟩
  have SF := PySem.F.store_object
  have ne := tail_ne BX.ob hm
  have hob : cd.mro.contains (.type "object") = true := (excTail_contains "object" _ hm).trans BX.ob
  have hxs : x ≠ hp.objs.size := Nat.ne_of_lt (Heap.lt_size hx)
  have sub : W.Looks (model prog w) hp (isInstance (.ref x) (.type "object")) true := I.type.andThen (W.looks_mroIn X (by unfold W.mroIn; rw [hcd, Option.bind_some, if_neg (by rw [ne]; decide), hob]))
  refine codeAny_call_builtin SF.slot.plain SF.entry (@W.check_slot (model prog w) _ _ ⟨hp, g, d, t, os⟩ "object.__setattr__" "object" "__setattr__" (.ref x) [.str name tk, v] [] _ SF.kind SF.split sub (SF.args (.ref x) (.str name tk) v) ?_)
  have hmr : W.Looks (model prog w) hp (mroOf (.ref C)) cd.mro := (W.looks_clsIn X hcd).andThen .now
  have L3 : W.Looks (model prog w) hp (storeTaker? none) none := .now
  have hcls : W.Looks (model prog w) hp (classData C) cd := W.looks_clsIn X hcd
  rw [W.osa_eq, refuse_eq]
  refine wpAny_bind (wpAny_bind (I.type.at (wpAny_bind (hmr.at ?_))))
  rw [excTail_pass _ (BX.ps _) _ hm]
  refine wpAny_pure (wpAny_bind (I.type.at (wpAny_bind ((W.looks_findIn X ha).at (wpAny_bind (L3.at ?_))))))
  show wpAny _ _ (storeInOwnDict (.ref x) (.ref C) (.str name tk) name v false) _ _ _
  obtain ⟨nm, bs, mro, ns, qn, hd, sn, sb, ab, col, del⟩ := cd
  dsimp only at hh
  subst hh
  unfold storeInOwnDict ownDictForStores
  repeat (first | with_reducible refine PySem.HandSPX.store_in_new ?_ ?_ | with_reducible refine wpAny_loadPart_at hx ?_ | with_reducible refine hcls.at ?_ | wp_step)
  · exact ⟨_, #[], _, (Heap.get?_update_ne _ _ _ _ hxs.symm).trans (Heap.get?_push_at rfl rfl), rfl, fun e he => absurd he (by simp), fun _ => rfl⟩
  · intro h' tk' hn' hs
    have hx₁ : (hp.push { cls := .type "dict", data := .dict #[] }).get? x = some { cls := .ref C, data := .fields fv } := Heap.get?_push_of_some _ hx
    refine hq h' tk' hp.objs.size (fun b o hb ho => ?_) (Nat.le_refl _) hxs.symm ?_ hn'
    · exact (hs.2 b (Nat.ne_of_lt (Heap.lt_size ho))).trans ((Heap.get?_update_ne _ _ _ _ hb).trans (Heap.get?_push_of_some _ ho))
    · exact (hs.2 x hxs).trans (Heap.get?_update_self _ hx₁ rfl)
end
/-- what the written part says of the class -/
structure OexB (K : PySem.W.Frag) (C : Addr) (bmB : List Value) (newId : String) : Prop where
  cls : ∃ nm q N bs bm sn sub ab col dd k0 k1 k2 k3 k5, K.lookup C = some (excClassObj nm q C N bs bm true sn sub ab col dd k0 k1 k2 k3 k5 newId) ∧ PySem.W.excTail bmB bm = true
  sa : PySem.W.findIn K (.ref C) "__setattr__" = some (some (.builtin "object.__setattr__"))
  exC : PySem.W.subIn K (.ref C) (.type "BaseException") = some true
  tyC : PySem.W.typeIn K (.ref C) = some (.type "type")
  kC : PySem.W.keepIn K (.ref C) = true
def oexCls (bmB : List Value) (newId : String) (K : PySem.W.Frag) (C : Addr) : Bool := match K.lookup C with
  | some ⟨.type "type", _, .cls cd, sl⟩ => (match cd.mro, sl.toList with
    | .ref C' :: bm, [_, _, _, _, some (.builtin n), _] => C' == C && (n == newId && (!cd.hasDel && (cd.hasDict && PySem.W.excTail bmB bm)))
    | _, _ => false)
  | _ => false
def oexF (bmB : List Value) (newId : String) (x : Str) : Fx := fun K => oexCls bmB newId K (He.ga K x) && (decide (PySem.W.findIn K (.ref (He.ga K x)) "__setattr__" = some (some (.builtin "object.__setattr__"))) &&
  (decide (PySem.W.subIn K (.ref (He.ga K x)) (.type "BaseException") = some true) && (decide (PySem.W.typeIn K (.ref (He.ga K x)) = some (.type "type")) && PySem.W.keepIn K (.ref (He.ga K x)))))
theorem oex_of {bmB : List Value} {newId : String} {x : Str} {K : PySem.W.Frag} (h : oexF bmB newId x K = true) : OexB K (He.ga K x) bmB newId := by
  obtain ⟨h1, h⟩ := He.ba h
  obtain ⟨h2, h⟩ := He.ba h
  obtain ⟨h3, h⟩ := He.ba h
  obtain ⟨h4, h5⟩ := He.ba h
  refine ⟨?_, of_decide_eq_true h2, of_decide_eq_true h3, of_decide_eq_true h4, h5⟩
  generalize He.ga K x = C at h1 ⊢
  unfold oexCls at h1
  split at h1
  · rename_i dd cd sl ho
    split at h1
    · rename_i C' bm k0 k1 k2 k3 n k5 hm hs
      simp only [Bool.and_eq_true, beq_iff_eq, Bool.not_eq_true'] at h1
      obtain ⟨rfl, rfl, hdel, hdct, ht⟩ := h1
      obtain ⟨nm, bs, mro, ns, qn, hd, sn, sub, ab, col, del⟩ := cd
      dsimp only at hm hdel hdct
      subst hm hdel hdct
      have hsl : sl = #[k0, k1, k2, k3, some (.builtin n), k5] := by
        obtain ⟨l⟩ := sl
        simp only at hs
        rw [hs]
      subst hsl
      exact ⟨nm, qn, ns, bs, bm, sn, sub, ab, col, dd, k0, k1, k2, k3, k5, ho, ht⟩
    · cases h1
  · cases h1
section
variable {X : Cx} {pins : List (Addr × Obj)} {σ : L2.St} {H : Hp} {s : Shared} {a C dx : Addr} {f : Str} {y : V} {u : Value} {fs : List (Str × V)} {Q : Unit → Shared → Prop} {E : Value → Shared → Prop} {A : Around} {bmB : List Value} {B newId initId : String}
/-- self.f = y, the only one -/
theorem ost_newB (BX : BaseX bmB B newId initId) (T : OexB X.K C bmB newId) (I : Inv X pins σ H s) (e : H a = some (exo a C none)) (hno : PySem.W.findIn X.K (.ref C) f = some none) (ry : RelV y u)
    (h : ∀ dx s', H dx = none → dx ≠ a → Inv X pins σ (upd (upd H dx (exd dx [(f, y)])) a (exo a C (some dx))) s' → Q () s') : wpAny (model X.prog X.w) A (setAttr (.ref a) f u) Q E s := by
  obtain ⟨nm, q, N, bs, bm, sn, sub, ab, col, dd, k0, k1, k2, k3, k5, hC, hbm⟩ := T.cls
  have hcl : PySem.W.clsIn X.K C = some { name := nm, bases := bs, mro := .ref C :: bm, ns := N, qualname := q, hasDict := true, slotNames := sn, subclasses := sub, abstract := ab, collection := col, hasDel := false } := by unfold PySem.W.clsIn; rw [hC] <;> rfl
  obtain ⟨t1, ho⟩ := exo_at I.hok e
  obtain ⟨hp, g, d, t, os⟩ := s
  refine PySem.W.set_plain I.kIn (ox := { cls := .ref C, dict := none, data := .fields #[.ref t1, .none, .none, .none, .bool false, .none] }) (od := none) ⟨ho, rfl, rfl, trivial⟩ T.sa ?_
  refine osa_newB BX I.kIn ho hcl (show PySem.W.excTail bmB (.ref C :: bm) = true from hbm) rfl hno (fun h' tk' dx k dn dne hx hn => ?_)
  have hnd : H dx = none := I.hok.fresh dn
  have nd : ∀ {b : Addr} {o : Obj}, hp.get? b = some o → b ≠ dx := fun {b o} q => Nat.ne_of_lt (Nat.lt_of_lt_of_le (Heap.lt_size q) dn)
  have na : ∀ {b : Addr}, H b = none → b ≠ a := fun {b} n z => by
    rw [z, e] at n
    cases n
  have Un1 : Un X.fs [] H (upd (upd H dx (exd dx [(f, y)])) a (exo a C (some dx))) hp h' := {
    keep := fun b o q n _ _ => k b o (na n) q
    slot := fun b o q n _ _ => ⟨o.slots, k b o (na n) q⟩
    free := fun b o q n _ => by rw [upd_ne (na n), upd_ne (nd q)]; exact n
    there := fun b o q _ => by
      by_cases hb : b = a
      · exact ⟨_, by rw [hb]; exact hx⟩
      · exact ⟨o, k b o hb q⟩
    tups := fun b xs q => by rw [upd_ne (at_ne e q exo_tup), upd_ne (ne_of_none q hnd)]; exact q
    frzs := fun b o v q => by rw [upd_ne (at_ne e q exo_frz), upd_ne (ne_of_none q hnd)]; exact q
    tbls := fun b ps q => ⟨#[], by rw [upd_ne (at_ne e q exo_tbl), upd_ne (ne_of_none q hnd), q]; simp⟩ }
  refine h dx _ hnd dne (I.un (t' := tk') Un1 fun b o q => ?_)
  by_cases hb : b = a
  · subst hb
    rw [upd_same] at q
    cases q
    exact exo_ok hx
  · rw [upd_ne hb] at q
    by_cases hd : b = dx
    · subst hd
      rw [upd_same] at q
      cases q
      exact exd_ok hn (relO_put (fs := []) ry fun g => True.intro)
    · rw [upd_ne hd] at q
      exact (I.hok b o q).stay (fun c v hc z => k c v (by
          rcases hc with hc | hc
          · rw [hc]
            exact hb
          · exact at_ne e hc exo_own) z)
        (fun c hc => by rw [upd_ne (at_ne e hc exo_own), upd_ne (ne_of_none hc hnd)]; exact hc) (fun c xs hc => by rw [upd_ne (at_ne e hc exo_tup), upd_ne (ne_of_none hc hnd)]; exact hc)
/-- Base.__init__(self, ..): nothing of it is told -/
theorem oinit_okB {us : List Value} {Q : Value → Shared → Prop} (BX : BaseX bmB B newId initId) (T : OexB X.K C bmB newId) (I : Inv X pins σ H s) (e : H a = some (exo a C none)) (hl : us.length ≤ sizeLine) (h : ∀ s', Inv X pins σ H s' → Q .none s') :
    wpAny (model X.prog X.w) A (call (.builtin initId) (.ref a :: us)) Q E s := by
  obtain ⟨nm, q, N, bs, bm, sn, sub, ab, col, dd, k0, k1, k2, k3, k5, hC, hbm⟩ := T.cls
  obtain ⟨t1, ho⟩ := exo_at I.hok e
  obtain ⟨hp, g, d, t, os⟩ := s
  refine wpAny_call (PySem.HandSPX.init_base BX.F (fun Y => PySem.W.excTail_contains Y bm hbm) (I.kIn _ _ hC) ho hl fun h' t2 k hx => ?_)
  have J := I.write (t' := t) (x := a) (e := a) (o := exo a C none) (by rw [e]; exact True.intro) (.inl rfl) k ⟨_, hx⟩ (exo_ok hx)
  have eu : upd H a (exo a C none) = H := by
    funext b
    by_cases hb : b = a
    · rw [hb, upd_same, e]
    · rw [upd_ne hb]
  rw [eu] at J
  exact h _ J
end
/-- Base.__init__(self, ..) -/
def tBxI (K : PySem.W.Frag) (bmB : List Value) (newId : String) (ta : TA) : TE := fun σ H Q => ta σ H fun vs H1 => ∃ (a C : Addr) (ws : List V), vs = .ref a :: ws ∧ ws.length ≤ 1000 ∧ OexB K C bmB newId ∧ H1 a = some (exo a C none) ∧ Q .non H1
/-- self.f = e -/
def tBxS (K : PySem.W.Frag) (bmB : List Value) (newId : String) (f : Str) (to te : TE) : TS := fun D σ H => te σ H fun y H1 => to σ H1 fun x H2 => ∃ a C : Addr, x = .ref a ∧ OexB K C bmB newId ∧ PySem.W.findIn K (.ref C) f = some none ∧
  H2 a = some (exo a C none) ∧ ∀ dx, H2 dx = none → dx ≠ a → D.nx σ (upd (upd H2 dx (exd dx [(f, y)])) a (exo a C (some dx)))
/-- C(e, ..), C's own __init__ keeping sp -/
def tMkB (C : Addr) (sp : Sp) (W : WX) (ta : TA) : L2.St → Hp → XK → Prop := fun σ H Q => ta σ H fun vs H1 => vs.length ≤ 1000 ∧ ∀ a, H1 a = none → sp (.ref a :: vs) (upd H1 a (exo a C none))
  (fun v H2 => v = .non ∧ ∃ (d : Addr) (fs : List (Str × V)), H2 a = some (exo a C (some d)) ∧ H2 d = some (exd d fs) ∧ H1 d = none ∧ Q (.ref C) (some d) (upd (del H2 a) d (.xd fs))) (WE W σ)
/-- an own base whose __init__ is the built-in one -/
structure BxiC (K : PySem.W.Frag) (D : Addr) (initId : String) : Prop where
  ga : PySem.W.specialIn K (.ref D) "__getattribute__" = some (some (.builtin "type.__getattribute__"))
  rd : PySem.W.readsIn K D (.type "type") = true
  fc : PySem.W.findCls K (.ref D) (.type "type") "__init__" = some (.val (.builtin initId))
def bxiIs (K : PySem.W.Frag) (D : Addr) (initId : String) : Bool := match PySem.W.findCls K (.ref D) (.type "type") "__init__" with
  | some (.val v) => v == .builtin initId
  | _ => false
def bxiF (initId : String) (x : Str) : Fx := fun K => decide (PySem.W.specialIn K (.ref (He.ga K x)) "__getattribute__" = some (some (.builtin "type.__getattribute__"))) && (PySem.W.readsIn K (He.ga K x) (.type "type") && bxiIs K (He.ga K x) initId)
theorem bxi_of {initId : String} {x : Str} {K : PySem.W.Frag} (h : bxiF initId x K = true) : BxiC K (He.ga K x) initId := by
  obtain ⟨h1, h⟩ := He.ba h
  obtain ⟨h2, h3⟩ := He.ba h
  refine ⟨of_decide_eq_true h1, h2, ?_⟩
  unfold bxiIs at h3
  split at h3
  · rename_i v hv
    rw [hv, beq_iff_eq.mp h3]
  · cases h3
section
variable {X : Cx} {o e : Expr} {es : List Expr} {to te : TE} {ta : TA} {f : Str} {p p' p1 p2 pos : Pos} {bmB : List Value} {B newId initId : String}
theorem pe_bxinit {x : Str} {D : Addr} {pl : Sem Bool} (BX : BaseX bmB B newId initId) (hg : Gl X x) (hm : X.mg x = some (.ref D)) (BI : BxiC X.K D initId) (ha : PA X (e :: es) ta)
    (hh : PySem.W.handedIn (.builtin initId) = true := by rfl) (hdb : (x == ("__debug__" : Str)) = false := by decide)
    (hc : eval (.Call (.Attribute (.Name x p1) "__init__" p2) (e :: es) [] pos) X.env = (do
      let ov ← eval (.Name x p1) X.env
      standAt p2.atName
      let (f, first) ← holding [ov] (getMethod ov "__init__" pl)
      callWith pos f first (backTo pos (starEach (e :: es) X.env)) (backToKw pos (keywordEach [] X.env))) := by rfl)
    (he : starEach (e :: es) X.env = (false, eval e X.env) :: starEach es X.env := by rfl) (hpl : (backTo pos (starEach es X.env)).any (·.1) = false := by rfl) :
    PE X (.Call (.Attribute (.Name x p1) "__init__" p2) (e :: es) [] pos) (tBxI X.K bmB newId ta) := by
  refine ⟨fun pins s σ H Q I h => ?_⟩
  refine PySem.W.methodCall_KW (ld_glob I hg hm ?_ hdb) hc
  refine PySem.W.method_cls I.kIn BI.ga (PySem.W.cls_value I.kIn BI.rd BI.fc hh ?_)
  show wpAny _ _ (callWith pos (Value.builtin initId) [] (backTo pos (starEach (e :: es) X.env)) []) _ _ _
  refine PyProof.Rows.callWith_method1 (thn (ha.run pos pins _ σ H _ (I.tok _) h) fun us s1 ⟨vs, H1, I1, r1, a, C, ws, ev, hl, T, ea, q⟩ => ?_) he hpl
  subst ev
  cases r1 with
  | @cons _ u0 _ ur ra rw' =>
    obtain rfl : u0 = Value.ref a := ra
    have hlen : ur.length ≤ sizeLine := by
      rw [← Paired.length rw', sizeLine_eq]
      omega
    exact oinit_okB BX T I1 ea hlen fun s' J => ⟨.non, H1, J, rfl, q⟩
theorem ps_bxst (BX : BaseX bmB B newId initId) (ho : PE X o to) (he : PE X e te) (hs : swapsWith e (some (.Attribute o f p')) pos.line X.env = pure false := by rfl) : PS X (.Assign [.Attribute o f p'] e pos) (tBxS X.K bmB newId f to te) := by
  refine ⟨fun pins s σ H D I h => ?_⟩
  refine plainObj_wpAny_Assign_Attribute (thn (he.run pins s σ H _ I h) fun v s1 ⟨y, H1, I1, r1, q1⟩ => thn (ho.run pins s1 σ H1 _ I1 q1) fun u s2 ⟨x, H2, I2, r2, a, C, ex, T, hno, ea, q⟩ => ?_) hs
  subst ex
  obtain rfl : u = Value.ref a := r2
  exact ost_newB BX T I2 ea hno r1 fun dx s' n ne J => ⟨σ, _, J, q dx n ne⟩
/-- C(e, ..), C's own __init__ keeping sp, to be raised -/
theorem pmk_oexB {x : Str} {C fI : Addr} {k : Nat} {sp : Sp} {W : WX} (BX : BaseX bmB B newId initId) (T : OexB X.K C bmB newId) (hm : Meth X.K C "__init__" fI)
    (F1 : Fc X.prog X.w X.K X.mg X.base k fI [] sp) (hr : Rm (k + 1) X.A) (hx : Takes X W) (hC : X.mg x = some (.ref C)) (ha : PA X (e :: es) ta) (hg : Gl X x := by rfl)
    (hdb : (x == ("__debug__" : Str)) = false := by decide) (he : starEach (e :: es) X.env = (false, eval e X.env) :: starEach es X.env := by rfl) (hpl : (backTo pos (starEach es X.env)).any (·.1) = false := by rfl) :
    PMk X (.Call (.Name x p) (e :: es) [] pos) (tMkB C sp W ta) := by
  intro pins s σ H Q I h
  obtain ⟨nm, q, N, bs, bm, sn, sub, ab, col, dd, k0, k1, k2, k3, k5, hCl, hbm⟩ := T.cls
  refine wpAny_Call_Name_kw (ld_glob I hg hC ?_ hdb)
  refine PySem.W.callWith_K (h₀ := X.base) I.ok.mod.kin T.kC (thn (ha.run pos pins s σ H _ I h) fun us s1 ⟨vs, H1, I1, r1, hz, q1⟩ => ⟨I1.kIn, ?_⟩) he hpl
  show wpAny _ _ (call (.ref C) us) _ _ _
  obtain ⟨hp, g, dr, tk, os⟩ := s1
  have hsz : hp.objs.size ≤ hp.objs.size + 1 := Nat.le_succ _
  have hn : H1 (hp.objs.size + 1) = none := I1.hok.fresh hsz
  have hq := q1 (hp.objs.size + 1) hn
  have kk : ∀ b o, hp.get? b = some o → ((hp.push (PySem.W.kdv_tup us)).push (PySem.HandSPX.excO C hp.objs.size)).get? b = some o := fun b o e => Heap.get?_push_of_some _ (Heap.get?_push_of_some _ e)
  have hget : ((hp.push (PySem.W.kdv_tup us)).push (PySem.HandSPX.excO C hp.objs.size)).get? (hp.objs.size + 1) = some (PySem.HandSPX.excO C hp.objs.size) := by heap_get
  have I2 : Inv X pins σ (upd H1 (hp.objs.size + 1) (exo (hp.objs.size + 1) C none)) ⟨(hp.push (PySem.W.kdv_tup us)).push (PySem.HandSPX.excO C hp.objs.size), g, dr, tk, os⟩ :=
    I1.laid (t' := tk) (a := hp.objs.size + 1) (o := exo (hp.objs.size + 1) C none) (h' := (hp.push (PySem.W.kdv_tup us)).push (PySem.HandSPX.excO C hp.objs.size)) kk hsz (exo_ok hget)
  have hus : us.length ≤ sizeLine := by
    rw [← Paired.length r1, sizeLine_eq]
    omega
  refine wpAny_call (PySem.HandSPX.call_own BX.F (fun Y => PySem.W.excTail_contains Y bm hbm) (I1.kIn _ _ hCl) (PySem.W.looks_findIn I1.kIn hm.at_) (fun self => PySem.W.bind_fn I1.kIn self (beq_iff_eq.mp hm.fn)) hus
    (codeAny_mono (F1 _ X.stack _ _ (Value.ref (hp.objs.size + 1) :: us) [] (V.ref (hp.objs.size + 1) :: vs) _ (WE W σ) (hr.make C us []) (I2.env0.make C us []) (.cons rfl (by have e9 : us.append [] = us := List.append_nil us; rw [e9]; exact r1)) rfl hq) fun r s' hq' => ?_))
  cases r with
  | error er => exact passAt hx σ pins _ _ er s' I2 hq'
  | ok fl =>
    cases fl with
    | ret u =>
      obtain ⟨v, H2, os2, bare2, un2, hok2, rv, ev, d, fs, ea, ed, hd1, q2⟩ := hq'
      subst ev
      obtain ⟨h2, g2, d2, t2, os'⟩ := s'
      exact ⟨rv, mk_end (raises_own T.exC T.tyC) I1 hsz kk un2 hok2 os2 bare2 ea ed hd1 q2⟩
    | next => exact False.elim hq'
    | brk => exact False.elim hq'
    | cont => exact False.elim hq'
end
end L3
set_option Elab.async false
set_option linter.all false
set_option maxRecDepth 100000
set_option maxHeartbeats 4000000
namespace L3
open PySem PySem.Spec PyProof.Rows L2
section
variable {X : Cx} {k : Nat} {f C : Addr} {ks : List Str} {sp : Sp} {W : WX} {x m : Str} {p pos apos p1 p2 : Pos} {e o : Expr} {es : List Expr} {kws : List Keyword} {ta : TE} {t tk : TA}
/-- o.m(e, ..): the class, the def and its promise are told when it's asked -/
def tMtV (X : Cx) (k : Nat) (m : Str) (W : WX) (ta : TE) (t : TA) : TE := fun σ H Q => ta σ H fun x H1 => ∃ (a C dx : Addr) (fs : List (Str × V)) (f : Addr), x = .ref a ∧ H1 a = some (.ins C dx fs) ∧ Cls X.K C ∧ Meth X.K C m f ∧ fs.lookup m = none ∧
  t σ H1 fun vs H2 => ∃ sp : Sp, Fc X.prog X.w X.K X.mg X.base k f [] sp ∧ sp (.ref a :: vs) H2 Q (WE W σ)
theorem c_methV {pl : Sem Bool} (he : PE X o ta) (hr : Rm k X.A) (hx : Takes X W) (ha : PA X (e :: es) t)
    (hst : starEach (e :: es) X.env = (false, eval e X.env) :: starEach es X.env := by rfl) (hpl : (backTo pos (starEach es X.env)).any (·.1) = false := by rfl)
    (ht : eval (.Call (.Attribute o m apos) (e :: es) [] pos) X.env = (do
      let ov ← eval o X.env
      standAt apos.atName
      let (f, first) ← holding [ov] (getMethod ov m pl)
      callWith pos f first (backTo pos (starEach (e :: es) X.env)) (backToKw pos (keywordEach [] X.env))) := by rfl) :
    PE X (.Call (.Attribute o m apos) (e :: es) [] pos) (tMtV X k m W ta t) := by
  refine ⟨fun pins s σ H Q I h => ?_⟩
  refine PySem.W.methodCall_KW (pl := pl) (thn (he.run pins s σ H _ I h) fun u s1 ⟨x, H1, I1, rx, a, C, dx, fs, f, ex, ea, c, hm, l, q⟩ => ?_) ht
  subst ex
  obtain rfl : u = Value.ref a := rx
  refine getmeth_ok I1 ea c hm l ?_
  refine PySem.W.callWith_K (first := [.ref a]) (h₀ := X.base) I.ok.mod.kin hm.kp (thn (ha.run pos pins s1 σ H1 _ I1 q) fun us s2 ⟨vs, H2, I2, r, sp, F, q2⟩ => ⟨I2.kIn, ?_⟩) hst hpl
  exact run_fc (us := .ref a :: us) (ws := []) (vs := .ref a :: vs) F hr hx I2 (by rw [List.append_nil]; exact .cons rfl r) rfl q2
theorem c_methV0 {pl : Sem Bool} (he : PE X o ta) (hr : Rm k X.A) (hx : Takes X W)
    (ht : eval (.Call (.Attribute o m apos) [] [] pos) X.env = (do
      let ov ← eval o X.env
      standAt apos.atName
      let (f, first) ← holding [ov] (getMethod ov m pl)
      callWith pos f first (backTo pos (starEach [] X.env)) (backToKw pos (keywordEach [] X.env))) := by rfl) :
    PE X (.Call (.Attribute o m apos) [] [] pos) (tMtV X k m W ta tNil) := by
  refine ⟨fun pins s σ H Q I h => ?_⟩
  refine PySem.W.methodCall_KW (pl := pl) (thn (he.run pins s σ H _ I h) fun u s1 ⟨x, H1, I1, rx, a, C, dx, fs, f, ex, ea, c, hm, l, sp, F, q⟩ => ?_) ht
  subst ex
  obtain rfl : u = Value.ref a := rx
  refine getmeth_ok I1 ea c hm l ?_
  exact PySem.W.callWith_K0 (first := [.ref a]) I1.kIn hm.kp (run_fc (us := [.ref a]) (ws := []) (vs := [.ref a]) F hr hx I1 (.cons rfl .nil) rfl q)
/-- an own class whose attribute m is the def f -/
structure ClsM (K : PySem.W.Frag) (D : Addr) (m : Str) (f : Addr) : Prop where
  ga : PySem.W.specialIn K (.ref D) "__getattribute__" = some (some (.builtin "type.__getattribute__"))
  rd : PySem.W.readsIn K D (.type "type") = true
  fc : PySem.W.findCls K (.ref D) (.type "type") m = some (.val (.ref f))
  kp : PySem.W.keepIn K (.ref f) = true
def clsMIs (K : PySem.W.Frag) (D : Addr) (m : Str) (f : Addr) : Bool := match PySem.W.findCls K (.ref D) (.type "type") m with
  | some (.val v) => v == .ref f
  | _ => false
def clsMF (x m : Str) : Fx := fun K => decide (PySem.W.specialIn K (.ref (He.ga K x)) "__getattribute__" = some (some (.builtin "type.__getattribute__"))) && (PySem.W.readsIn K (He.ga K x) (.type "type") && (clsMIs K (He.ga K x) m (He.ma K (He.ga K x) m) && PySem.W.keepIn K (.ref (He.ma K (He.ga K x) m))))
theorem clsM_of {x m : Str} {K : PySem.W.Frag} (h : clsMF x m K = true) : ClsM K (He.ga K x) m (He.ma K (He.ga K x) m) := by
  obtain ⟨h1, h⟩ := He.ba h
  obtain ⟨h2, h⟩ := He.ba h
  obtain ⟨h3, h4⟩ := He.ba h
  refine ⟨of_decide_eq_true h1, h2, ?_, h4⟩
  unfold clsMIs at h3
  split at h3
  · rename_i v hv
    rw [hv, beq_iff_eq.mp h3]
  · cases h3
/-- D.m(e, ..) -/
theorem c_clsm {pl : Sem Bool} {D : Addr} (CM : ClsM X.K D m f) (F : Fc X.prog X.w X.K X.mg X.base k f [] sp) (hr : Rm k X.A) (hm : X.mg x = some (.ref D)) (hx : Takes X W) (ha : PA X (e :: es) t)
    (hg : Gl X x := by rfl) (hh : PySem.W.handedIn (.ref f) = true := by rfl) (hdb : (x == ("__debug__" : Str)) = false := by decide)
    (hst : starEach (e :: es) X.env = (false, eval e X.env) :: starEach es X.env := by rfl) (hpl : (backTo pos (starEach es X.env)).any (·.1) = false := by rfl)
    (hc : eval (.Call (.Attribute (.Name x p1) m p2) (e :: es) [] pos) X.env = (do
      let ov ← eval (.Name x p1) X.env
      standAt p2.atName
      let (f, first) ← holding [ov] (getMethod ov m pl)
      callWith pos f first (backTo pos (starEach (e :: es) X.env)) (backToKw pos (keywordEach [] X.env))) := by rfl) :
    PE X (.Call (.Attribute (.Name x p1) m p2) (e :: es) [] pos) (tFc sp W t) := by
  refine ⟨fun pins s σ H Q I h => ?_⟩
  refine PySem.W.methodCall_KW (ld_glob I hg hm ?_ hdb) hc
  refine PySem.W.method_cls I.kIn CM.ga (PySem.W.cls_value I.kIn CM.rd CM.fc hh ?_)
  refine PySem.W.callWith_K (first := []) (h₀ := X.base) I.ok.mod.kin CM.kp (thn (ha.run pos pins _ σ H _ (I.tok _) h) fun us s1 ⟨vs, H1, I1, r, q⟩ => ⟨I1.kIn, ?_⟩) hst hpl
  exact run_fc (ws := []) F hr hx I1 (by rw [List.append_nil]; exact r) rfl q
end
end L3
set_option Elab.async false
set_option linter.all false
set_option maxRecDepth 100000
set_option maxHeartbeats 4000000
namespace L3
open PySem PySem.Spec PyProof.Rows L2
end L3
set_option Elab.async false
set_option linter.all false
set_option maxRecDepth 100000
set_option maxHeartbeats 4000000
namespace L3
open PySem PySem.Spec PyProof.Rows L2 PySem.SeqAt PySem.Calls
theorem zl_no_len : typeLookup (.type "zip") "__len__" = pure none := am_miss_of_fast (by decide +kernel)
theorem zl_no_hint : typeLookup (.type "zip") "__length_hint__" = pure none := am_miss_of_fast (by decide +kernel)
/-- the pairs of two lists stand at ts -/
def PrsAt (xs ys : List V) (ts : List Addr) (H : Hp) : Prop := ∀ (j : Nat) (t : Addr), ts[j]? = some t → ∃ x y, xs[j]? = some x ∧ ys[j]? = some y ∧ H t = some (.tup [x, y])
theorem PrsAt.mono {xs ys : List V} {ts : List Addr} {H H' : Hp} (h : PrsAt xs ys ts H) (e : Ex H H') : PrsAt xs ys ts H' := fun j t hj => let ⟨x, y, a, b, c⟩ := h j t hj; ⟨x, y, a, b, e _ _ c⟩
/-- how a zip of two lists stands, its last pair held or not -/
def ZlSt (a b z TI TO i1 i2 : Addr) (i : Nat) (H : Hp) (h : Heap) : Prop :=
  IsPair h TI (.ref i1) (.ref i2) ∧ h.IsListIter i1 a i ∧ h.IsListIter i2 b i ∧ (∃ x y, IsPair h TO x y) ∧ (IsZip h z TI TO .none ∨ ∃ T f xs, IsZipHeld h z TI TO T f ∧ H T = some (.tup xs))
section
variable {X : Cx} {pins : List (Addr × Obj)} {σ : L2.St} {a b z TI TO i1 i2 S : Addr}
theorem ZlSt.at {i : Nat} {H H' : Hp} {h h' : Heap} (s : ZlSt a b z TI TO i1 i2 i H h) (k : ∀ c ∈ [z, TI, TO, i1, i2], ∀ o, h.get? c = some o → h'.get? c = some o) (e : ∀ T xs, H T = some (.tup xs) → H' T = some (.tup xs)) : ZlSt a b z TI TO i1 i2 i H' h' := by
  obtain ⟨p, l1, l2, ⟨x, y, t⟩, r⟩ := s
  refine ⟨k TI (by simp) _ p, l1.at fun o q => k i1 (by simp) o q, l2.at fun o q => k i2 (by simp) o q, ⟨x, y, k TO (by simp) _ t⟩, ?_⟩
  rcases r with r | ⟨T, f, xs, r, t⟩
  · exact .inl (k z (by simp) _ r)
  · exact .inr ⟨T, f, xs, k z (by simp) _ r, e _ _ t⟩
theorem zl_loop {A1 : Around} {xs ys : List V} {H0 : Hp} {Rs : Result → Shared → Prop} (D : ZipApart z TI TO i1 i2 a b) (hh : A1.handled = none) (hS : S ∉ [z, TI, TO, i1, i2]) (h0 : H0 S = none)
    (qx : SqL X.K H0 a xs) (qy : SqL X.K H0 b ys)
    (hdone : ∀ ts H s, Inv X pins σ H s → Ex H0 H → H S = some (.lst (ts.map V.ref)) → ts.length = min xs.length ys.length → PrsAt xs ys ts H → Rs (.ok (.ret .none)) s) :
    ∀ (k i : Nat) (ts : List Addr) (H : Hp) (s : Shared), min xs.length ys.length = i + k → Inv X pins σ H s → (∀ c ∈ [z, TI, TO, i1, i2], FpOk X pins H c) → ZlSt a b z TI TO i1 i2 i H s.heap → Ex H0 H →
      H S = some (.lst (ts.map V.ref)) → ts.length = i → PrsAt xs ys ts H → codeAny (model X.prog X.w) A1 (.builtin "list.extend.loop" ⟨[.ref S, .ref z, .none], []⟩) Rs s := by
  intro k
  induction k with
  | zero =>
    intro i ts H s hn I hf st e0 hl ht hp
    obtain ⟨us, rv, p, _⟩ := I.list (ex_sql e0 qx)
    obtain ⟨vs, rw', p2, _⟩ := I.list (ex_sql e0 qy)
    have l1 := rv.length
    have l2 := rw'.length
    refine codeAny_builtin PySem.F.entry_extend_loop ?_
    rw [Around.under_plainId PySem.F.plain_extend_loop _]
    show wpAny _ A1.in1 (pyNext (.ref z) >>= _) _ _ s
    have he : us.toArray[i]? = none ∨ vs.toArray[i]? = none := by
      rcases Nat.le_total xs.length ys.length with q | q
      · exact .inl (by simp; omega)
      · exact .inr (by simp; omega)
    obtain ⟨g, m1, m2, ⟨x, y, t0⟩, r⟩ := st
    rcases r with r | ⟨T, f, ws, r, t⟩
    · refine wpAny_bind (wpAny_pyNext_zip_end hh D r g t0 m1 m2 p.isList p2.isList he fun h' hk => wpAny_pure (hdone ts H _ (I.turnedL (t' := s.toks) (ch := [z, TI, TO, i1, i2]) (fun c o hb q => ?_) hf) e0 hl (by omega) hp))
      exact hk c o (fun q' => hb (by simp [q'])) (fun q' => hb (by simp [q'])) (fun q' => hb (by simp [q'])) (fun q' => hb (by simp [q'])) q
    · obtain ⟨_, _, _, ob, gT, _⟩ := I.hok T _ t
      refine wpAny_bind (wpAny_pyNext_zip_end_held hh D r gT g m1 m2 p.isList p2.isList he fun h' hk => wpAny_pure (hdone ts H _ (I.turnedL (t' := s.toks) (ch := [z, TI, TO, i1, i2]) (fun c o hb q => ?_) hf) e0 hl (by omega) hp))
      exact hk c o (fun q' => hb (by simp [q'])) (fun q' => hb (by simp [q'])) (fun q' => hb (by simp [q'])) q
  | succ k ih =>
    intro i ts H s hn I hf st e0 hl ht hp
    obtain ⟨us, rv, p, z1⟩ := I.list (ex_sql e0 qx)
    obtain ⟨vs, rw', p2, _⟩ := I.list (ex_sql e0 qy)
    have hx1 : i < xs.length := by omega
    have hy1 : i < ys.length := by omega
    have gx : xs[i]? = some xs[i] := by simp [hx1]
    have gy : ys[i]? = some ys[i] := by simp [hy1]
    obtain ⟨u, hu, ru⟩ := rv.get gx
    obtain ⟨v, hv, rv2⟩ := rw'.get gy
    refine codeAny_builtin PySem.F.entry_extend_loop ?_
    rw [Around.under_plainId PySem.F.plain_extend_loop _]
    show wpAny _ A1.in1 (pyNext (.ref z) >>= _) _ _ s
    -- what is behind the turn
    have nxt : ∀ h' : Heap, IsPair h' s.heap.objs.size u v → (∀ c o, c ∉ [z, TI, TO, i1, i2] → s.heap.get? c = some o → h'.get? c = some o) → (∀ H', H' s.heap.objs.size = some (.tup [xs[i], ys[i]]) → (∀ T ws, H T = some (.tup ws) → H' T = some (.tup ws)) → ZlSt a b z TI TO i1 i2 (i + 1) H' h') → h'.objs.size = s.heap.objs.size + 1 →
        wpAny (model X.prog X.w) A1.in1 (updateSeq S (·.push (.ref s.heap.objs.size)) >>= fun _ => again (.builtin "list.extend.loop" ⟨[.ref S, .ref z, .none], []⟩))
          (fun fin s' => match fin with | .done f => Rs (.ok f) s' | .again c' => c'.quiet = true ∧ codeAny (model X.prog X.w) A1 c' Rs s') (fun e s' => Rs (.error e) s') { s with heap := h' } := by
      intro h' hT hk hst hsz
      have new : ObjOk X.prog X.w (upd H s.heap.objs.size (.tup [xs[i], ys[i]])) h' s.heap.objs.size (.tup [xs[i], ys[i]]) := ⟨by show 2 ≤ sizeLine; decide, [u, v], .cons ru (.cons rv2 .nil), ⟨_, hT, rfl, _, rfl⟩⟩
      have fr : H s.heap.objs.size = none := I.hok.fresh (Nat.le_refl _)
      have I1 : Inv X pins σ (upd H s.heap.objs.size (.tup [xs[i], ys[i]])) { s with heap := h' } := I.turnedNew (t' := s.toks) (ch := [z, TI, TO, i1, i2]) hk hf (Nat.le_refl _) new
      have nS : S ≠ s.heap.objs.size := ne_of_none hl fr
      have hl1 : (upd H s.heap.objs.size (.tup [xs[i], ys[i]])) S = some (.lst (ts.map V.ref)) := (upd_ne nS).trans hl
      obtain ⟨zz, its, kk, r2, hl2, e2⟩ := I1.lstM hl1
      rw [List.length_map] at hl2 zz
      have hxl : xs.length ≤ sizeLine := z1
      refine wpAny_bind (wpAny_updateSeq e2 rfl (wpAny_pure ⟨plainId_quiet PySem.F.plain_extend_loop _, ?_⟩) (by rw [List.size_toArray]; omega) (by show (its.toArray.push _).size ≤ sizeLine + 1; rw [Array.size_push, List.size_toArray]; omega))
      have I2 := I1.lset (f := (·.push (Value.ref s.heap.objs.size))) (its' := its ++ [Value.ref s.heap.objs.size]) (ys := (ts ++ [s.heap.objs.size]).map V.ref) (t' := s.toks) hl1 e2 (by simp) (by rw [List.map_append]; exact r2.append (.cons rfl .nil)) (by rw [List.length_map, List.length_append, List.length_singleton]; omega)
      have tT : (upd (upd H s.heap.objs.size (.tup [xs[i], ys[i]])) S (.lst ((ts ++ [s.heap.objs.size]).map V.ref))) s.heap.objs.size = some (.tup [xs[i], ys[i]]) := (upd_ne nS.symm).trans upd_same
      have up : ∀ T ws, H T = some (.tup ws) → (upd (upd H s.heap.objs.size (.tup [xs[i], ys[i]])) S (.lst ((ts ++ [s.heap.objs.size]).map V.ref))) T = some (.tup ws) := fun T ws e => by
        have n1 : T ≠ S := fun q => by rw [q, hl] at e; cases e
        have n2 : T ≠ s.heap.objs.size := ne_of_none e fr
        rw [upd_ne n1, upd_ne n2]; exact e
      refine ih (i + 1) (ts ++ [s.heap.objs.size]) _ _ (by omega) I2 (fun c hc => ?_) ((hst _ tT up).at (fun c hc o q => ?_) fun _ _ q => q) ?_ upd_same (by rw [List.length_append, ht]; rfl) ?_
      · have nc : c ≠ S := fun q => hS (q ▸ hc)
        obtain ⟨f0, f1, f2, f3, f4, f5⟩ := hf c hc
        have n2 : c ≠ s.heap.objs.size := by
          obtain ⟨g, ⟨_, m1, _⟩, ⟨_, m2, _⟩, ⟨x, y, t0⟩, r⟩ := st
          have zlt : z < s.heap.objs.size := by
            rcases r with r | ⟨T, f, ws, r, _⟩
            · exact Heap.lt_size r
            · exact Heap.lt_size r
          have e' : c = z ∨ c = TI ∨ c = TO ∨ c = i1 ∨ c = i2 := by simpa using hc
          rcases e' with q | q | q | q | q
          · rw [q]; exact Nat.ne_of_lt zlt
          · rw [q]; exact Nat.ne_of_lt (Heap.lt_size g)
          · rw [q]; exact Nat.ne_of_lt (Heap.lt_size t0)
          · rw [q]; exact Nat.ne_of_lt (Heap.lt_size m1)
          · rw [q]; exact Nat.ne_of_lt (Heap.lt_size m2)
        exact ⟨by rw [upd_ne nc, upd_ne n2]; exact f0, f1, f2, f3, f4, f5⟩
      · exact (Heap.get?_update_other _ _ (fun h : S = c => hS (h ▸ hc))).trans q
      · exact fun c o q => by
          have n1 : c ≠ S := fun q' => by rw [q', h0] at q; cases q
          have n2 : c ≠ s.heap.objs.size := ne_of_none (e0 c o q) fr
          rw [upd_ne n1, upd_ne n2]; exact e0 c o q
      · intro j t hj
        rcases Nat.lt_or_ge j ts.length with q | q
        · rw [List.getElem?_append_left q] at hj
          obtain ⟨x, y, e1, e2, e3⟩ := hp j t hj
          exact ⟨x, y, e1, e2, up _ _ e3⟩
        · rw [List.getElem?_append_right q] at hj
          have j0 : j = i := by
            rcases Nat.lt_or_ge 0 (j - ts.length) with w | w
            · rw [List.getElem?_eq_none (by rw [List.length_singleton]; omega)] at hj; cases hj
            · omega
          subst j0
          have : t = s.heap.objs.size := by
            rw [ht, Nat.sub_self] at hj
            simpa using hj.symm
          subst this
          exact ⟨_, _, gx, gy, tT⟩
    obtain ⟨g, m1, m2, ⟨x, y, t0⟩, r⟩ := st
    have hu' : us.toArray[i]? = some u := by simpa using hu
    have hv' : vs.toArray[i]? = some v := by simpa using hv
    rcases r with r | ⟨T, f, ws, r, t⟩
    · refine wpAny_bind (wpAny_pyNext_zip_item D r g t0 m1 m2 p.isList p2.isList hu' hv' fun h' z' TO' h1' h2' hT hsz hk => nxt h' hT (fun c o hb q => ?_) (fun H' hH up => ⟨hk _ _ D.TIz D.TITO D.TIi1 D.TIi2 g, h1', h2', ⟨_, _, TO'⟩, .inr ⟨_, _, _, z', hH⟩⟩) hsz)
      exact hk c o (fun q' => hb (by simp [q'])) (fun q' => hb (by simp [q'])) (fun q' => hb (by simp [q'])) (fun q' => hb (by simp [q'])) q
    · obtain ⟨_, _, _, ob, gT, _⟩ := I.hok T _ t
      refine wpAny_bind (wpAny_pyNext_zip_item_held D r gT g m1 m2 p.isList p2.isList hu' hv' fun h' z' h1' h2' hT hsz hk => nxt h' hT (fun c o hb q => ?_) (fun H' hH up => ⟨hk _ _ D.TIz D.TIi1 D.TIi2 g, h1', h2', ⟨_, _, hk _ _ D.TOz D.TOi1 D.TOi2 t0⟩, .inr ⟨_, _, _, z', up _ _ t⟩⟩) hsz)
      exact hk c o (fun q' => hb (by simp [q'])) (fun q' => hb (by simp [q'])) (fun q' => hb (by simp [q'])) q
theorem call_listZip {X : Cx} (hc : X.calm = true) {pins : List (Addr × Obj)} {σ : L2.St} {H : Hp} {s : Shared} {a b : Addr} {xs ys : List V} {Q : VK} (I : Inv X pins σ H s) (D : ZipApart z TI TO i1 i2 a b)
    (qx : SqL X.K H a xs) (qy : SqL X.K H b ys) (hf : ∀ c ∈ [z, TI, TO, i1, i2], FpOk X pins H c) (st : ZlSt a b z TI TO i1 i2 0 H s.heap) (hz0 : IsZip s.heap z TI TO .none)
    (q : ∀ q ts H', Ex H H' → H q = none → H' q = some (.lst (ts.map V.ref)) → ts.length = min xs.length ys.length → PrsAt xs ys ts H' → Q (.ref q) H') :
    wpAny (model X.prog X.w) X.A (call (.type "list") [.ref z]) (EP X pins σ Q) X.xe s := by
  have zlt : z < s.heap.objs.size := by
    obtain ⟨_, _, _, _, r⟩ := st
    rcases r with r | ⟨T, f, ws, r, _⟩
    · exact Heap.lt_size r
    · exact Heap.lt_size r
  refine callType_codes (Q₁ := fun obj s₁ => obj = .ref s.heap.objs.size ∧ s₁ = { s with heap := s.heap.push { cls := .type "list", data := .seq #[] } }) PySem.F.called_list (PySem.F.typeCall_list_1 _) PySem.F.entry_list_init
    (code_list_new _ ⟨rfl, rfl⟩) fun obj s₁ h₁ => ?_
  obtain ⟨rfl, rfl⟩ := h₁
  have hS : (s.heap.push { cls := .type "list", data := .seq #[] }).get? s.heap.objs.size = some { cls := .type "list", data := .seq #[] } := Heap.get?_push_size _ rfl
  refine ⟨⟨_, hS, rfl⟩, PySem.F.args_list_init_2 _ _, ?_⟩
  have fr : H s.heap.objs.size = none := I.hok.fresh (Nat.le_refl _)
  have lt5 : ∀ c ∈ [z, TI, TO, i1, i2], c < s.heap.objs.size := fun c hc => by
    obtain ⟨g, ⟨_, m1, _⟩, ⟨_, m2, _⟩, ⟨x, y, t0⟩, r⟩ := st
    have e' : c = z ∨ c = TI ∨ c = TO ∨ c = i1 ∨ c = i2 := by simpa using hc
    rcases e' with q | q | q | q | q
    · rw [q]; exact zlt
    · rw [q]; exact Heap.lt_size g
    · rw [q]; exact Heap.lt_size t0
    · rw [q]; exact Heap.lt_size m1
    · rw [q]; exact Heap.lt_size m2
  have I1 : Inv X pins σ (upd H s.heap.objs.size (.lst [])) { s with heap := s.heap.push { cls := .type "list", data := .seq #[] } } := I.lnew (its := []) (t' := s.toks) .nil (Nat.zero_le _)
  have nz : s.heap.objs.size ≠ z := Nat.ne_of_gt zlt
  show wpAny _ _ (do let old ← Builtin.List.listItems (.ref s.heap.objs.size); Builtin.List.listUpdate (.ref s.heap.objs.size) (fun _ => #[]); letGo old.toList.reverse; Builtin.List.listExtendWith (.ref s.heap.objs.size) (.ref z) .none) _ _ _
  refine wpAny_bind ?_
  unfold Builtin.List.listItems
  refine wpAny_bind (wpAny_seqItems hS rfl (wpAny_pure ?_))
  show wpAny _ _ (updateSeq s.heap.objs.size (fun _ => #[]) >>= fun _ => letGo (#[] : Array Value).toList.reverse >>= fun _ => Builtin.List.listExtendWith (.ref s.heap.objs.size) (.ref z) .none) _ _ _
  refine wpAny_bind (wpAny_updateSeq hS rfl ?_)
  have I2 := I1.lset (f := fun _ => #[]) (its := []) (its' := []) (ys := []) (t' := s.toks) upd_same hS rfl .nil (Nat.zero_le _)
  rw [upd_upd] at I2
  have hS2 := Heap.get?_update_self (Obj.mapSeq (fun _ => (#[] : Array Value))) hS rfl
  refine wpAny_bind (wpAny_letGo ?_)
  have keep2 : ∀ c o, c ≠ s.heap.objs.size → s.heap.get? c = some o → ((s.heap.push { cls := .type "list", data := .seq #[] }).update s.heap.objs.size (Obj.mapSeq (fun _ => (#[] : Array Value)))).get? c = some o := fun c o hb e =>
    (Heap.get?_update_other _ _ (Ne.symm hb)).trans (Heap.get?_push_of_some _ e)
  have st2 := st.at (H' := upd H s.heap.objs.size (.lst [])) (fun c hc o e => keep2 c o (Nat.ne_of_lt (lt5 c hc)) e) (fun T ws e => (upd_ne (ne_of_none e fr)).trans e)
  generalize hg2 : (s.heap.push { cls := .type "list", data := .seq #[] }).update s.heap.objs.size (Obj.mapSeq (fun _ => (#[] : Array Value))) = g2 at I2 hS2 st2 keep2
  have hty : ∃ o, g2.get? z = some o ∧ o.cls = .type "zip" := by
    obtain ⟨_, _, _, _, r⟩ := st2
    rcases r with r | ⟨T, f, ws, r, _⟩
    · exact ⟨_, r, rfl⟩
    · exact ⟨_, r, rfl⟩
  have hTy : ∀ h3 : Heap, (∀ o, g2.get? z = some o → h3.get? z = some o) → Shared.TypeIs { s with heap := h3 } (.ref z) "zip" := fun h3 k => let ⟨o, e, c⟩ := hty; ⟨o, k o e, c⟩
  unfold Builtin.List.listExtendWith
  refine wpAny_bind (wpAny_typeOf (hTy g2 fun _ e => e) ?_)
  have h1 : Builtin.List.listSameRef (.ref s.heap.objs.size) (.ref z) = false := by simp [Builtin.List.listSameRef, nz]
  have h2 : (Value.type "zip" == Value.type "list") = false := by decide
  have h3 : (Value.type "zip" == Value.type "tuple") = false := by decide
  simp only [h1, h2, h3, Bool.or_false, Bool.false_eq_true, if_false]
  have iter : ∀ {A : Around} {E : Value → Shared → Prop} {R : Value → Shared → Prop}, R (.ref z) { s with heap := g2 } → wpAny (model X.prog X.w) A (pyIter (.ref z)) R E { s with heap := g2 } := fun hR => by
    exact wpAny_pyIter_zip (keep2 z _ (Ne.symm nz) hz0) hR
  refine wpAny_bind (iter ?_)
  refine wpAny_bind (wpAny_holding ?_)
  unfold Builtin.List.listLengthHint
  refine wpAny_bind (wpAny_specialOf (hTy g2 fun _ e => e) zl_no_len ?_)
  show wpAny _ _ (specialOf (Value.ref z) (Str.ofString "__length_hint__") >>= _) _ _ _
  refine wpAny_bind (wpAny_specialOf (hTy g2 fun _ e => e) zl_no_hint ?_)
  refine wpAny_pure ?_
  show wpAny _ _ (rule "list.extend.makes-room" >>= fun _ => Builtin.List.listTouch (.ref s.heap.objs.size) >>= fun _ =>
    again (.builtin "list.extend.loop" ⟨[.ref s.heap.objs.size, .ref z, .none], []⟩)) _ _ _
  refine wpAny_bind (wpAny_rule ?_)
  refine wpAny_bind ?_
  show wpAny _ _ (updateSeq s.heap.objs.size (·.push .none) >>= fun _ => updateSeq s.heap.objs.size (·.pop)) _ _ _
  obtain ⟨z3, its3, k3, r3, hl3, e3⟩ := I2.lstM upd_same
  cases r3
  refine wpAny_bind (wpAny_updateSeq e3 rfl ?_)
  have I3 := I2.lset (f := (·.push Value.none)) (its' := [Value.none]) (ys := [.non]) (t' := s.toks) upd_same e3 (by simp) (.cons rfl .nil) (by rw [List.length_singleton, sizeLine_eq]; decide)
  obtain ⟨z4, its4, k4, r4, hl4, e4⟩ := I3.lstM upd_same
  obtain ⟨u4, rfl, ru4⟩ := r4.one
  refine wpAny_updateSeq e4 rfl ?_ (by show 1 ≤ sizeLine; rw [sizeLine_eq]; decide) (by show 0 ≤ sizeLine + 1; exact Nat.zero_le _)
  have I4 := I3.lset (f := (·.pop)) (its := [u4]) (its' := []) (ys := []) (t' := s.toks) upd_same e4 (by rfl) .nil (Nat.zero_le _)
  rw [upd_upd, upd_upd] at I4
  have nS : s.heap.objs.size ∉ [z, TI, TO, i1, i2] := fun hm => Nat.lt_irrefl _ (lt5 _ hm)
  refine wpAny_pure ⟨plainId_quiet PySem.F.plain_extend_loop _, zl_loop (A1 := X.A.in1) (H0 := H) (S := s.heap.objs.size) D (I.ok.hd hc) nS fr qx qy (fun ts H' s' I' e' hl ht hp => ⟨rfl, .ref s.heap.objs.size, H', I', rfl, q _ ts H' e' fr hl ht hp⟩) (min xs.length ys.length) 0 [] (upd H s.heap.objs.size (.lst [])) _ (by omega) I4 (fun c hc => ?_) (st2.at (fun c hc o e => ?_) fun _ _ e => e) (ex_new fr) upd_same rfl (fun j t hj => by simp at hj)⟩
  · obtain ⟨f0, f1, f2, f3, f4, f5⟩ := hf c hc
    exact ⟨by rw [upd_ne (Nat.ne_of_lt (lt5 c hc))]; exact f0, f1, f2, f3, f4, f5⟩
  · have nc : s.heap.objs.size ≠ c := Nat.ne_of_gt (lt5 c hc)
    exact (Heap.get?_update_other _ _ nc).trans ((Heap.get?_update_other _ _ nc).trans e)
end
section
variable {X : Cx}
def tLstZip (K : PySem.W.Frag) (ta : TA) : TE := fun σ H Q => ta σ H fun vs H1 => ∃ a b xs ys, vs = [.ref a, .ref b] ∧ SqL K H1 a xs ∧ SqL K H1 b ys ∧
  ∀ q ts H', Ex H1 H' → H1 q = none → H' q = some (.lst (ts.map V.ref)) → ts.length = min xs.length ys.length → PrsAt xs ys ts H' → Q (.ref q) H'
theorem pe_listZip {e e2 : Expr} {ta : TA} {p pos p2 pos2 : Pos} (hc : X.calm = true) (hg : Gl X "list") (hm : X.mg "list" = none) (hg2 : Gl X "zip") (hm2 : X.mg "zip" = none) (ha : PA X [e, e2] ta)
    (hs : starEach [e, e2] X.env = (false, eval e X.env) :: starEach [e2] X.env := by rfl) (hpl : (backTo pos2 (starEach [e2] X.env)).any (·.1) = false := by rfl)
    (na : starEach [(.Call (.Name "zip" p2) [e, e2] [] pos2)] X.env = (false, eval (.Call (.Name "zip" p2) [e, e2] [] pos2) X.env) :: starEach [] X.env := by rfl) :
    PE X (.Call (.Name "list" p) [.Call (.Name "zip" p2) [e, e2] [] pos2] [] pos) (tLstZip X.K ta) := by
  refine ⟨fun pins s σ H Q I h => ?_⟩
  refine Call_ (ld_blt I hg hm boot_list (PyProof.Rows.callWith_type1 (args_cons ?_ na) na))
  refine Call_ (ld_blt I hg2 hm2 PyProof.Rows.boot_zip (PyProof.Rows.callWith_type1 (thn (ha.run pos2 pins s σ H _ I h) fun us s1 ⟨vs, H1, I1, r1, a, b, xs, ys, ex, qx, qy, q⟩ => ?_) hs hpl))
  subst ex
  obtain ⟨ua, ub, rfl, ra, rb⟩ := vals2 r1
  cases ra
  cases rb
  obtain ⟨its, rv, p1, _⟩ := I1.list qx
  obtain ⟨its2, rv2, p2, _⟩ := I1.list qy
  refine call_zip_2 p1.isList p2.isList fun h' hz hTI hTO h1 h2 hsz hk => args_nil ?_
  have I2 : Inv X pins σ H1 { s1 with heap := h' } := I1.kept (t' := s1.toks) hk
  refine call_listZip hc I2 (PySem.W.ktu_apart s1.heap.objs.size a b p1.lt p2.lt) qx qy (fun c hcm => ?_) ⟨hTI, h1, h2, ⟨_, _, hTO⟩, .inl hz⟩ hz q
  have le : s1.heap.objs.size ≤ c := by
    rcases List.mem_cons.mp hcm with rfl | hcm; · exact Nat.le_add_right ..
    rcases List.mem_cons.mp hcm with rfl | hcm; · exact Nat.le_add_right ..
    rcases List.mem_cons.mp hcm with rfl | hcm; · exact Nat.le_add_right ..
    rcases List.mem_cons.mp hcm with rfl | hcm; · exact Nat.le_refl _
    rcases List.mem_cons.mp hcm with rfl | hcm; · exact Nat.le_add_right ..
    exact absurd hcm List.not_mem_nil
  exact I1.fpOk le (I1.hok.fresh le)
end
end L3
set_option Elab.async false
set_option linter.all false
set_option maxRecDepth 100000
set_option maxHeartbeats 4000000
namespace L3
open PySem PySem.Spec PyProof.Rows L2
end L3
namespace PySem
open Calls AutoSeq1
end PySem
namespace L3
open PySem PySem.Spec PyProof.Rows L2
end L3
set_option Elab.async false
set_option linter.all false
set_option maxRecDepth 100000
set_option maxHeartbeats 4000000
namespace L3
open PySem PySem.Spec PyProof.Rows L2
end L3
set_option Elab.async false
set_option linter.all false
set_option maxRecDepth 100000
set_option maxHeartbeats 4000000
noncomputable section
namespace HandSHeadRun
open PySem PySem.W PySem.Calls PyProof.Rows
end HandSHeadRun
end
set_option Elab.async false
set_option linter.all false
set_option maxRecDepth 100000
set_option maxHeartbeats 4000000
namespace L3
open PySem PySem.Spec PyProof.Rows L2
def wTwo (K : PySem.W.Frag) (c1 : Value) (i1 : Nat) (ts1 : Addr → Value → Option Addr → TS) (c2 : Value) (i2 : Nat) (ts2 : Addr → Value → Option Addr → TS) (D : Ends) : WX := fun cls d σ H =>
  ∃ b, PySem.W.exmOne K cls c1 = some b ∧
    (b = true → ∀ a, H a = none → ts1 a cls d { nx := fun σ' H' => D.nx (σ'.set i1 none) H', rt := D.rt, bk := fun σ' H' => D.bk (σ'.set i1 none) H', ct := fun σ' H' => D.ct (σ'.set i1 none) H' } (σ.set i1 (some (.ref a))) H) ∧
    (b = false → PySem.W.exmOne K cls c2 = some true ∧ ∀ a, H a = none → ts2 a cls d { nx := fun σ' H' => D.nx (σ'.set i2 none) H', rt := D.rt, bk := fun σ' H' => D.bk (σ'.set i2 none) H', ct := fun σ' H' => D.ct (σ'.set i2 none) H' } (σ.set i2 (some (.ref a))) H)
def tTryTwo (K : PySem.W.Frag) (c1 : Value) (i1 : Nat) (ts1 : Addr → Value → Option Addr → TS) (c2 : Value) (i2 : Nat) (ts2 : Addr → Value → Option Addr → TS) (tb : WX → TS) : TS := fun D σ H => tb (wTwo K c1 i1 ts1 c2 i2 ts2 D) D σ H
section
variable {X : Cx} {x1 n1 x2 n2 : Str} {c1 c2 : Value} {i1 i2 : Nat} {body suite1 suite2 : List Stmt} {b1 b2 : Stmt} {np1 np2 pos p1' p2' : Pos} {tb : WX → TS} {ts1 ts2 : Addr → Value → Option Addr → TS} {hds : List ExceptHandler}
theorem ps_try_two (hs : X.stack = X.env :: X.outer) (hf : X.env.frame = some X.env.locals) (hN : X.N.Nodup)
    (hi1 : X.N[i1]? = some n1) (hln1 : X.env.kindOf n1 = some .local) (hc1 : Names X x1 c1) (hi2 : X.N[i2]? = some n2) (hln2 : X.env.kindOf n2 = some .local) (hc2 : Names X x2 c2)
    (hb : ∀ (W : WX) (pn : List (Addr × Obj)) (xe : Value → Shared → Prop), Takes (X.tr pn xe) W → PassesOwn (model X.prog X.w) X.A X.env xe → PSs (X.tr pn xe) body (tb W))
    (hsu1 : ∀ (a : Addr) (oe : Obj) (cls : Value) (d : Option Addr) (pn : List (Addr × Obj)), Zc cls d oe → (∃ vs, oe.data = .fields vs) → PSs (X.suite a ((a, oe) :: pn)) (b1 :: suite1) (ts1 a cls d))
    (hsu2 : ∀ (a : Addr) (oe : Obj) (cls : Value) (d : Option Addr) (pn : List (Addr × Obj)), Zc cls d oe → (∃ vs, oe.data = .fields vs) → PSs (X.suite a ((a, oe) :: pn)) (b2 :: suite2) (ts2 a cls d)) :
    PS X (.Try body (.ExceptHandler (some (.Name x1 np1)) (some n1) (b1 :: suite1) p1' :: .ExceptHandler (some (.Name x2 np2)) (some n2) (b2 :: suite2) p2' :: hds) [] [] pos) (tTryTwo X.K c1 i1 ts1 c2 i2 ts2 tb) := by
  refine ⟨fun pins s σ H D I h => ?_⟩
  have ok := I.ok
  have hfr : X.A.frames = some (X.env :: X.outer) := by rw [ok.frames, hs]
  refine wpAny_Try_except ?_
  refine wpAny_mono ((hb (wTwo X.K c1 i1 ts1 c2 i2 ts2 D) (X.pn ++ pins) (fun e s₁ => wpAny (model X.prog X.w) X.A (noteFrame e X.env) (fun _ s₂ => wpAny (model X.prog X.w) X.A (setFlight e none) (fun _ s₃ =>
    wpAny (model X.prog X.w) X.A (handleBy e X.env (.ExceptHandler (some (.Name x1 np1)) (some n1) (b1 :: suite1) p1' :: .ExceptHandler (some (.Name x2 np2)) (some n2) (b2 :: suite2) p2' :: hds)) (SP X pins D) X.xe s₃) X.xe s₂) X.xe s₁) (fun u s' xx => ?_) PassesOwn.looking).run [] s σ H D (I.toTry _) h) (fun f s1 hsp => ?_) (fun e s1 he => he)
  · obtain ⟨a, B, sI, pins', σ', H', cls, d, rfl, J', nb, up, sky, na, os, ag, bb, hb1, hyes, hno⟩ := xx
    have J : Inv X pins σ' H' sI := J'.ofTry ok
    have sky' : Sky B (X.env :: X.outer) a (Zc cls d) X.env.locals s'.heap := by rw [← hs]; exact sky
    show wpAny (model X.prog X.w) X.A (noteFrame (.ref a) X.env) _ _ _
    refine Sky.land Zc.steady hfr hf sky' fun h3 fl3 up3 => ?_
    have J3 : Inv X pins σ' H' { s' with heap := h3 } := J.landed nb fl3.1 (up.trans up3) os ag
    obtain ⟨oe3, vs3, he3, hz3, hd3⟩ := fl3.there
    have nfr : a ∉ frs (X.env :: X.outer) := fun hm => by
      obtain ⟨_, o', e', hnf⟩ := fl3.2.2.1.mem hm
      rw [he3] at e'
      cases e'
      exact hnf _ hd3
    have nL : a ≠ X.env.locals := fun z => nfr (List.mem_filterMap.mpr ⟨X.env, List.mem_cons_self, by rw [hf, z]⟩)
    have nF : a ∉ X.fs := fun hm => by
      obtain ⟨e, he, q⟩ := List.mem_filterMap.mp hm
      exact nfr (List.mem_filterMap.mpr ⟨e, List.mem_cons_of_mem _ he, q⟩)
    have S3 := J3.suite he3 hd3 na nL nF
    refine wpAny_handleBy_cons (codeAny_handlers_test ?_) (by intro q; cases q)
    have LT : PySem.W.Looks (model X.prog X.w) h3 (typeOf (.ref a)) cls := fun A Q E s k q => wpAny_typeOf_ref (k _ _ he3) (by rw [hz3.1]; exact q)
    have LM1 := PySem.W.exm_one (M := model X.prog X.w) (J3.kIn) LT hb1
    have test1 : ∀ {Q : Value → Shared → Prop} {E : Value → Shared → Prop}, Q c1 { s' with heap := h3 } → wpAny (model X.prog X.w) (X.A.mark (some (.ref a))) (eval (.Name x1 np1) X.env) Q E { s' with heap := h3 } := fun {Q E} q => by
      obtain ⟨hg, hdbg, hm | ⟨hm, hv, hnn⟩⟩ := hc1
      · exact ld_glob (X := X.suite a ((a, oe3) :: (X.pn ++ pins))) S3 hg hm q hdbg
      · exact ld_blt (X := X.suite a ((a, oe3) :: (X.pn ++ pins))) S3 hg hm hv q hnn hdbg
    refine test1 (LM1.here ?_)
    cases bb with
    | true =>
      have hyes := hyes rfl
      refine codeAny_handlers_suite_as ?_
      refine HandSPX.lands_againZ fl3 fun h4 fl4 up4 => ?_
      have J4 : Inv X pins σ' H' { s' with heap := h4 } := J.landed nb fl4.1 ((up.trans up3).trans up4) os ag
      obtain ⟨oe4, vs4, he4, hz4, hd4⟩ := fl4.there
      have S4 := J4.suite he4 hd4 na nL nF
      refine store_ok (X := X.suite a ((a, oe4) :: (X.pn ++ pins))) (v := .ref a) S4 hN hi1 (.inl hln1) rfl (fun s5 S5 => ?_) (.inr hln1)
      refine wpAny_mono ((hsu1 a oe4 cls d (X.pn ++ pins) hz4 ⟨_, hd4⟩).run [] s5 _ H' _ S5 (hyes a na)) (fun f s6 hsp => ?_) (fun _ _ z => False.elim z)
      have end_ : ∀ {σ6 : L2.St} {H6 : Hp} {Q : Shared → Prop}, Inv (X.suite a ((a, oe4) :: (X.pn ++ pins))) [] σ6 H6 s6 → (∀ s7, Inv X pins (σ6.set i1 none) H6 s7 → Q s7) →
          wpAny (model X.prog X.w) X.A (do bindName X.env n1 .none; unbindBehindTheSuite X.env n1 p1') (fun _ s7 => Q s7) X.xe s6 := fun {σ6 H6 Q} S6 hq => gone_ok (S6.unsuite ok) hN hi1 hln1 hq
      cases f with
      | next =>
        obtain ⟨σ6, H6, S6, q6⟩ := hsp
        exact end_ S6 fun s7 J7 => ⟨_, _, J7, q6⟩
      | brk =>
        obtain ⟨σ6, H6, S6, q6⟩ := hsp
        exact end_ S6 fun s7 J7 => ⟨_, _, J7, q6⟩
      | cont =>
        obtain ⟨σ6, H6, S6, q6⟩ := hsp
        exact end_ S6 fun s7 J7 => ⟨_, _, J7, q6⟩
      | ret u =>
        obtain ⟨v6, σ6, H6, S6, r6, q6⟩ := hsp
        exact end_ S6 fun s7 J7 => ⟨_, _, _, J7, r6, q6⟩
    | false =>
      obtain ⟨hb2, hyes⟩ := hno rfl
      show wpAny _ X.A (handleBy (.ref a) X.env (.ExceptHandler (some (.Name x2 np2)) (some n2) (b2 :: suite2) p2' :: hds)) _ _ _
      refine wpAny_handleBy_cons (codeAny_handlers_test ?_) (by intro q; cases q)
      have LM2 := PySem.W.exm_one (M := model X.prog X.w) (J3.kIn) LT hb2
      have test2 : ∀ {Q : Value → Shared → Prop} {E : Value → Shared → Prop}, Q c2 { s' with heap := h3 } → wpAny (model X.prog X.w) (X.A.mark (some (.ref a))) (eval (.Name x2 np2) X.env) Q E { s' with heap := h3 } := fun {Q E} q => by
        obtain ⟨hg, hdbg, hm | ⟨hm, hv, hnn⟩⟩ := hc2
        · exact ld_glob (X := X.suite a ((a, oe3) :: (X.pn ++ pins))) S3 hg hm q hdbg
        · exact ld_blt (X := X.suite a ((a, oe3) :: (X.pn ++ pins))) S3 hg hm hv q hnn hdbg
      refine test2 (LM2.here ?_)
      refine codeAny_handlers_suite_as ?_
      refine HandSPX.lands_againZ fl3 fun h4 fl4 up4 => ?_
      have J4 : Inv X pins σ' H' { s' with heap := h4 } := J.landed nb fl4.1 ((up.trans up3).trans up4) os ag
      obtain ⟨oe4, vs4, he4, hz4, hd4⟩ := fl4.there
      have S4 := J4.suite he4 hd4 na nL nF
      refine store_ok (X := X.suite a ((a, oe4) :: (X.pn ++ pins))) (v := .ref a) S4 hN hi2 (.inl hln2) rfl (fun s5 S5 => ?_) (.inr hln2)
      refine wpAny_mono ((hsu2 a oe4 cls d (X.pn ++ pins) hz4 ⟨_, hd4⟩).run [] s5 _ H' _ S5 (hyes a na)) (fun f s6 hsp => ?_) (fun _ _ z => False.elim z)
      have end_ : ∀ {σ6 : L2.St} {H6 : Hp} {Q : Shared → Prop}, Inv (X.suite a ((a, oe4) :: (X.pn ++ pins))) [] σ6 H6 s6 → (∀ s7, Inv X pins (σ6.set i2 none) H6 s7 → Q s7) →
          wpAny (model X.prog X.w) X.A (do bindName X.env n2 .none; unbindBehindTheSuite X.env n2 p2') (fun _ s7 => Q s7) X.xe s6 := fun {σ6 H6 Q} S6 hq => gone_ok (S6.unsuite ok) hN hi2 hln2 hq
      cases f with
      | next =>
        obtain ⟨σ6, H6, S6, q6⟩ := hsp
        exact end_ S6 fun s7 J7 => ⟨_, _, J7, q6⟩
      | brk =>
        obtain ⟨σ6, H6, S6, q6⟩ := hsp
        exact end_ S6 fun s7 J7 => ⟨_, _, J7, q6⟩
      | cont =>
        obtain ⟨σ6, H6, S6, q6⟩ := hsp
        exact end_ S6 fun s7 J7 => ⟨_, _, J7, q6⟩
      | ret u =>
        obtain ⟨v6, σ6, H6, S6, r6, q6⟩ := hsp
        exact end_ S6 fun s7 J7 => ⟨_, _, _, J7, r6, q6⟩
  · cases f with
    | next =>
      obtain ⟨σ6, H6, S6, q6⟩ := hsp
      exact wpAny_execs_nil ⟨_, _, S6.ofTry ok, q6⟩
    | brk =>
      obtain ⟨σ6, H6, S6, q6⟩ := hsp
      exact ⟨_, _, S6.ofTry ok, q6⟩
    | cont =>
      obtain ⟨σ6, H6, S6, q6⟩ := hsp
      exact ⟨_, _, S6.ofTry ok, q6⟩
    | ret u =>
      obtain ⟨v6, σ6, H6, S6, r6, q6⟩ := hsp
      exact ⟨_, _, _, S6.ofTry ok, r6, q6⟩
end
end L3
set_option Elab.async false
set_option linter.all false
set_option maxRecDepth 100000
set_option maxHeartbeats 4000000
namespace Toy
open PySem PySem.Spec PyProof.Rows L2 L3
def top (i : Nat) : Stmt := PySem.Challenge.pw_shortgoings_k58_as_without_a_book.main.body.getD i (.Pass ⟨0, 0, 0, 0⟩)
abbrev s_NoLine_init : Stmt := inClass (top 9) 0
abbrev s_is_whole : Stmt := top 16
abbrev s_is_moment : Stmt := top 17
abbrev s_want_moment : Stmt := top 18
abbrev s_want_day : Stmt := top 25
abbrev s_are_signs : Stmt := top 26
abbrev s_Ring_init : Stmt := inClass (top 27) 0
abbrev s_Ring_rings : Stmt := inClass (top 27) 5
abbrev s_told_days : Stmt := top 34
abbrev s_want_till : Stmt := top 35
abbrev s_Days_init : Stmt := inClass (top 36) 0
abbrev s_Days_has : Stmt := inClass (top 36) 4
abbrev s_is_name : Stmt := top 45
abbrev s_notes_of : Stmt := top 46
abbrev s_notes_together : Stmt := top 47
abbrev s_Going_init : Stmt := inClass (top 48) 0
abbrev s_is_number : Stmt := top 53
abbrev s_all_rising : Stmt := top 55
abbrev s_shorts_in : Stmt := top 56
abbrev s_row_moments : Stmt := top 57
abbrev s_row_many : Stmt := top 58
abbrev s_At_init : Stmt := inClass (top 60) 0
abbrev s_At_moments : Stmt := inClass (top 60) 1
abbrev s_At_begins : Stmt := inClass (top 60) 3
abbrev s_At_ends : Stmt := inClass (top 60) 4
abbrev s_At_means_many : Stmt := inClass (top 60) 5
abbrev s_At_nested : Stmt := inClass (top 60) 6
abbrev s_Over_init : Stmt := inClass (top 61) 0
abbrev s_Over_moments : Stmt := inClass (top 61) 2
abbrev s_Over_begins : Stmt := inClass (top 61) 4
abbrev s_Over_ends : Stmt := inClass (top 61) 5
abbrev s_Over_means_many : Stmt := inClass (top 61) 6
abbrev s_Over_nested : Stmt := inClass (top 61) 7
abbrev s_Spread_init : Stmt := inClass (top 63) 0
abbrev s_Spread_moments : Stmt := inClass (top 63) 2
abbrev s_want : Stmt := top 67
abbrev s_Card_init : Stmt := inClass (top 68) 0
abbrev s_Card_inner : Stmt := inClass (top 68) 1
abbrev s_Card_size : Stmt := inClass (top 68) 2
abbrev s_Card_notes_at : Stmt := inClass (top 68) 3
abbrev s_Card_moments_within : Stmt := inClass (top 68) 4
abbrev s_Once_init : Stmt := inClass (top 69) 0
abbrev s_Once_notes_at : Stmt := inClass (top 69) 1
abbrev s_Once_moments_within : Stmt := inClass (top 69) 2
abbrev s_Every_init : Stmt := inClass (top 70) 0
abbrev s_Every_notes_at : Stmt := inClass (top 70) 1
abbrev s_Every_moments_within : Stmt := inClass (top 70) 2
abbrev s_Join_init : Stmt := inClass (top 71) 0
abbrev s_Join_notes_at : Stmt := inClass (top 71) 1
abbrev s_Less_init : Stmt := inClass (top 72) 0
abbrev s_Less_notes_at : Stmt := inClass (top 72) 1
abbrev s_Swap_init : Stmt := inClass (top 73) 0
abbrev s_Swap_notes_at : Stmt := inClass (top 73) 1
abbrev s_Later_init : Stmt := inClass (top 74) 0
abbrev s_Later_notes_at : Stmt := inClass (top 74) 1
abbrev s_Noted_init : Stmt := inClass (top 75) 0
abbrev s_Noted_notes_at : Stmt := inClass (top 75) 1
abbrev s_As_init : Stmt := inClass (top 76) 0
abbrev s_first_as : Stmt := top 77
abbrev s_want_card : Stmt := top 78
abbrev s_want_known : Stmt := top 79
abbrev s_goings_within : Stmt := top 80
abbrev s_going_at : Stmt := top 81
abbrev s_goings_on : Stmt := top 82
abbrev s__law_pot : Stmt := top 84
abbrev s__law_take : Stmt := top 85
abbrev s__law_great : Stmt := top 86
abbrev s__law_name : Stmt := top 87
abbrev s__law_notes_drawn : Stmt := top 88
abbrev s__law_runs : Stmt := top 89
abbrev s__law_moments_of : Stmt := top 90
abbrev s__law_spread : Stmt := top 91
abbrev s__law_days_drawn : Stmt := top 92
abbrev s__law_has : Stmt := top 93
abbrev s__law_days_made : Stmt := top 94
abbrev s__law_leaf : Stmt := top 95
abbrev s__law_card : Stmt := top 96
abbrev s__law_inner : Stmt := top 97
abbrev s__law_together : Stmt := top 98
abbrev s__law_notes : Stmt := top 99
abbrev s__law_made : Stmt := top 100
abbrev s__law_first : Stmt := top 101
abbrev s__law_many : Stmt := top 102
abbrev s__law_lack : Stmt := top 103
abbrev s__law_no : Stmt := top 104
abbrev s__law_asked : Stmt := top 105
abbrev s__law_told_right : Stmt := top 106
abbrev s__law_lack_right : Stmt := top 107
abbrev s__law_around : Stmt := top 108
abbrev s__law_all_notes : Stmt := top 109
abbrev s_law : Stmt := top 110
def xf1 : List Fx := [fun K => (He.Fa.glo "is_whole").ok K,
  fun K => (He.Fa.glo "is_moment").ok K,
  fun K => (He.Fa.glo "want_moment").ok K,
  fun K => (He.Fa.glo "want_day").ok K,
  fun K => (He.Fa.glo "are_signs").ok K,
  fun K => (He.Fa.glo "told_days").ok K,
  fun K => (He.Fa.glo "want_till").ok K,
  fun K => (He.Fa.glo "is_name").ok K,
  fun K => (He.Fa.glo "notes_of").ok K,
  fun K => (He.Fa.glo "notes_together").ok K,
  fun K => (He.Fa.glo "is_number").ok K,
  fun K => (He.Fa.glo "all_rising").ok K,
  fun K => (He.Fa.glo "shorts_in").ok K,
  fun K => (He.Fa.glo "row_moments").ok K,
  fun K => (He.Fa.glo "row_many").ok K,
  fun K => (He.Fa.glo "want").ok K,
  fun K => (He.Fa.glo "first_as").ok K,
  fun K => (He.Fa.glo "want_card").ok K,
  fun K => (He.Fa.glo "want_known").ok K,
  fun K => (He.Fa.glo "goings_within").ok K,
  fun K => (He.Fa.glo "going_at").ok K,
  fun K => (He.Fa.glo "goings_on").ok K,
  fun K => (He.Fa.glo "_law_pot").ok K,
  fun K => (He.Fa.glo "_law_take").ok K,
  fun K => (He.Fa.glo "_law_great").ok K,
  fun K => (He.Fa.glo "_law_name").ok K,
  fun K => (He.Fa.glo "_law_notes_drawn").ok K,
  fun K => (He.Fa.glo "_law_runs").ok K,
  fun K => (He.Fa.glo "_law_moments_of").ok K,
  fun K => (He.Fa.glo "_law_spread").ok K,
  fun K => (He.Fa.glo "_law_days_drawn").ok K,
  fun K => (He.Fa.glo "_law_has").ok K,
  fun K => (He.Fa.glo "_law_days_made").ok K,
  fun K => (He.Fa.glo "_law_leaf").ok K,
  fun K => (He.Fa.glo "_law_card").ok K,
  fun K => (He.Fa.glo "_law_inner").ok K,
  fun K => (He.Fa.glo "_law_together").ok K,
  fun K => (He.Fa.glo "_law_notes").ok K,
  fun K => (He.Fa.glo "_law_made").ok K,
  fun K => (He.Fa.glo "_law_first").ok K,
  fun K => (He.Fa.glo "_law_many").ok K,
  fun K => (He.Fa.glo "_law_lack").ok K,
  fun K => (He.Fa.glo "_law_no").ok K,
  fun K => (He.Fa.glo "_law_asked").ok K,
  fun K => (He.Fa.glo "_law_told_right").ok K,
  fun K => (He.Fa.glo "_law_lack_right").ok K,
  fun K => (He.Fa.glo "_law_around").ok K,
  fun K => (He.Fa.glo "_law_all_notes").ok K,
  fun K => (He.Fa.glo "law").ok K,
  fun K => (He.Fa.int "DAY" (1440)).ok K,
  fun K => (He.Fa.int "MOST_SIGNS" (7)).ok K,
  fun K => (He.Fa.str "NOUGHT" "0").ok K,
  fun K => (He.Fa.str "ONE" "1").ok K,
  fun K => (He.Fa.int "MOST_DAYS" (8)).ok K,
  fun K => (He.Fa.str "NAME_SIGNS" "abcdefghijklmnopqrstuvwxyz").ok K,
  fun K => (He.Fa.int "LONGEST_NAME" (8)).ok K,
  fun K => (He.Fa.int "MOST_MOMENTS" (1440)).ok K,
  fun K => (He.Fa.int "MOST_NESTED" (8)).ok K,
  fun K => (He.Fa.int "MOST_CARDS" (60)).ok K,
  fun K => (He.Fa.int "LATEST" (10080)).ok K,
  fun K => (He.Fa.free "LookupError").ok K,
  fun K => (He.Fa.free "ValueError").ok K,
  fun K => (He.Fa.free "all").ok K,
  fun K => (He.Fa.free "any").ok K,
  fun K => (He.Fa.free "bool").ok K,
  fun K => (He.Fa.free "dict").ok K,
  fun K => (He.Fa.free "divmod").ok K,
  fun K => (He.Fa.free "int").ok K,
  fun K => (He.Fa.free "isinstance").ok K,
  fun K => (He.Fa.free "len").ok K,
  fun K => (He.Fa.free "list").ok K,
  fun K => (He.Fa.free "max").ok K,
  fun K => (He.Fa.free "min").ok K,
  fun K => (He.Fa.free "range").ok K,
  fun K => (He.Fa.free "repr").ok K,
  fun K => (He.Fa.free "set").ok K,
  fun K => (He.Fa.free "sorted").ok K,
  fun K => (He.Fa.free "str").ok K,
  fun K => (He.Fa.free "sum").ok K,
  fun K => (He.Fa.free "tuple").ok K,
  fun K => (He.Fa.free "zip").ok K,
  fun K => (He.Fa.glo "GoingError").ok K,
  fun K => (He.Fa.glo "LackError").ok K,
  fun K => (He.Fa.glo "BookError").ok K,
  fun K => (He.Fa.glo "NoTime").ok K,
  exoB bmV "ValueError.__new__" "NoTime",
  fun K => (He.Fa.glo "NoPiece").ok K,
  exoB bmV "ValueError.__new__" "NoPiece",
  fun K => (He.Fa.glo "NoDays").ok K,
  exoB bmV "ValueError.__new__" "NoDays",
  fun K => (He.Fa.glo "NoCard").ok K,
  exoB bmV "ValueError.__new__" "NoCard",
  fun K => (He.Fa.glo "NoLine").ok K,
  fun K => (He.Fa.glo "NoGoing").ok K,
  fun K => (He.Fa.glo "Ring").ok K,
  fun K => (He.Fa.glo "Days").ok K,
  fun K => (He.Fa.glo "Going").ok K,
  fun K => (He.Fa.glo "Short").ok K,
  fun K => (He.Fa.glo "At").ok K,
  fun K => (He.Fa.glo "Over").ok K,
  fun K => (He.Fa.glo "Spread").ok K,
  fun K => (He.Fa.glo "Card").ok K,
  fun K => (He.Fa.glo "Once").ok K,
  fun K => (He.Fa.glo "Every").ok K,
  fun K => (He.Fa.glo "Join").ok K,
  fun K => (He.Fa.glo "Less").ok K,
  fun K => (He.Fa.glo "Swap").ok K,
  fun K => (He.Fa.glo "Later").ok K,
  fun K => (He.Fa.glo "Noted").ok K,
  fun K => (He.Fa.glo "As").ok K,
  bxiF "LookupError.__init__" "LackError",
  clsMF "Card" "__init__",
  oexF bmL "LookupError.__new__" "NoLine",
  fun K => (He.Fa.meth "NoLine" "__init__").ok K,
  fun K => xfB K (He.ga K "NoLine"),
  fun K => (He.Fa.noat "NoLine" "name").ok K,
  fun K => (He.Fa.cls "Ring").ok K,
  insB "Ring",
  fun K => (He.Fa.noat "Ring" "bits").ok K,
  fun K => (He.Fa.meth "Ring" "rings").ok K,
  fun K => (He.Fa.mkr "Ring").ok K,
  kitF "Ring" "Ring" true,
  fun K => (He.Fa.cls "Days").ok K,
  insB "Days",
  fun K => (He.Fa.noat "Days" "ring").ok K,
  fun K => (He.Fa.noat "Days" "since").ok K,
  fun K => (He.Fa.noat "Days" "till").ok K,
  fun K => (He.Fa.noat "Days" "out").ok K,
  fun K => (He.Fa.noat "Days" "also").ok K,
  fun K => (He.Fa.meth "Days" "has").ok K,
  fun K => (He.Fa.mkr "Days").ok K,
  kitF "Days" "Days" true,
  fun K => (He.Fa.cls "Going").ok K,
  insB "Going",
  fun K => (He.Fa.noat "Going" "moment").ok K,
  fun K => (He.Fa.noat "Going" "notes").ok K,
  fun K => (He.Fa.mkr "Going").ok K,
  kitF "Going" "Going" true,
  fun K => (He.Fa.cls "At").ok K,
  insB "At",
  fun K => (He.Fa.noat "At" "moment").ok K,
  fun K => (He.Fa.meth "At" "moments").ok K,
  fun K => (He.Fa.meth "At" "begins").ok K,
  fun K => (He.Fa.meth "At" "ends").ok K,
  fun K => (He.Fa.meth "At" "means_many").ok K,
  fun K => (He.Fa.meth "At" "nested").ok K,
  fun K => (He.Fa.mkr "At").ok K,
  kitF "At" "Short" true,
  fun K => (He.Fa.cls "Over").ok K,
  insB "Over",
  fun K => (He.Fa.noat "Over" "kept").ok K,
  fun K => (He.Fa.noat "Over" "many").ok K]
def xf2 : List Fx := [fun K => (He.Fa.noat "Over" "step").ok K,
  fun K => (He.Fa.meth "Over" "moments").ok K,
  fun K => (He.Fa.meth "Over" "begins").ok K,
  fun K => (He.Fa.meth "Over" "ends").ok K,
  fun K => (He.Fa.meth "Over" "means_many").ok K,
  fun K => (He.Fa.meth "Over" "nested").ok K,
  fun K => (He.Fa.mkr "Over").ok K,
  kitF "Over" "Short" true,
  fun K => (He.Fa.cls "Spread").ok K,
  insB "Spread",
  fun K => (He.Fa.noat "Spread" "kept").ok K,
  fun K => (He.Fa.noat "Spread" "held").ok K,
  fun K => (He.Fa.meth "Spread" "moments").ok K,
  fun K => (He.Fa.mkr "Spread").ok K,
  kitF "Spread" "Spread" true,
  fun K => (He.Fa.cls "Once").ok K,
  insB "Once",
  fun K => (He.Fa.noat "Once" "spread").ok K,
  fun K => (He.Fa.noat "Once" "notes").ok K,
  fun K => (He.Fa.noat "Once" "own").ok K,
  fun K => (He.Fa.noat "Once" "held").ok K,
  fun K => (He.Fa.noat "Once" "weight").ok K,
  fun K => (He.Fa.meth "Once" "notes_at").ok K,
  fun K => (He.Fa.meth "Once" "moments_within").ok K,
  fun K => (He.Fa.meth "Once" "inner").ok K,
  sameF "Once" "Card" "inner",
  fun K => (He.Fa.meth "Once" "size").ok K,
  sameF "Once" "Card" "size",
  fun K => (He.Fa.mkr "Once").ok K,
  kitF "Once" "Card" true,
  kitF "Once" "As" false,
  fun K => (He.Fa.cls "Every").ok K,
  insB "Every",
  fun K => (He.Fa.noat "Every" "days").ok K,
  fun K => (He.Fa.noat "Every" "spread").ok K,
  fun K => (He.Fa.noat "Every" "notes").ok K,
  fun K => (He.Fa.noat "Every" "own").ok K,
  fun K => (He.Fa.noat "Every" "held").ok K,
  fun K => (He.Fa.noat "Every" "weight").ok K,
  fun K => (He.Fa.meth "Every" "notes_at").ok K,
  fun K => (He.Fa.meth "Every" "moments_within").ok K,
  fun K => (He.Fa.meth "Every" "inner").ok K,
  sameF "Every" "Card" "inner",
  fun K => (He.Fa.meth "Every" "size").ok K,
  sameF "Every" "Card" "size",
  fun K => (He.Fa.mkr "Every").ok K,
  kitF "Every" "Card" true,
  kitF "Every" "As" false,
  fun K => (He.Fa.cls "Join").ok K,
  insB "Join",
  fun K => (He.Fa.noat "Join" "held").ok K,
  fun K => (He.Fa.noat "Join" "weight").ok K,
  fun K => (He.Fa.meth "Join" "notes_at").ok K,
  fun K => (He.Fa.meth "Join" "inner").ok K,
  sameF "Join" "Card" "inner",
  fun K => (He.Fa.meth "Join" "size").ok K,
  sameF "Join" "Card" "size",
  fun K => (He.Fa.meth "Join" "moments_within").ok K,
  sameF "Join" "Card" "moments_within",
  fun K => (He.Fa.mkr "Join").ok K,
  kitF "Join" "Card" true,
  kitF "Join" "As" false,
  fun K => (He.Fa.cls "Less").ok K,
  insB "Less",
  fun K => (He.Fa.noat "Less" "held").ok K,
  fun K => (He.Fa.noat "Less" "weight").ok K,
  fun K => (He.Fa.meth "Less" "notes_at").ok K,
  fun K => (He.Fa.meth "Less" "inner").ok K,
  sameF "Less" "Card" "inner",
  fun K => (He.Fa.meth "Less" "size").ok K,
  sameF "Less" "Card" "size",
  fun K => (He.Fa.meth "Less" "moments_within").ok K,
  sameF "Less" "Card" "moments_within",
  fun K => (He.Fa.mkr "Less").ok K,
  kitF "Less" "Card" true,
  kitF "Less" "As" false,
  fun K => (He.Fa.cls "Swap").ok K,
  insB "Swap",
  fun K => (He.Fa.noat "Swap" "days").ok K,
  fun K => (He.Fa.noat "Swap" "held").ok K,
  fun K => (He.Fa.noat "Swap" "weight").ok K,
  fun K => (He.Fa.meth "Swap" "notes_at").ok K,
  fun K => (He.Fa.meth "Swap" "inner").ok K,
  sameF "Swap" "Card" "inner",
  fun K => (He.Fa.meth "Swap" "size").ok K,
  sameF "Swap" "Card" "size",
  fun K => (He.Fa.meth "Swap" "moments_within").ok K,
  sameF "Swap" "Card" "moments_within",
  fun K => (He.Fa.mkr "Swap").ok K,
  kitF "Swap" "Card" true,
  kitF "Swap" "As" false,
  fun K => (He.Fa.cls "Later").ok K,
  insB "Later",
  fun K => (He.Fa.noat "Later" "minutes").ok K,
  fun K => (He.Fa.noat "Later" "held").ok K,
  fun K => (He.Fa.noat "Later" "weight").ok K,
  fun K => (He.Fa.meth "Later" "notes_at").ok K,
  fun K => (He.Fa.meth "Later" "moments_within").ok K,
  fun K => (He.Fa.meth "Later" "inner").ok K,
  sameF "Later" "Card" "inner",
  fun K => (He.Fa.meth "Later" "size").ok K,
  sameF "Later" "Card" "size",
  fun K => (He.Fa.mkr "Later").ok K,
  kitF "Later" "Card" true,
  kitF "Later" "As" false,
  fun K => (He.Fa.cls "Noted").ok K,
  insB "Noted",
  fun K => (He.Fa.noat "Noted" "note").ok K,
  fun K => (He.Fa.noat "Noted" "held").ok K,
  fun K => (He.Fa.noat "Noted" "weight").ok K,
  fun K => (He.Fa.meth "Noted" "notes_at").ok K,
  fun K => (He.Fa.meth "Noted" "inner").ok K,
  sameF "Noted" "Card" "inner",
  fun K => (He.Fa.meth "Noted" "size").ok K,
  sameF "Noted" "Card" "size",
  fun K => (He.Fa.meth "Noted" "moments_within").ok K,
  sameF "Noted" "Card" "moments_within",
  fun K => (He.Fa.mkr "Noted").ok K,
  kitF "Noted" "Card" true,
  kitF "Noted" "As" false,
  fun K => (He.Fa.cls "As").ok K,
  insB "As",
  fun K => (He.Fa.noat "As" "name").ok K,
  fun K => (He.Fa.noat "As" "held").ok K,
  fun K => (He.Fa.noat "As" "weight").ok K,
  fun K => (He.Fa.meth "As" "inner").ok K,
  sameF "As" "Card" "inner",
  fun K => (He.Fa.meth "As" "size").ok K,
  sameF "As" "Card" "size",
  fun K => (He.Fa.meth "As" "notes_at").ok K,
  sameF "As" "Card" "notes_at",
  fun K => (He.Fa.meth "As" "moments_within").ok K,
  sameF "As" "Card" "moments_within",
  fun K => (He.Fa.mkr "As").ok K,
  kitF "As" "Card" true,
  kitF "As" "As" true,
  exm1F "NoTime" "LackError" false,
  exm1F "NoTime" "GoingError" true,
  excCB "NoTime",
  kitF "NoTime" "LackError" false,
  kitF "NoTime" "BookError" false,
  kitF "NoTime" "NoTime" true,
  kitF "NoTime" "NoCard" false,
  kitFT "NoTime" "ValueError" true,
  exm1F "NoLine" "LackError" true,
  excCB "NoLine",
  kitF "NoLine" "GoingError" false,
  kitF "NoLine" "BookError" false,
  kitF "NoLine" "NoLine" true,
  kitF "NoLine" "NoGoing" false,
  kitFT "NoLine" "LookupError" true]
def xf : List Fx := xf1 ++ xf2
def d_NoLine_init : He.DefD := ⟨("NoLine", some "__init__"), "__init__", "NoLine.__init__", defArgs s_NoLine_init, defBody s_NoLine_init, defScope s_NoLine_init, [], []⟩
def d_is_whole : He.DefD := ⟨("is_whole", none), "is_whole", "is_whole", defArgs s_is_whole, defBody s_is_whole, defScope s_is_whole, [], []⟩
def d_is_moment : He.DefD := ⟨("is_moment", none), "is_moment", "is_moment", defArgs s_is_moment, defBody s_is_moment, defScope s_is_moment, [], []⟩
def d_want_moment : He.DefD := ⟨("want_moment", none), "want_moment", "want_moment", defArgs s_want_moment, defBody s_want_moment, defScope s_want_moment, [], []⟩
def d_want_day : He.DefD := ⟨("want_day", none), "want_day", "want_day", defArgs s_want_day, defBody s_want_day, defScope s_want_day, [], []⟩
def d_are_signs : He.DefD := ⟨("are_signs", none), "are_signs", "are_signs", defArgs s_are_signs, defBody s_are_signs, defScope s_are_signs, [], []⟩
def d_Ring_init : He.DefD := ⟨("Ring", some "__init__"), "__init__", "Ring.__init__", defArgs s_Ring_init, defBody s_Ring_init, defScope s_Ring_init, [], []⟩
def d_Ring_rings : He.DefD := ⟨("Ring", some "rings"), "rings", "Ring.rings", defArgs s_Ring_rings, defBody s_Ring_rings, defScope s_Ring_rings, [], []⟩
def d_told_days : He.DefD := ⟨("told_days", none), "told_days", "told_days", defArgs s_told_days, defBody s_told_days, defScope s_told_days, [], []⟩
def d_want_till : He.DefD := ⟨("want_till", none), "want_till", "want_till", defArgs s_want_till, defBody s_want_till, defScope s_want_till, [], []⟩
def d_Days_init : He.DefD := ⟨("Days", some "__init__"), "__init__", "Days.__init__", defArgs s_Days_init, defBody s_Days_init, defScope s_Days_init, [.int (0), .non, .non, .non], []⟩
def d_Days_has : He.DefD := ⟨("Days", some "has"), "has", "Days.has", defArgs s_Days_has, defBody s_Days_has, defScope s_Days_has, [], []⟩
def d_is_name : He.DefD := ⟨("is_name", none), "is_name", "is_name", defArgs s_is_name, defBody s_is_name, defScope s_is_name, [], []⟩
def d_notes_of : He.DefD := ⟨("notes_of", none), "notes_of", "notes_of", defArgs s_notes_of, defBody s_notes_of, defScope s_notes_of, [], []⟩
def d_notes_together : He.DefD := ⟨("notes_together", none), "notes_together", "notes_together", defArgs s_notes_together, defBody s_notes_together, defScope s_notes_together, [], []⟩
def d_Going_init : He.DefD := ⟨("Going", some "__init__"), "__init__", "Going.__init__", defArgs s_Going_init, defBody s_Going_init, defScope s_Going_init, [.non], []⟩
def d_is_number : He.DefD := ⟨("is_number", none), "is_number", "is_number", defArgs s_is_number, defBody s_is_number, defScope s_is_number, [], []⟩
def d_all_rising : He.DefD := ⟨("all_rising", none), "all_rising", "all_rising", defArgs s_all_rising, defBody s_all_rising, defScope s_all_rising, [], []⟩
def d_shorts_in : He.DefD := ⟨("shorts_in", none), "shorts_in", "shorts_in", defArgs s_shorts_in, defBody s_shorts_in, defScope s_shorts_in, [], []⟩
def d_row_moments : He.DefD := ⟨("row_moments", none), "row_moments", "row_moments", defArgs s_row_moments, defBody s_row_moments, defScope s_row_moments, [], []⟩
def d_row_many : He.DefD := ⟨("row_many", none), "row_many", "row_many", defArgs s_row_many, defBody s_row_many, defScope s_row_many, [], []⟩
def d_At_init : He.DefD := ⟨("At", some "__init__"), "__init__", "At.__init__", defArgs s_At_init, defBody s_At_init, defScope s_At_init, [], []⟩
def d_At_moments : He.DefD := ⟨("At", some "moments"), "moments", "At.moments", defArgs s_At_moments, defBody s_At_moments, defScope s_At_moments, [], []⟩
def d_At_begins : He.DefD := ⟨("At", some "begins"), "begins", "At.begins", defArgs s_At_begins, defBody s_At_begins, defScope s_At_begins, [], []⟩
def d_At_ends : He.DefD := ⟨("At", some "ends"), "ends", "At.ends", defArgs s_At_ends, defBody s_At_ends, defScope s_At_ends, [], []⟩
def d_At_means_many : He.DefD := ⟨("At", some "means_many"), "means_many", "At.means_many", defArgs s_At_means_many, defBody s_At_means_many, defScope s_At_means_many, [], []⟩
def d_At_nested : He.DefD := ⟨("At", some "nested"), "nested", "At.nested", defArgs s_At_nested, defBody s_At_nested, defScope s_At_nested, [], []⟩
def d_Over_init : He.DefD := ⟨("Over", some "__init__"), "__init__", "Over.__init__", defArgs s_Over_init, defBody s_Over_init, defScope s_Over_init, [.int (2), .int (60)], []⟩
def d_Over_moments : He.DefD := ⟨("Over", some "moments"), "moments", "Over.moments", defArgs s_Over_moments, defBody s_Over_moments, defScope s_Over_moments, [], []⟩
def d_Over_begins : He.DefD := ⟨("Over", some "begins"), "begins", "Over.begins", defArgs s_Over_begins, defBody s_Over_begins, defScope s_Over_begins, [], []⟩
def d_Over_ends : He.DefD := ⟨("Over", some "ends"), "ends", "Over.ends", defArgs s_Over_ends, defBody s_Over_ends, defScope s_Over_ends, [], []⟩
def d_Over_means_many : He.DefD := ⟨("Over", some "means_many"), "means_many", "Over.means_many", defArgs s_Over_means_many, defBody s_Over_means_many, defScope s_Over_means_many, [], []⟩
def d_Over_nested : He.DefD := ⟨("Over", some "nested"), "nested", "Over.nested", defArgs s_Over_nested, defBody s_Over_nested, defScope s_Over_nested, [], []⟩
def d_Spread_init : He.DefD := ⟨("Spread", some "__init__"), "__init__", "Spread.__init__", defArgs s_Spread_init, defBody s_Spread_init, defScope s_Spread_init, [], []⟩
def d_Spread_moments : He.DefD := ⟨("Spread", some "moments"), "moments", "Spread.moments", defArgs s_Spread_moments, defBody s_Spread_moments, defScope s_Spread_moments, [], []⟩
def d_want : He.DefD := ⟨("want", none), "want", "want", defArgs s_want, defBody s_want, defScope s_want, [], []⟩
def d_Card_init : He.DefD := ⟨("Card", some "__init__"), "__init__", "Card.__init__", defArgs s_Card_init, defBody s_Card_init, defScope s_Card_init, [], []⟩
def d_Card_inner : He.DefD := ⟨("Card", some "inner"), "inner", "Card.inner", defArgs s_Card_inner, defBody s_Card_inner, defScope s_Card_inner, [], []⟩
def d_Card_size : He.DefD := ⟨("Card", some "size"), "size", "Card.size", defArgs s_Card_size, defBody s_Card_size, defScope s_Card_size, [], []⟩
def d_Card_notes_at : He.DefD := ⟨("Card", some "notes_at"), "notes_at", "Card.notes_at", defArgs s_Card_notes_at, defBody s_Card_notes_at, defScope s_Card_notes_at, [], []⟩
def d_Card_moments_within : He.DefD := ⟨("Card", some "moments_within"), "moments_within", "Card.moments_within", defArgs s_Card_moments_within, defBody s_Card_moments_within, defScope s_Card_moments_within, [], []⟩
def d_Once_init : He.DefD := ⟨("Once", some "__init__"), "__init__", "Once.__init__", defArgs s_Once_init, defBody s_Once_init, defScope s_Once_init, [.non], []⟩
def d_Once_notes_at : He.DefD := ⟨("Once", some "notes_at"), "notes_at", "Once.notes_at", defArgs s_Once_notes_at, defBody s_Once_notes_at, defScope s_Once_notes_at, [], []⟩
def d_Once_moments_within : He.DefD := ⟨("Once", some "moments_within"), "moments_within", "Once.moments_within", defArgs s_Once_moments_within, defBody s_Once_moments_within, defScope s_Once_moments_within, [], []⟩
def d_Every_init : He.DefD := ⟨("Every", some "__init__"), "__init__", "Every.__init__", defArgs s_Every_init, defBody s_Every_init, defScope s_Every_init, [.non], []⟩
def d_Every_notes_at : He.DefD := ⟨("Every", some "notes_at"), "notes_at", "Every.notes_at", defArgs s_Every_notes_at, defBody s_Every_notes_at, defScope s_Every_notes_at, [], []⟩
def d_Every_moments_within : He.DefD := ⟨("Every", some "moments_within"), "moments_within", "Every.moments_within", defArgs s_Every_moments_within, defBody s_Every_moments_within, defScope s_Every_moments_within, [], []⟩
def d_Join_init : He.DefD := ⟨("Join", some "__init__"), "__init__", "Join.__init__", defArgs s_Join_init, defBody s_Join_init, defScope s_Join_init, [], []⟩
def d_Join_notes_at : He.DefD := ⟨("Join", some "notes_at"), "notes_at", "Join.notes_at", defArgs s_Join_notes_at, defBody s_Join_notes_at, defScope s_Join_notes_at, [], []⟩
def d_Less_init : He.DefD := ⟨("Less", some "__init__"), "__init__", "Less.__init__", defArgs s_Less_init, defBody s_Less_init, defScope s_Less_init, [], []⟩
def d_Less_notes_at : He.DefD := ⟨("Less", some "notes_at"), "notes_at", "Less.notes_at", defArgs s_Less_notes_at, defBody s_Less_notes_at, defScope s_Less_notes_at, [], []⟩
def d_Swap_init : He.DefD := ⟨("Swap", some "__init__"), "__init__", "Swap.__init__", defArgs s_Swap_init, defBody s_Swap_init, defScope s_Swap_init, [], []⟩
def d_Swap_notes_at : He.DefD := ⟨("Swap", some "notes_at"), "notes_at", "Swap.notes_at", defArgs s_Swap_notes_at, defBody s_Swap_notes_at, defScope s_Swap_notes_at, [], []⟩
def d_Later_init : He.DefD := ⟨("Later", some "__init__"), "__init__", "Later.__init__", defArgs s_Later_init, defBody s_Later_init, defScope s_Later_init, [.int (60)], []⟩
def d_Later_notes_at : He.DefD := ⟨("Later", some "notes_at"), "notes_at", "Later.notes_at", defArgs s_Later_notes_at, defBody s_Later_notes_at, defScope s_Later_notes_at, [], []⟩
def d_Noted_init : He.DefD := ⟨("Noted", some "__init__"), "__init__", "Noted.__init__", defArgs s_Noted_init, defBody s_Noted_init, defScope s_Noted_init, [], []⟩
def d_Noted_notes_at : He.DefD := ⟨("Noted", some "notes_at"), "notes_at", "Noted.notes_at", defArgs s_Noted_notes_at, defBody s_Noted_notes_at, defScope s_Noted_notes_at, [], []⟩
def d_As_init : He.DefD := ⟨("As", some "__init__"), "__init__", "As.__init__", defArgs s_As_init, defBody s_As_init, defScope s_As_init, [], []⟩
def d_first_as : He.DefD := ⟨("first_as", none), "first_as", "first_as", defArgs s_first_as, defBody s_first_as, defScope s_first_as, [], []⟩
def d_want_card : He.DefD := ⟨("want_card", none), "want_card", "want_card", defArgs s_want_card, defBody s_want_card, defScope s_want_card, [], []⟩
def d_want_known : He.DefD := ⟨("want_known", none), "want_known", "want_known", defArgs s_want_known, defBody s_want_known, defScope s_want_known, [], []⟩
def d_goings_within : He.DefD := ⟨("goings_within", none), "goings_within", "goings_within", defArgs s_goings_within, defBody s_goings_within, defScope s_goings_within, [], []⟩
def d_going_at : He.DefD := ⟨("going_at", none), "going_at", "going_at", defArgs s_going_at, defBody s_going_at, defScope s_going_at, [], []⟩
def d_goings_on : He.DefD := ⟨("goings_on", none), "goings_on", "goings_on", defArgs s_goings_on, defBody s_goings_on, defScope s_goings_on, [], []⟩
def d__law_pot : He.DefD := ⟨("_law_pot", none), "_law_pot", "_law_pot", defArgs s__law_pot, defBody s__law_pot, defScope s__law_pot, [], []⟩
def d__law_take : He.DefD := ⟨("_law_take", none), "_law_take", "_law_take", defArgs s__law_take, defBody s__law_take, defScope s__law_take, [], []⟩
def d__law_great : He.DefD := ⟨("_law_great", none), "_law_great", "_law_great", defArgs s__law_great, defBody s__law_great, defScope s__law_great, [], []⟩
def d__law_name : He.DefD := ⟨("_law_name", none), "_law_name", "_law_name", defArgs s__law_name, defBody s__law_name, defScope s__law_name, [], []⟩
def d__law_notes_drawn : He.DefD := ⟨("_law_notes_drawn", none), "_law_notes_drawn", "_law_notes_drawn", defArgs s__law_notes_drawn, defBody s__law_notes_drawn, defScope s__law_notes_drawn, [], []⟩
def d__law_runs : He.DefD := ⟨("_law_runs", none), "_law_runs", "_law_runs", defArgs s__law_runs, defBody s__law_runs, defScope s__law_runs, [], []⟩
def d__law_moments_of : He.DefD := ⟨("_law_moments_of", none), "_law_moments_of", "_law_moments_of", defArgs s__law_moments_of, defBody s__law_moments_of, defScope s__law_moments_of, [], []⟩
def d__law_spread : He.DefD := ⟨("_law_spread", none), "_law_spread", "_law_spread", defArgs s__law_spread, defBody s__law_spread, defScope s__law_spread, [], []⟩
def d__law_days_drawn : He.DefD := ⟨("_law_days_drawn", none), "_law_days_drawn", "_law_days_drawn", defArgs s__law_days_drawn, defBody s__law_days_drawn, defScope s__law_days_drawn, [], []⟩
def d__law_has : He.DefD := ⟨("_law_has", none), "_law_has", "_law_has", defArgs s__law_has, defBody s__law_has, defScope s__law_has, [], []⟩
def d__law_days_made : He.DefD := ⟨("_law_days_made", none), "_law_days_made", "_law_days_made", defArgs s__law_days_made, defBody s__law_days_made, defScope s__law_days_made, [], []⟩
def d__law_leaf : He.DefD := ⟨("_law_leaf", none), "_law_leaf", "_law_leaf", defArgs s__law_leaf, defBody s__law_leaf, defScope s__law_leaf, [], []⟩
def d__law_card : He.DefD := ⟨("_law_card", none), "_law_card", "_law_card", defArgs s__law_card, defBody s__law_card, defScope s__law_card, [], []⟩
def d__law_inner : He.DefD := ⟨("_law_inner", none), "_law_inner", "_law_inner", defArgs s__law_inner, defBody s__law_inner, defScope s__law_inner, [], []⟩
def d__law_together : He.DefD := ⟨("_law_together", none), "_law_together", "_law_together", defArgs s__law_together, defBody s__law_together, defScope s__law_together, [], []⟩
def d__law_notes : He.DefD := ⟨("_law_notes", none), "_law_notes", "_law_notes", defArgs s__law_notes, defBody s__law_notes, defScope s__law_notes, [], []⟩
def d__law_made : He.DefD := ⟨("_law_made", none), "_law_made", "_law_made", defArgs s__law_made, defBody s__law_made, defScope s__law_made, [], []⟩
def d__law_first : He.DefD := ⟨("_law_first", none), "_law_first", "_law_first", defArgs s__law_first, defBody s__law_first, defScope s__law_first, [], []⟩
def d__law_many : He.DefD := ⟨("_law_many", none), "_law_many", "_law_many", defArgs s__law_many, defBody s__law_many, defScope s__law_many, [], []⟩
def d__law_lack : He.DefD := ⟨("_law_lack", none), "_law_lack", "_law_lack", defArgs s__law_lack, defBody s__law_lack, defScope s__law_lack, [], []⟩
def d__law_no : He.DefD := ⟨("_law_no", none), "_law_no", "_law_no", defArgs s__law_no, defBody s__law_no, defScope s__law_no, [], []⟩
def d__law_asked : He.DefD := ⟨("_law_asked", none), "_law_asked", "_law_asked", defArgs s__law_asked, defBody s__law_asked, defScope s__law_asked, [], []⟩
def d__law_told_right : He.DefD := ⟨("_law_told_right", none), "_law_told_right", "_law_told_right", defArgs s__law_told_right, defBody s__law_told_right, defScope s__law_told_right, [], []⟩
def d__law_lack_right : He.DefD := ⟨("_law_lack_right", none), "_law_lack_right", "_law_lack_right", defArgs s__law_lack_right, defBody s__law_lack_right, defScope s__law_lack_right, [], []⟩
def d__law_around : He.DefD := ⟨("_law_around", none), "_law_around", "_law_around", defArgs s__law_around, defBody s__law_around, defScope s__law_around, [], []⟩
def d__law_all_notes : He.DefD := ⟨("_law_all_notes", none), "_law_all_notes", "_law_all_notes", defArgs s__law_all_notes, defBody s__law_all_notes, defScope s__law_all_notes, [], []⟩
def d_law : He.DefD := ⟨("law", none), "law", "law", defArgs s_law, defBody s_law, defScope s_law, [], []⟩
def fn : List He.DefD := [d_NoLine_init, d_is_whole, d_is_moment, d_want_moment, d_want_day, d_are_signs, d_Ring_init, d_Ring_rings, d_told_days, d_want_till, d_Days_init, d_Days_has, d_is_name, d_notes_of, d_notes_together, d_Going_init, d_is_number, d_all_rising, d_shorts_in, d_row_moments, d_row_many, d_At_init, d_At_moments, d_At_begins, d_At_ends, d_At_means_many, d_At_nested, d_Over_init, d_Over_moments, d_Over_begins, d_Over_ends, d_Over_means_many, d_Over_nested, d_Spread_init, d_Spread_moments, d_want, d_Card_init, d_Card_inner, d_Card_size, d_Card_notes_at, d_Card_moments_within, d_Once_init, d_Once_notes_at, d_Once_moments_within, d_Every_init, d_Every_notes_at, d_Every_moments_within, d_Join_init, d_Join_notes_at, d_Less_init, d_Less_notes_at, d_Swap_init, d_Swap_notes_at, d_Later_init, d_Later_notes_at, d_Noted_init, d_Noted_notes_at, d_As_init, d_first_as, d_want_card, d_want_known, d_goings_within, d_going_at, d_goings_on, d__law_pot, d__law_take, d__law_great, d__law_name, d__law_notes_drawn, d__law_runs, d__law_moments_of, d__law_spread, d__law_days_drawn, d__law_has, d__law_days_made, d__law_leaf, d__law_card, d__law_inner, d__law_together, d__law_notes, d__law_made, d__law_first, d__law_many, d__law_lack, d__law_no, d__law_asked, d__law_told_right, d__law_lack_right, d__law_around, d__law_all_notes, d_law]
abbrev R : PySem.W.OpenRow := PySem.W.OpenLaw.row PySem.Challenge.rw_shortgoings_k58_as_without_a_book
def adr0 : List Addr := [3, 776, 775, 993, 838, 808, 654, 837, 916, 974, 653, 807, 582, 864, 890, 948, 581, 915, 973, 992, 863, 889, 947, 125, 329, 328, 485, 752, 759, 44]
def adr1 : List Addr := [70, 722, 484, 721, 31, 250, 249, 422, 124, 421, 773, 30, 43, 2, 57, 106, 69, 122, 207, 242, 279, 305, 398, 530, 537, 551, 558, 565, 572, 599]
def adr2 : List Addr := [611, 625, 632, 639, 644, 670, 684, 745, 766, 793, 800, 805, 823, 830, 835, 854, 861, 880, 887, 906, 913, 933, 940, 964, 971, 990, 82, 94, 144, 153]
def adr3 : List Addr := [160, 167, 188, 193, 259, 266, 371, 376, 383, 433, 494, 499, 506, 511, 733, 1002, 1009, 1016, 1023, 1030, 1037, 1044, 1051, 1058, 1063, 1070, 1077, 1082, 1089, 1094]
def adr4 : List Addr := [1101, 1108, 1115, 1120, 1127, 1132, 1137, 1142, 1149, 1154, 1161, 1168, 1175, 1182, 1187, 1194, 1201, 1208, 81, 93, 105, 152, 159, 166, 187, 192, 258, 265, 370, 375]
def adr5 : List Addr := [382, 432, 493, 498, 505, 510, 732, 1001, 1008, 1015, 1022, 1029, 1036, 1043, 1050, 1057, 1062, 1069, 1076, 1081, 1088, 1093, 1100, 1107, 1114, 1119, 1126, 1131, 1136, 1141]
def adr6 : List Addr := [1148, 1153, 1160, 1167, 1174, 1181, 1186, 1193, 1200, 1207, 945, 121, 206, 241, 278, 274, 304, 397, 391, 529, 536, 550, 557, 564, 571, 598, 592, 610, 624, 631]
def adr7 : List Addr := [638, 643, 669, 683, 744, 751, 758, 765, 772, 792, 788, 799, 804, 822, 818, 829, 834, 853, 860, 879, 886, 905, 912, 932, 926, 939, 963, 970, 989]
def adr : List Addr := adr0 ++ adr1 ++ adr2 ++ adr3 ++ adr4 ++ adr5 ++ adr6 ++ adr7
abbrev hk : PySem.W.Hook := hookA adr xf fn
def ob (s : PySem.W.SharedT) : He.AlD := obsA adr xf fn (HandSHeadRun.getT s)
theorem ob_eq (s : PySem.W.SharedT) : ob s = hk.obs s.abs := obsA_eq (HandSHeadRun.getT_eq s)
def ns0 : List PySem.Str := ["_wall", "GoingError", "LackError", "BookError", "NoTime", "NoPiece", "NoDays", "NoCard", "NoLine", "NoGoing", "HOUR", "DAY", "COLON", "BLANK", "is_whole", "is_moment", "want_moment", "clock_of", "show_moment", "MOST_SIGNS", "NOUGHT", "ONE", "want_day", "are_signs", "Ring", "MOST_DAYS", "FROM", "TO", "NOT", "ALSO"]
def ns1 : List PySem.Str := ["told_days", "want_till", "Days", "edges_of", "stretches", "first_days", "common_round", "first_apart", "NAME_SIGNS", "LONGEST_NAME", "is_name", "notes_of", "notes_together", "Going", "MOST_MOMENTS", "MOST_NESTED", "NO_PARTS", "is_number", "Short", "all_rising", "shorts_in", "row_moments", "row_many", "row_text", "At", "Over", "Spread", "MOST_CARDS", "LATEST", "want"]
def ns2 : List PySem.Str := ["Card", "Once", "Every", "Join", "Less", "Swap", "Later", "Noted", "As", "first_as", "want_card", "want_known", "goings_within", "going_at", "goings_on", "_law_pot", "_law_take", "_law_great", "_law_name", "_law_notes_drawn", "_law_runs", "_law_moments_of", "_law_spread", "_law_days_drawn", "_law_has", "_law_days_made", "_law_leaf", "_law_card", "_law_inner", "_law_together"]
def ns3 : List PySem.Str := ["_law_notes", "_law_made", "_law_first", "_law_many", "_law_lack", "_law_no", "_law_asked", "_law_told_right", "_law_lack_right", "_law_around", "_law_all_notes"]
def nss : List PySem.Str := ns0 ++ ns1 ++ ns2 ++ ns3
theorem run_a (w : World) : HandSHeadRun.RunA R (PySem.W.view R.prog [110]) 10600 nss w := by
  intro os
  kernel_rfl
theorem run_b (w : World) : HandSHeadRun.RunB R 10600 (fun s => xf1.all fun p => p (He.frG (HandSHeadRun.getT s) adr)) w := by
  intro os
  kernel_rfl
theorem run_c (w : World) : HandSHeadRun.RunB R 10600 (fun s => xf2.all fun p => p (He.frG (HandSHeadRun.getT s) adr)) w := by
  intro os
  kernel_rfl
theorem run_d (w : World) : ∀ os : OsState, (HandSHeadRun.endR R 10600 w os).map (fun s => (fn.all fun d => d.ok (He.frG (HandSHeadRun.getT s) adr), fn.map fun d => He.fnW (He.frG (HandSHeadRun.getT s) adr) d.at_)) = some (true, fn.map He.DefD.val) := by
  intro os
  kernel_rfl
theorem run (w : World) : HandSHeadRun.RunEq R (PySem.W.view R.prog [110]) hk ob 10600 nss w := HandSHeadRun.runEq_of (run_a w) (runC_of rfl (run_b w) (run_c w) (run_d w))
theorem sc_NoLine_init : FnScope ["self", "name"] ["self", "name"] (defScope s_NoLine_init) := ⟨rfl, rfl, rfl, by decide +kernel, rfl, by decide +kernel, by decide +kernel⟩
theorem sc_is_whole : FnScope ["thing"] ["thing"] (defScope s_is_whole) := ⟨rfl, rfl, rfl, by decide +kernel, rfl, by decide +kernel, by decide +kernel⟩
theorem sc_is_moment : FnScope ["thing"] ["thing"] (defScope s_is_moment) := ⟨rfl, rfl, rfl, by decide +kernel, rfl, by decide +kernel, by decide +kernel⟩
theorem sc_want_moment : FnScope ["thing"] ["thing"] (defScope s_want_moment) := ⟨rfl, rfl, rfl, by decide +kernel, rfl, by decide +kernel, by decide +kernel⟩
theorem sc_want_day : FnScope ["thing"] ["thing"] (defScope s_want_day) := ⟨rfl, rfl, rfl, by decide +kernel, rfl, by decide +kernel, by decide +kernel⟩
theorem sc_are_signs : FnScope ["thing", "sign"] ["thing"] (defScope s_are_signs) := ⟨rfl, rfl, rfl, by decide +kernel, rfl, by decide +kernel, by decide +kernel⟩
theorem sc_Ring_init : FnScope ["self", "text"] ["self", "text"] (defScope s_Ring_init) := ⟨rfl, rfl, rfl, by decide +kernel, rfl, by decide +kernel, by decide +kernel⟩
theorem sc_Ring_rings : FnScope ["self", "day"] ["self", "day"] (defScope s_Ring_rings) := ⟨rfl, rfl, rfl, by decide +kernel, rfl, by decide +kernel, by decide +kernel⟩
theorem sc_told_days : FnScope ["thing", "day", "found", "one", "other"] ["thing"] (defScope s_told_days) := ⟨rfl, rfl, rfl, by decide +kernel, rfl, by decide +kernel, by decide +kernel⟩
theorem sc_want_till : FnScope ["since", "till"] ["since", "till"] (defScope s_want_till) := ⟨rfl, rfl, rfl, by decide +kernel, rfl, by decide +kernel, by decide +kernel⟩
theorem sc_Days_init : FnScope ["self", "ring", "since", "till", "out", "also", "day"] ["self", "ring", "since", "till", "out", "also"] (defScope s_Days_init) := ⟨rfl, rfl, rfl, by decide +kernel, rfl, by decide +kernel, by decide +kernel⟩
theorem sc_Days_has : FnScope ["self", "day"] ["self", "day"] (defScope s_Days_has) := ⟨rfl, rfl, rfl, by decide +kernel, rfl, by decide +kernel, by decide +kernel⟩
theorem sc_is_name : FnScope ["thing", "sign"] ["thing"] (defScope s_is_name) := ⟨rfl, rfl, rfl, by decide +kernel, rfl, by decide +kernel, by decide +kernel⟩
theorem sc_notes_of : FnScope ["notes", "note"] ["notes"] (defScope s_notes_of) := ⟨rfl, rfl, rfl, by decide +kernel, rfl, by decide +kernel, by decide +kernel⟩
theorem sc_notes_together : FnScope ["one", "other"] ["one", "other"] (defScope s_notes_together) := ⟨rfl, rfl, rfl, by decide +kernel, rfl, by decide +kernel, by decide +kernel⟩
theorem sc_Going_init : FnScope ["self", "moment", "notes"] ["self", "moment", "notes"] (defScope s_Going_init) := ⟨rfl, rfl, rfl, by decide +kernel, rfl, by decide +kernel, by decide +kernel⟩
theorem sc_is_number : FnScope ["thing", "least"] ["thing", "least"] (defScope s_is_number) := ⟨rfl, rfl, rfl, by decide +kernel, rfl, by decide +kernel, by decide +kernel⟩
theorem sc_all_rising : FnScope ["parts", "one", "other"] ["parts"] (defScope s_all_rising) := ⟨rfl, rfl, rfl, by decide +kernel, rfl, by decide +kernel, by decide +kernel⟩
theorem sc_shorts_in : FnScope ["parts", "found", "one"] ["parts"] (defScope s_shorts_in) := ⟨rfl, rfl, rfl, by decide +kernel, rfl, by decide +kernel, by decide +kernel⟩
theorem sc_row_moments : FnScope ["parts", "found", "one"] ["parts"] (defScope s_row_moments) := ⟨rfl, rfl, rfl, by decide +kernel, rfl, by decide +kernel, by decide +kernel⟩
theorem sc_row_many : FnScope ["parts", "one"] ["parts"] (defScope s_row_many) := ⟨rfl, rfl, rfl, by decide +kernel, rfl, by decide +kernel, by decide +kernel⟩
theorem sc_At_init : FnScope ["self", "moment"] ["self", "moment"] (defScope s_At_init) := ⟨rfl, rfl, rfl, by decide +kernel, rfl, by decide +kernel, by decide +kernel⟩
theorem sc_At_moments : FnScope ["self"] ["self"] (defScope s_At_moments) := ⟨rfl, rfl, rfl, by decide +kernel, rfl, by decide +kernel, by decide +kernel⟩
theorem sc_At_begins : FnScope ["self"] ["self"] (defScope s_At_begins) := ⟨rfl, rfl, rfl, by decide +kernel, rfl, by decide +kernel, by decide +kernel⟩
theorem sc_At_ends : FnScope ["self"] ["self"] (defScope s_At_ends) := ⟨rfl, rfl, rfl, by decide +kernel, rfl, by decide +kernel, by decide +kernel⟩
theorem sc_At_means_many : FnScope ["self"] ["self"] (defScope s_At_means_many) := ⟨rfl, rfl, rfl, by decide +kernel, rfl, by decide +kernel, by decide +kernel⟩
theorem sc_At_nested : FnScope ["self"] ["self"] (defScope s_At_nested) := ⟨rfl, rfl, rfl, by decide +kernel, rfl, by decide +kernel, by decide +kernel⟩
theorem sc_Over_init : FnScope ["self", "parts", "many", "step"] ["self", "parts", "many", "step"] (defScope s_Over_init) := ⟨rfl, rfl, rfl, by decide +kernel, rfl, by decide +kernel, by decide +kernel⟩
theorem sc_Over_moments : FnScope ["self", "own", "found", "time", "moment"] ["self"] (defScope s_Over_moments) := ⟨rfl, rfl, rfl, by decide +kernel, rfl, by decide +kernel, by decide +kernel⟩
theorem sc_Over_begins : FnScope ["self"] ["self"] (defScope s_Over_begins) := ⟨rfl, rfl, rfl, by decide +kernel, rfl, by decide +kernel, by decide +kernel⟩
theorem sc_Over_ends : FnScope ["self"] ["self"] (defScope s_Over_ends) := ⟨rfl, rfl, rfl, by decide +kernel, rfl, by decide +kernel, by decide +kernel⟩
theorem sc_Over_means_many : FnScope ["self"] ["self"] (defScope s_Over_means_many) := ⟨rfl, rfl, rfl, by decide +kernel, rfl, by decide +kernel, by decide +kernel⟩
theorem sc_Over_nested : FnScope ["self", "one"] ["self"] (defScope s_Over_nested) := ⟨rfl, rfl, rfl, by decide +kernel, rfl, by decide +kernel, by decide +kernel⟩
theorem sc_Spread_init : FnScope ["self", "parts"] ["self", "parts"] (defScope s_Spread_init) := ⟨rfl, rfl, rfl, by decide +kernel, rfl, by decide +kernel, by decide +kernel⟩
theorem sc_Spread_moments : FnScope ["self"] ["self"] (defScope s_Spread_moments) := ⟨rfl, rfl, rfl, by decide +kernel, rfl, by decide +kernel, by decide +kernel⟩
theorem sc_want : FnScope ["truth", "words"] ["truth", "words"] (defScope s_want) := ⟨rfl, rfl, rfl, by decide +kernel, rfl, by decide +kernel, by decide +kernel⟩
theorem sc_Card_init : FnScope ["self", "held", "one"] ["self", "held"] (defScope s_Card_init) := ⟨rfl, rfl, rfl, by decide +kernel, rfl, by decide +kernel, by decide +kernel⟩
theorem sc_Card_inner : FnScope ["self"] ["self"] (defScope s_Card_inner) := ⟨rfl, rfl, rfl, by decide +kernel, rfl, by decide +kernel, by decide +kernel⟩
theorem sc_Card_size : FnScope ["self"] ["self"] (defScope s_Card_size) := ⟨rfl, rfl, rfl, by decide +kernel, rfl, by decide +kernel, by decide +kernel⟩
theorem sc_Card_notes_at : FnScope ["self", "moment"] ["self", "moment"] (defScope s_Card_notes_at) := ⟨rfl, rfl, rfl, by decide +kernel, rfl, by decide +kernel, by decide +kernel⟩
theorem sc_Once_init : FnScope ["self", "spread", "notes", "moment"] ["self", "spread", "notes"] (defScope s_Once_init) := ⟨rfl, rfl, rfl, by decide +kernel, rfl, by decide +kernel, by decide +kernel⟩
theorem sc_Once_notes_at : FnScope ["self", "moment"] ["self", "moment"] (defScope s_Once_notes_at) := ⟨rfl, rfl, rfl, by decide +kernel, rfl, by decide +kernel, by decide +kernel⟩
theorem sc_Every_init : FnScope ["self", "days", "spread", "notes", "moment", "minute"] ["self", "days", "spread", "notes"] (defScope s_Every_init) := ⟨rfl, rfl, rfl, by decide +kernel, rfl, by decide +kernel, by decide +kernel⟩
theorem sc_Every_notes_at : FnScope ["self", "moment", "day", "minute"] ["self", "moment"] (defScope s_Every_notes_at) := ⟨rfl, rfl, rfl, by decide +kernel, rfl, by decide +kernel, by decide +kernel⟩
theorem sc_Join_init : FnScope ["self", "parts"] ["self", "parts"] (defScope s_Join_init) := ⟨rfl, rfl, rfl, by decide +kernel, rfl, by decide +kernel, by decide +kernel⟩
theorem sc_Join_notes_at : FnScope ["self", "moment", "found", "one", "notes"] ["self", "moment"] (defScope s_Join_notes_at) := ⟨rfl, rfl, rfl, by decide +kernel, rfl, by decide +kernel, by decide +kernel⟩
theorem sc_Less_init : FnScope ["self", "one", "other"] ["self", "one", "other"] (defScope s_Less_init) := ⟨rfl, rfl, rfl, by decide +kernel, rfl, by decide +kernel, by decide +kernel⟩
theorem sc_Less_notes_at : FnScope ["self", "moment", "one", "other"] ["self", "moment"] (defScope s_Less_notes_at) := ⟨rfl, rfl, rfl, by decide +kernel, rfl, by decide +kernel, by decide +kernel⟩
theorem sc_Swap_init : FnScope ["self", "one", "days", "other"] ["self", "one", "days", "other"] (defScope s_Swap_init) := ⟨rfl, rfl, rfl, by decide +kernel, rfl, by decide +kernel, by decide +kernel⟩
theorem sc_Swap_notes_at : FnScope ["self", "moment"] ["self", "moment"] (defScope s_Swap_notes_at) := ⟨rfl, rfl, rfl, by decide +kernel, rfl, by decide +kernel, by decide +kernel⟩
theorem sc_Later_init : FnScope ["self", "one", "minutes"] ["self", "one", "minutes"] (defScope s_Later_init) := ⟨rfl, rfl, rfl, by decide +kernel, rfl, by decide +kernel, by decide +kernel⟩
theorem sc_Later_notes_at : FnScope ["self", "moment"] ["self", "moment"] (defScope s_Later_notes_at) := ⟨rfl, rfl, rfl, by decide +kernel, rfl, by decide +kernel, by decide +kernel⟩
theorem sc_Noted_init : FnScope ["self", "one", "note"] ["self", "one", "note"] (defScope s_Noted_init) := ⟨rfl, rfl, rfl, by decide +kernel, rfl, by decide +kernel, by decide +kernel⟩
theorem sc_Noted_notes_at : FnScope ["self", "moment", "notes"] ["self", "moment"] (defScope s_Noted_notes_at) := ⟨rfl, rfl, rfl, by decide +kernel, rfl, by decide +kernel, by decide +kernel⟩
theorem sc_As_init : FnScope ["self", "name"] ["self", "name"] (defScope s_As_init) := ⟨rfl, rfl, rfl, by decide +kernel, rfl, by decide +kernel, by decide +kernel⟩
theorem sc_first_as : FnScope ["card", "one", "name"] ["card"] (defScope s_first_as) := ⟨rfl, rfl, rfl, by decide +kernel, rfl, by decide +kernel, by decide +kernel⟩
theorem sc_want_card : FnScope ["card"] ["card"] (defScope s_want_card) := ⟨rfl, rfl, rfl, by decide +kernel, rfl, by decide +kernel, by decide +kernel⟩
theorem sc_want_known : FnScope ["card", "name"] ["card"] (defScope s_want_known) := ⟨rfl, rfl, rfl, by decide +kernel, rfl, by decide +kernel, by decide +kernel⟩
theorem sc_goings_within : FnScope ["card", "begin", "end", "found", "moment", "notes"] ["card", "begin", "end"] (defScope s_goings_within) := ⟨rfl, rfl, rfl, by decide +kernel, rfl, by decide +kernel, by decide +kernel⟩
theorem sc_going_at : FnScope ["card", "moment", "notes"] ["card", "moment"] (defScope s_going_at) := ⟨rfl, rfl, rfl, by decide +kernel, rfl, by decide +kernel, by decide +kernel⟩
theorem sc_goings_on : FnScope ["card", "day"] ["card", "day"] (defScope s_goings_on) := ⟨rfl, rfl, rfl, by decide +kernel, rfl, by decide +kernel, by decide +kernel⟩
theorem sc__law_pot : FnScope ["_law_script", "_law_k", "_law_cell", "_law_seed"] ["_law_script", "_law_k"] (defScope s__law_pot) := ⟨rfl, rfl, rfl, by decide +kernel, rfl, by decide +kernel, by decide +kernel⟩
theorem sc__law_take : FnScope ["_law_pot_here", "_law_many_here", "_law_digit"] ["_law_pot_here", "_law_many_here"] (defScope s__law_take) := ⟨rfl, rfl, rfl, by decide +kernel, rfl, by decide +kernel, by decide +kernel⟩
theorem sc__law_great : FnScope ["_law_pot_here", "_law_way"] ["_law_pot_here"] (defScope s__law_great) := ⟨rfl, rfl, rfl, by decide +kernel, rfl, by decide +kernel, by decide +kernel⟩
theorem sc__law_name : FnScope ["_law_pot_here", "_law_letters", "_law_size", "_law_k"] ["_law_pot_here"] (defScope s__law_name) := ⟨rfl, rfl, rfl, by decide +kernel, rfl, by decide +kernel, by decide +kernel⟩
theorem sc__law_notes_drawn : FnScope ["_law_pot_here", "_law_found", "_law_k", "_law_name_here"] ["_law_pot_here"] (defScope s__law_notes_drawn) := ⟨rfl, rfl, rfl, by decide +kernel, rfl, by decide +kernel, by decide +kernel⟩
theorem sc__law_runs : FnScope ["_law_pot_here", "_law_begin", "_law_top", "_law_runs_here", "_law_at", "_law_k", "_law_first_here", "_law_step", "_law_many_here"] ["_law_pot_here", "_law_begin", "_law_top"] (defScope s__law_runs) := ⟨rfl, rfl, rfl, by decide +kernel, rfl, by decide +kernel, by decide +kernel⟩
theorem sc__law_moments_of : FnScope ["_law_runs_here", "_law_found", "_law_first_here", "_law_many_here", "_law_step", "_law_k"] ["_law_runs_here"] (defScope s__law_moments_of) := ⟨rfl, rfl, rfl, by decide +kernel, rfl, by decide +kernel, by decide +kernel⟩
theorem sc__law_spread : FnScope ["_law_runs_here", "_law_parts", "_law_first_here", "_law_many_here", "_law_step"] ["_law_runs_here"] (defScope s__law_spread) := ⟨rfl, rfl, rfl, by decide +kernel, rfl, by decide +kernel, by decide +kernel⟩
theorem sc__law_days_drawn : FnScope ["_law_pot_here", "_law_base", "_law_ring", "_law_since", "_law_till", "_law_out", "_law_also", "_law_k", "_law_day"] ["_law_pot_here", "_law_base"] (defScope s__law_days_drawn) := ⟨rfl, rfl, rfl, by decide +kernel, rfl, by decide +kernel, by decide +kernel⟩
theorem sc__law_has : FnScope ["_law_days", "_law_day", "_law_ring", "_law_since", "_law_till", "_law_out", "_law_also"] ["_law_days", "_law_day"] (defScope s__law_has) := ⟨rfl, rfl, rfl, by decide +kernel, rfl, by decide +kernel, by decide +kernel⟩
theorem sc__law_days_made : FnScope ["_law_days", "_law_ring", "_law_since", "_law_till", "_law_out", "_law_also"] ["_law_days"] (defScope s__law_days_made) := ⟨rfl, rfl, rfl, by decide +kernel, rfl, by decide +kernel, by decide +kernel⟩
theorem sc__law_leaf : FnScope ["_law_pot_here", "_law_base", "_law_way"] ["_law_pot_here", "_law_base", "_law_way"] (defScope s__law_leaf) := ⟨rfl, rfl, rfl, by decide +kernel, rfl, by decide +kernel, by decide +kernel⟩
theorem sc__law_card : FnScope ["_law_pot_here", "_law_base", "_law_deep", "_law_way", "_law_one", "_law_k"] ["_law_pot_here", "_law_base", "_law_deep"] (defScope s__law_card) := ⟨rfl, rfl, rfl, by decide +kernel, rfl, by decide +kernel, by decide +kernel⟩
theorem sc__law_inner : FnScope ["_law_told"] ["_law_told"] (defScope s__law_inner) := ⟨rfl, rfl, rfl, by decide +kernel, rfl, by decide +kernel, by decide +kernel⟩
theorem sc__law_together : FnScope ["_law_some", "_law_found", "_law_notes_here", "_law_note"] ["_law_some"] (defScope s__law_together) := ⟨rfl, rfl, rfl, by decide +kernel, rfl, by decide +kernel, by decide +kernel⟩
theorem sc__law_notes : FnScope ["_law_told", "_law_t", "_law_there", "_law_some", "_law_one", "_law_notes_here"] ["_law_told", "_law_t"] (defScope s__law_notes) := ⟨rfl, rfl, rfl, by decide +kernel, rfl, by decide +kernel, by decide +kernel⟩
theorem sc__law_made : FnScope ["_law_told", "_law_some", "_law_one"] ["_law_told"] (defScope s__law_made) := ⟨rfl, rfl, rfl, by decide +kernel, rfl, by decide +kernel, by decide +kernel⟩
theorem sc__law_first : FnScope ["_law_told", "_law_one", "_law_name_here"] ["_law_told"] (defScope s__law_first) := ⟨rfl, rfl, rfl, by decide +kernel, rfl, by decide +kernel, by decide +kernel⟩
theorem sc__law_many : FnScope ["_law_told", "_law_one"] ["_law_told"] (defScope s__law_many) := ⟨rfl, rfl, rfl, by decide +kernel, rfl, by decide +kernel, by decide +kernel⟩
theorem sc__law_lack : FnScope ["_law_e"] ["_law_e"] (defScope s__law_lack) := ⟨rfl, rfl, rfl, by decide +kernel, rfl, by decide +kernel, by decide +kernel⟩
theorem sc__law_no : FnScope ["_law_e"] ["_law_e"] (defScope s__law_no) := ⟨rfl, rfl, rfl, by decide +kernel, rfl, by decide +kernel, by decide +kernel⟩
theorem sc__law_asked : FnScope ["_law_way", "_law_card_here", "_law_number", "_law_told", "_law_e"] ["_law_way", "_law_card_here", "_law_number"] (defScope s__law_asked) := ⟨rfl, rfl, rfl, by decide +kernel, rfl, by decide +kernel, by decide +kernel⟩
theorem sc__law_told_right : FnScope ["_law_told", "_law_card_here", "_law_moment", "_law_due", "_law_found"] ["_law_told", "_law_card_here", "_law_moment"] (defScope s__law_told_right) := ⟨rfl, rfl, rfl, by decide +kernel, rfl, by decide +kernel, by decide +kernel⟩
theorem sc__law_lack_right : FnScope ["_law_told", "_law_card_here", "_law_moment", "_law_name_here", "_law_way", "_law_number", "_law_thing", "_law_parts", "_law_one", "_law_part"] ["_law_told", "_law_card_here", "_law_moment"] (defScope s__law_lack_right) := ⟨rfl, rfl, rfl, by decide +kernel, rfl, by decide +kernel, by decide +kernel⟩
theorem sc__law_around : FnScope ["_law_told", "_law_name_here", "_law_way"] ["_law_told", "_law_name_here", "_law_way"] (defScope s__law_around) := ⟨rfl, rfl, rfl, by decide +kernel, rfl, by decide +kernel, by decide +kernel⟩
theorem sc__law_all_notes : FnScope ["_law_told", "_law_found", "_law_one"] ["_law_told"] (defScope s__law_all_notes) := ⟨rfl, rfl, rfl, by decide +kernel, rfl, by decide +kernel, by decide +kernel⟩
theorem sc_law : FnScope ["_law_script", "_law_base", "_law_pot_here", "_law_way", "_law_name_here", "_law_told", "_law_asking", "_law_moment", "_law_alone", "_law_card_here"] ["_law_script"] (defScope s_law) := ⟨rfl, rfl, rfl, by decide +kernel, rfl, by decide +kernel, by decide +kernel⟩
structure Env (K : PySem.W.Frag) (mg : Str → Option Value) : Prop where
  g_is_whole : mg "is_whole" = some (.ref (He.ga K "is_whole"))
  g_is_moment : mg "is_moment" = some (.ref (He.ga K "is_moment"))
  g_want_moment : mg "want_moment" = some (.ref (He.ga K "want_moment"))
  g_want_day : mg "want_day" = some (.ref (He.ga K "want_day"))
  g_are_signs : mg "are_signs" = some (.ref (He.ga K "are_signs"))
  g_told_days : mg "told_days" = some (.ref (He.ga K "told_days"))
  g_want_till : mg "want_till" = some (.ref (He.ga K "want_till"))
  g_is_name : mg "is_name" = some (.ref (He.ga K "is_name"))
  g_notes_of : mg "notes_of" = some (.ref (He.ga K "notes_of"))
  g_notes_together : mg "notes_together" = some (.ref (He.ga K "notes_together"))
  g_is_number : mg "is_number" = some (.ref (He.ga K "is_number"))
  g_all_rising : mg "all_rising" = some (.ref (He.ga K "all_rising"))
  g_shorts_in : mg "shorts_in" = some (.ref (He.ga K "shorts_in"))
  g_row_moments : mg "row_moments" = some (.ref (He.ga K "row_moments"))
  g_row_many : mg "row_many" = some (.ref (He.ga K "row_many"))
  g_want : mg "want" = some (.ref (He.ga K "want"))
  g_first_as : mg "first_as" = some (.ref (He.ga K "first_as"))
  g_want_card : mg "want_card" = some (.ref (He.ga K "want_card"))
  g_want_known : mg "want_known" = some (.ref (He.ga K "want_known"))
  g_goings_within : mg "goings_within" = some (.ref (He.ga K "goings_within"))
  g_going_at : mg "going_at" = some (.ref (He.ga K "going_at"))
  g_goings_on : mg "goings_on" = some (.ref (He.ga K "goings_on"))
  g__law_pot : mg "_law_pot" = some (.ref (He.ga K "_law_pot"))
  g__law_take : mg "_law_take" = some (.ref (He.ga K "_law_take"))
  g__law_great : mg "_law_great" = some (.ref (He.ga K "_law_great"))
  g__law_name : mg "_law_name" = some (.ref (He.ga K "_law_name"))
  g__law_notes_drawn : mg "_law_notes_drawn" = some (.ref (He.ga K "_law_notes_drawn"))
  g__law_runs : mg "_law_runs" = some (.ref (He.ga K "_law_runs"))
  g__law_moments_of : mg "_law_moments_of" = some (.ref (He.ga K "_law_moments_of"))
  g__law_spread : mg "_law_spread" = some (.ref (He.ga K "_law_spread"))
  g__law_days_drawn : mg "_law_days_drawn" = some (.ref (He.ga K "_law_days_drawn"))
  g__law_has : mg "_law_has" = some (.ref (He.ga K "_law_has"))
  g__law_days_made : mg "_law_days_made" = some (.ref (He.ga K "_law_days_made"))
  g__law_leaf : mg "_law_leaf" = some (.ref (He.ga K "_law_leaf"))
  g__law_card : mg "_law_card" = some (.ref (He.ga K "_law_card"))
  g__law_inner : mg "_law_inner" = some (.ref (He.ga K "_law_inner"))
  g__law_together : mg "_law_together" = some (.ref (He.ga K "_law_together"))
  g__law_notes : mg "_law_notes" = some (.ref (He.ga K "_law_notes"))
  g__law_made : mg "_law_made" = some (.ref (He.ga K "_law_made"))
  g__law_first : mg "_law_first" = some (.ref (He.ga K "_law_first"))
  g__law_many : mg "_law_many" = some (.ref (He.ga K "_law_many"))
  g__law_lack : mg "_law_lack" = some (.ref (He.ga K "_law_lack"))
  g__law_no : mg "_law_no" = some (.ref (He.ga K "_law_no"))
  g__law_asked : mg "_law_asked" = some (.ref (He.ga K "_law_asked"))
  g__law_told_right : mg "_law_told_right" = some (.ref (He.ga K "_law_told_right"))
  g__law_lack_right : mg "_law_lack_right" = some (.ref (He.ga K "_law_lack_right"))
  g__law_around : mg "_law_around" = some (.ref (He.ga K "_law_around"))
  g__law_all_notes : mg "_law_all_notes" = some (.ref (He.ga K "_law_all_notes"))
  g_law : mg "law" = some (.ref (He.ga K "law"))
  v_DAY : ∃ u, mg "DAY" = some u ∧ RelV (.int (1440)) u
  v_MOST_SIGNS : ∃ u, mg "MOST_SIGNS" = some u ∧ RelV (.int (7)) u
  v_NOUGHT : ∃ u, mg "NOUGHT" = some u ∧ RelV (.str "0") u
  v_ONE : ∃ u, mg "ONE" = some u ∧ RelV (.str "1") u
  v_MOST_DAYS : ∃ u, mg "MOST_DAYS" = some u ∧ RelV (.int (8)) u
  v_NAME_SIGNS : ∃ u, mg "NAME_SIGNS" = some u ∧ RelV (.str "abcdefghijklmnopqrstuvwxyz") u
  v_LONGEST_NAME : ∃ u, mg "LONGEST_NAME" = some u ∧ RelV (.int (8)) u
  v_MOST_MOMENTS : ∃ u, mg "MOST_MOMENTS" = some u ∧ RelV (.int (1440)) u
  v_MOST_NESTED : ∃ u, mg "MOST_NESTED" = some u ∧ RelV (.int (8)) u
  v_MOST_CARDS : ∃ u, mg "MOST_CARDS" = some u ∧ RelV (.int (60)) u
  v_LATEST : ∃ u, mg "LATEST" = some u ∧ RelV (.int (10080)) u
  n_LookupError : mg "LookupError" = none
  n_ValueError : mg "ValueError" = none
  n_all : mg "all" = none
  n_any : mg "any" = none
  n_bool : mg "bool" = none
  n_dict : mg "dict" = none
  n_divmod : mg "divmod" = none
  n_int : mg "int" = none
  n_isinstance : mg "isinstance" = none
  n_len : mg "len" = none
  n_list : mg "list" = none
  n_max : mg "max" = none
  n_min : mg "min" = none
  n_range : mg "range" = none
  n_repr : mg "repr" = none
  n_set : mg "set" = none
  n_sorted : mg "sorted" = none
  n_str : mg "str" = none
  n_sum : mg "sum" = none
  n_tuple : mg "tuple" = none
  n_zip : mg "zip" = none
  g_GoingError : mg "GoingError" = some (.ref (He.ga K "GoingError"))
  g_LackError : mg "LackError" = some (.ref (He.ga K "LackError"))
  g_BookError : mg "BookError" = some (.ref (He.ga K "BookError"))
  g_NoTime : mg "NoTime" = some (.ref (He.ga K "NoTime"))
  x_NoTime : Exo K (He.ga K "NoTime") bmV "ValueError.__new__"
  g_NoPiece : mg "NoPiece" = some (.ref (He.ga K "NoPiece"))
  x_NoPiece : Exo K (He.ga K "NoPiece") bmV "ValueError.__new__"
  g_NoDays : mg "NoDays" = some (.ref (He.ga K "NoDays"))
  x_NoDays : Exo K (He.ga K "NoDays") bmV "ValueError.__new__"
  g_NoCard : mg "NoCard" = some (.ref (He.ga K "NoCard"))
  x_NoCard : Exo K (He.ga K "NoCard") bmV "ValueError.__new__"
  g_NoLine : mg "NoLine" = some (.ref (He.ga K "NoLine"))
  g_NoGoing : mg "NoGoing" = some (.ref (He.ga K "NoGoing"))
  g_Ring : mg "Ring" = some (.ref (He.ga K "Ring"))
  g_Days : mg "Days" = some (.ref (He.ga K "Days"))
  g_Going : mg "Going" = some (.ref (He.ga K "Going"))
  g_Short : mg "Short" = some (.ref (He.ga K "Short"))
  g_At : mg "At" = some (.ref (He.ga K "At"))
  g_Over : mg "Over" = some (.ref (He.ga K "Over"))
  g_Spread : mg "Spread" = some (.ref (He.ga K "Spread"))
  g_Card : mg "Card" = some (.ref (He.ga K "Card"))
  g_Once : mg "Once" = some (.ref (He.ga K "Once"))
  g_Every : mg "Every" = some (.ref (He.ga K "Every"))
  g_Join : mg "Join" = some (.ref (He.ga K "Join"))
  g_Less : mg "Less" = some (.ref (He.ga K "Less"))
  g_Swap : mg "Swap" = some (.ref (He.ga K "Swap"))
  g_Later : mg "Later" = some (.ref (He.ga K "Later"))
  g_Noted : mg "Noted" = some (.ref (He.ga K "Noted"))
  g_As : mg "As" = some (.ref (He.ga K "As"))
  bx_LackError : BxiC K (He.ga K "LackError") "LookupError.__init__"
  cm_Card : ClsM K (He.ga K "Card") "__init__" (He.ma K (He.ga K "Card") "__init__")
  ox_NoLine : OexB K (He.ga K "NoLine") bmL "LookupError.__new__"
  m_NoLine_init : Meth K (He.ga K "NoLine") "__init__" (He.ma K (He.ga K "NoLine") "__init__")
  xf_NoLine : XfC K (He.ga K "NoLine")
  a_NoLine_name : NoAttr K (He.ga K "NoLine") "name"
  c_Ring : Cls K (He.ga K "Ring")
  i_Ring : InsC K (He.ga K "Ring")
  a_Ring_bits : NoAttr K (He.ga K "Ring") "bits"
  m_Ring_rings : Meth K (He.ga K "Ring") "rings" (He.ma K (He.ga K "Ring") "rings")
  mk_Ring : Mk K (He.ga K "Ring") (He.ma K (He.ga K "Ring") "__init__")
  kit_Ring_Ring : PySem.W.kitOne K (.ref (He.ga K "Ring")) (.ref (He.ga K "Ring")) = some true
  c_Days : Cls K (He.ga K "Days")
  i_Days : InsC K (He.ga K "Days")
  a_Days_ring : NoAttr K (He.ga K "Days") "ring"
  a_Days_since : NoAttr K (He.ga K "Days") "since"
  a_Days_till : NoAttr K (He.ga K "Days") "till"
  a_Days_out : NoAttr K (He.ga K "Days") "out"
  a_Days_also : NoAttr K (He.ga K "Days") "also"
  m_Days_has : Meth K (He.ga K "Days") "has" (He.ma K (He.ga K "Days") "has")
  mk_Days : Mk K (He.ga K "Days") (He.ma K (He.ga K "Days") "__init__")
  kit_Days_Days : PySem.W.kitOne K (.ref (He.ga K "Days")) (.ref (He.ga K "Days")) = some true
  c_Going : Cls K (He.ga K "Going")
  i_Going : InsC K (He.ga K "Going")
  a_Going_moment : NoAttr K (He.ga K "Going") "moment"
  a_Going_notes : NoAttr K (He.ga K "Going") "notes"
  mk_Going : Mk K (He.ga K "Going") (He.ma K (He.ga K "Going") "__init__")
  kit_Going_Going : PySem.W.kitOne K (.ref (He.ga K "Going")) (.ref (He.ga K "Going")) = some true
  c_At : Cls K (He.ga K "At")
  i_At : InsC K (He.ga K "At")
  a_At_moment : NoAttr K (He.ga K "At") "moment"
  m_At_moments : Meth K (He.ga K "At") "moments" (He.ma K (He.ga K "At") "moments")
  m_At_begins : Meth K (He.ga K "At") "begins" (He.ma K (He.ga K "At") "begins")
  m_At_ends : Meth K (He.ga K "At") "ends" (He.ma K (He.ga K "At") "ends")
  m_At_means_many : Meth K (He.ga K "At") "means_many" (He.ma K (He.ga K "At") "means_many")
  m_At_nested : Meth K (He.ga K "At") "nested" (He.ma K (He.ga K "At") "nested")
  mk_At : Mk K (He.ga K "At") (He.ma K (He.ga K "At") "__init__")
  kit_At_Short : PySem.W.kitOne K (.ref (He.ga K "At")) (.ref (He.ga K "Short")) = some true
  c_Over : Cls K (He.ga K "Over")
  i_Over : InsC K (He.ga K "Over")
  a_Over_kept : NoAttr K (He.ga K "Over") "kept"
  a_Over_many : NoAttr K (He.ga K "Over") "many"
  a_Over_step : NoAttr K (He.ga K "Over") "step"
  m_Over_moments : Meth K (He.ga K "Over") "moments" (He.ma K (He.ga K "Over") "moments")
  m_Over_begins : Meth K (He.ga K "Over") "begins" (He.ma K (He.ga K "Over") "begins")
  m_Over_ends : Meth K (He.ga K "Over") "ends" (He.ma K (He.ga K "Over") "ends")
  m_Over_means_many : Meth K (He.ga K "Over") "means_many" (He.ma K (He.ga K "Over") "means_many")
  m_Over_nested : Meth K (He.ga K "Over") "nested" (He.ma K (He.ga K "Over") "nested")
  mk_Over : Mk K (He.ga K "Over") (He.ma K (He.ga K "Over") "__init__")
  kit_Over_Short : PySem.W.kitOne K (.ref (He.ga K "Over")) (.ref (He.ga K "Short")) = some true
  c_Spread : Cls K (He.ga K "Spread")
  i_Spread : InsC K (He.ga K "Spread")
  a_Spread_kept : NoAttr K (He.ga K "Spread") "kept"
  a_Spread_held : NoAttr K (He.ga K "Spread") "held"
  m_Spread_moments : Meth K (He.ga K "Spread") "moments" (He.ma K (He.ga K "Spread") "moments")
  mk_Spread : Mk K (He.ga K "Spread") (He.ma K (He.ga K "Spread") "__init__")
  kit_Spread_Spread : PySem.W.kitOne K (.ref (He.ga K "Spread")) (.ref (He.ga K "Spread")) = some true
  c_Once : Cls K (He.ga K "Once")
  i_Once : InsC K (He.ga K "Once")
  a_Once_spread : NoAttr K (He.ga K "Once") "spread"
  a_Once_notes : NoAttr K (He.ga K "Once") "notes"
  a_Once_own : NoAttr K (He.ga K "Once") "own"
  a_Once_held : NoAttr K (He.ga K "Once") "held"
  a_Once_weight : NoAttr K (He.ga K "Once") "weight"
  m_Once_notes_at : Meth K (He.ga K "Once") "notes_at" (He.ma K (He.ga K "Once") "notes_at")
  m_Once_moments_within : Meth K (He.ga K "Once") "moments_within" (He.ma K (He.ga K "Once") "moments_within")
  m_Once_inner : Meth K (He.ga K "Once") "inner" (He.ma K (He.ga K "Once") "inner")
  e_Once_inner : He.ma K (He.ga K "Once") "inner" = He.ma K (He.ga K "Card") "inner"
  m_Once_size : Meth K (He.ga K "Once") "size" (He.ma K (He.ga K "Once") "size")
  e_Once_size : He.ma K (He.ga K "Once") "size" = He.ma K (He.ga K "Card") "size"
  mk_Once : Mk K (He.ga K "Once") (He.ma K (He.ga K "Once") "__init__")
  kit_Once_Card : PySem.W.kitOne K (.ref (He.ga K "Once")) (.ref (He.ga K "Card")) = some true
  kit_Once_As : PySem.W.kitOne K (.ref (He.ga K "Once")) (.ref (He.ga K "As")) = some false
  c_Every : Cls K (He.ga K "Every")
  i_Every : InsC K (He.ga K "Every")
  a_Every_days : NoAttr K (He.ga K "Every") "days"
  a_Every_spread : NoAttr K (He.ga K "Every") "spread"
  a_Every_notes : NoAttr K (He.ga K "Every") "notes"
  a_Every_own : NoAttr K (He.ga K "Every") "own"
  a_Every_held : NoAttr K (He.ga K "Every") "held"
  a_Every_weight : NoAttr K (He.ga K "Every") "weight"
  m_Every_notes_at : Meth K (He.ga K "Every") "notes_at" (He.ma K (He.ga K "Every") "notes_at")
  m_Every_moments_within : Meth K (He.ga K "Every") "moments_within" (He.ma K (He.ga K "Every") "moments_within")
  m_Every_inner : Meth K (He.ga K "Every") "inner" (He.ma K (He.ga K "Every") "inner")
  e_Every_inner : He.ma K (He.ga K "Every") "inner" = He.ma K (He.ga K "Card") "inner"
  m_Every_size : Meth K (He.ga K "Every") "size" (He.ma K (He.ga K "Every") "size")
  e_Every_size : He.ma K (He.ga K "Every") "size" = He.ma K (He.ga K "Card") "size"
  mk_Every : Mk K (He.ga K "Every") (He.ma K (He.ga K "Every") "__init__")
  kit_Every_Card : PySem.W.kitOne K (.ref (He.ga K "Every")) (.ref (He.ga K "Card")) = some true
  kit_Every_As : PySem.W.kitOne K (.ref (He.ga K "Every")) (.ref (He.ga K "As")) = some false
  c_Join : Cls K (He.ga K "Join")
  i_Join : InsC K (He.ga K "Join")
  a_Join_held : NoAttr K (He.ga K "Join") "held"
  a_Join_weight : NoAttr K (He.ga K "Join") "weight"
  m_Join_notes_at : Meth K (He.ga K "Join") "notes_at" (He.ma K (He.ga K "Join") "notes_at")
  m_Join_inner : Meth K (He.ga K "Join") "inner" (He.ma K (He.ga K "Join") "inner")
  e_Join_inner : He.ma K (He.ga K "Join") "inner" = He.ma K (He.ga K "Card") "inner"
  m_Join_size : Meth K (He.ga K "Join") "size" (He.ma K (He.ga K "Join") "size")
  e_Join_size : He.ma K (He.ga K "Join") "size" = He.ma K (He.ga K "Card") "size"
  m_Join_moments_within : Meth K (He.ga K "Join") "moments_within" (He.ma K (He.ga K "Join") "moments_within")
  e_Join_moments_within : He.ma K (He.ga K "Join") "moments_within" = He.ma K (He.ga K "Card") "moments_within"
  mk_Join : Mk K (He.ga K "Join") (He.ma K (He.ga K "Join") "__init__")
  kit_Join_Card : PySem.W.kitOne K (.ref (He.ga K "Join")) (.ref (He.ga K "Card")) = some true
  kit_Join_As : PySem.W.kitOne K (.ref (He.ga K "Join")) (.ref (He.ga K "As")) = some false
  c_Less : Cls K (He.ga K "Less")
  i_Less : InsC K (He.ga K "Less")
  a_Less_held : NoAttr K (He.ga K "Less") "held"
  a_Less_weight : NoAttr K (He.ga K "Less") "weight"
  m_Less_notes_at : Meth K (He.ga K "Less") "notes_at" (He.ma K (He.ga K "Less") "notes_at")
  m_Less_inner : Meth K (He.ga K "Less") "inner" (He.ma K (He.ga K "Less") "inner")
  e_Less_inner : He.ma K (He.ga K "Less") "inner" = He.ma K (He.ga K "Card") "inner"
  m_Less_size : Meth K (He.ga K "Less") "size" (He.ma K (He.ga K "Less") "size")
  e_Less_size : He.ma K (He.ga K "Less") "size" = He.ma K (He.ga K "Card") "size"
  m_Less_moments_within : Meth K (He.ga K "Less") "moments_within" (He.ma K (He.ga K "Less") "moments_within")
  e_Less_moments_within : He.ma K (He.ga K "Less") "moments_within" = He.ma K (He.ga K "Card") "moments_within"
  mk_Less : Mk K (He.ga K "Less") (He.ma K (He.ga K "Less") "__init__")
  kit_Less_Card : PySem.W.kitOne K (.ref (He.ga K "Less")) (.ref (He.ga K "Card")) = some true
  kit_Less_As : PySem.W.kitOne K (.ref (He.ga K "Less")) (.ref (He.ga K "As")) = some false
  c_Swap : Cls K (He.ga K "Swap")
  i_Swap : InsC K (He.ga K "Swap")
  a_Swap_days : NoAttr K (He.ga K "Swap") "days"
  a_Swap_held : NoAttr K (He.ga K "Swap") "held"
  a_Swap_weight : NoAttr K (He.ga K "Swap") "weight"
  m_Swap_notes_at : Meth K (He.ga K "Swap") "notes_at" (He.ma K (He.ga K "Swap") "notes_at")
  m_Swap_inner : Meth K (He.ga K "Swap") "inner" (He.ma K (He.ga K "Swap") "inner")
  e_Swap_inner : He.ma K (He.ga K "Swap") "inner" = He.ma K (He.ga K "Card") "inner"
  m_Swap_size : Meth K (He.ga K "Swap") "size" (He.ma K (He.ga K "Swap") "size")
  e_Swap_size : He.ma K (He.ga K "Swap") "size" = He.ma K (He.ga K "Card") "size"
  m_Swap_moments_within : Meth K (He.ga K "Swap") "moments_within" (He.ma K (He.ga K "Swap") "moments_within")
  e_Swap_moments_within : He.ma K (He.ga K "Swap") "moments_within" = He.ma K (He.ga K "Card") "moments_within"
  mk_Swap : Mk K (He.ga K "Swap") (He.ma K (He.ga K "Swap") "__init__")
  kit_Swap_Card : PySem.W.kitOne K (.ref (He.ga K "Swap")) (.ref (He.ga K "Card")) = some true
  kit_Swap_As : PySem.W.kitOne K (.ref (He.ga K "Swap")) (.ref (He.ga K "As")) = some false
  c_Later : Cls K (He.ga K "Later")
  i_Later : InsC K (He.ga K "Later")
  a_Later_minutes : NoAttr K (He.ga K "Later") "minutes"
  a_Later_held : NoAttr K (He.ga K "Later") "held"
  a_Later_weight : NoAttr K (He.ga K "Later") "weight"
  m_Later_notes_at : Meth K (He.ga K "Later") "notes_at" (He.ma K (He.ga K "Later") "notes_at")
  m_Later_moments_within : Meth K (He.ga K "Later") "moments_within" (He.ma K (He.ga K "Later") "moments_within")
  m_Later_inner : Meth K (He.ga K "Later") "inner" (He.ma K (He.ga K "Later") "inner")
  e_Later_inner : He.ma K (He.ga K "Later") "inner" = He.ma K (He.ga K "Card") "inner"
  m_Later_size : Meth K (He.ga K "Later") "size" (He.ma K (He.ga K "Later") "size")
  e_Later_size : He.ma K (He.ga K "Later") "size" = He.ma K (He.ga K "Card") "size"
  mk_Later : Mk K (He.ga K "Later") (He.ma K (He.ga K "Later") "__init__")
  kit_Later_Card : PySem.W.kitOne K (.ref (He.ga K "Later")) (.ref (He.ga K "Card")) = some true
  kit_Later_As : PySem.W.kitOne K (.ref (He.ga K "Later")) (.ref (He.ga K "As")) = some false
  c_Noted : Cls K (He.ga K "Noted")
  i_Noted : InsC K (He.ga K "Noted")
  a_Noted_note : NoAttr K (He.ga K "Noted") "note"
  a_Noted_held : NoAttr K (He.ga K "Noted") "held"
  a_Noted_weight : NoAttr K (He.ga K "Noted") "weight"
  m_Noted_notes_at : Meth K (He.ga K "Noted") "notes_at" (He.ma K (He.ga K "Noted") "notes_at")
  m_Noted_inner : Meth K (He.ga K "Noted") "inner" (He.ma K (He.ga K "Noted") "inner")
  e_Noted_inner : He.ma K (He.ga K "Noted") "inner" = He.ma K (He.ga K "Card") "inner"
  m_Noted_size : Meth K (He.ga K "Noted") "size" (He.ma K (He.ga K "Noted") "size")
  e_Noted_size : He.ma K (He.ga K "Noted") "size" = He.ma K (He.ga K "Card") "size"
  m_Noted_moments_within : Meth K (He.ga K "Noted") "moments_within" (He.ma K (He.ga K "Noted") "moments_within")
  e_Noted_moments_within : He.ma K (He.ga K "Noted") "moments_within" = He.ma K (He.ga K "Card") "moments_within"
  mk_Noted : Mk K (He.ga K "Noted") (He.ma K (He.ga K "Noted") "__init__")
  kit_Noted_Card : PySem.W.kitOne K (.ref (He.ga K "Noted")) (.ref (He.ga K "Card")) = some true
  kit_Noted_As : PySem.W.kitOne K (.ref (He.ga K "Noted")) (.ref (He.ga K "As")) = some false
  c_As : Cls K (He.ga K "As")
  i_As : InsC K (He.ga K "As")
  a_As_name : NoAttr K (He.ga K "As") "name"
  a_As_held : NoAttr K (He.ga K "As") "held"
  a_As_weight : NoAttr K (He.ga K "As") "weight"
  m_As_inner : Meth K (He.ga K "As") "inner" (He.ma K (He.ga K "As") "inner")
  e_As_inner : He.ma K (He.ga K "As") "inner" = He.ma K (He.ga K "Card") "inner"
  m_As_size : Meth K (He.ga K "As") "size" (He.ma K (He.ga K "As") "size")
  e_As_size : He.ma K (He.ga K "As") "size" = He.ma K (He.ga K "Card") "size"
  m_As_notes_at : Meth K (He.ga K "As") "notes_at" (He.ma K (He.ga K "As") "notes_at")
  e_As_notes_at : He.ma K (He.ga K "As") "notes_at" = He.ma K (He.ga K "Card") "notes_at"
  m_As_moments_within : Meth K (He.ga K "As") "moments_within" (He.ma K (He.ga K "As") "moments_within")
  e_As_moments_within : He.ma K (He.ga K "As") "moments_within" = He.ma K (He.ga K "Card") "moments_within"
  mk_As : Mk K (He.ga K "As") (He.ma K (He.ga K "As") "__init__")
  kit_As_Card : PySem.W.kitOne K (.ref (He.ga K "As")) (.ref (He.ga K "Card")) = some true
  kit_As_As : PySem.W.kitOne K (.ref (He.ga K "As")) (.ref (He.ga K "As")) = some true
  exm_NoTime_LackError : PySem.W.exmOne K (.ref (He.ga K "NoTime")) (.ref (He.ga K "LackError")) = some false
  exm_NoTime_GoingError : PySem.W.exmOne K (.ref (He.ga K "NoTime")) (.ref (He.ga K "GoingError")) = some true
  xc_NoTime : ExcC K (He.ga K "NoTime")
  kit_NoTime_LackError : PySem.W.kitOne K (.ref (He.ga K "NoTime")) (.ref (He.ga K "LackError")) = some false
  kit_NoTime_BookError : PySem.W.kitOne K (.ref (He.ga K "NoTime")) (.ref (He.ga K "BookError")) = some false
  kit_NoTime_NoTime : PySem.W.kitOne K (.ref (He.ga K "NoTime")) (.ref (He.ga K "NoTime")) = some true
  kit_NoTime_NoCard : PySem.W.kitOne K (.ref (He.ga K "NoTime")) (.ref (He.ga K "NoCard")) = some false
  kit_NoTime_ValueError : PySem.W.kitOne K (.ref (He.ga K "NoTime")) (.type "ValueError") = some true
  exm_NoLine_LackError : PySem.W.exmOne K (.ref (He.ga K "NoLine")) (.ref (He.ga K "LackError")) = some true
  xc_NoLine : ExcC K (He.ga K "NoLine")
  kit_NoLine_GoingError : PySem.W.kitOne K (.ref (He.ga K "NoLine")) (.ref (He.ga K "GoingError")) = some false
  kit_NoLine_BookError : PySem.W.kitOne K (.ref (He.ga K "NoLine")) (.ref (He.ga K "BookError")) = some false
  kit_NoLine_NoLine : PySem.W.kitOne K (.ref (He.ga K "NoLine")) (.ref (He.ga K "NoLine")) = some true
  kit_NoLine_NoGoing : PySem.W.kitOne K (.ref (He.ga K "NoLine")) (.ref (He.ga K "NoGoing")) = some false
  kit_NoLine_LookupError : PySem.W.kitOne K (.ref (He.ga K "NoLine")) (.type "LookupError") = some true
  f_NoLine_init : ∃ fd, FunD K "__init__" "NoLine.__init__" (defArgs s_NoLine_init) (defBody s_NoLine_init) (defScope s_NoLine_init) [] [] (He.ma K (He.ga K "NoLine") "__init__") fd
  f_is_whole : ∃ fd, FunD K "is_whole" "is_whole" (defArgs s_is_whole) (defBody s_is_whole) (defScope s_is_whole) [] [] (He.ga K "is_whole") fd
  f_is_moment : ∃ fd, FunD K "is_moment" "is_moment" (defArgs s_is_moment) (defBody s_is_moment) (defScope s_is_moment) [] [] (He.ga K "is_moment") fd
  f_want_moment : ∃ fd, FunD K "want_moment" "want_moment" (defArgs s_want_moment) (defBody s_want_moment) (defScope s_want_moment) [] [] (He.ga K "want_moment") fd
  f_want_day : ∃ fd, FunD K "want_day" "want_day" (defArgs s_want_day) (defBody s_want_day) (defScope s_want_day) [] [] (He.ga K "want_day") fd
  f_are_signs : ∃ fd, FunD K "are_signs" "are_signs" (defArgs s_are_signs) (defBody s_are_signs) (defScope s_are_signs) [] [] (He.ga K "are_signs") fd
  f_Ring_init : ∃ fd, FunD K "__init__" "Ring.__init__" (defArgs s_Ring_init) (defBody s_Ring_init) (defScope s_Ring_init) [] [] (He.ma K (He.ga K "Ring") "__init__") fd
  f_Ring_rings : ∃ fd, FunD K "rings" "Ring.rings" (defArgs s_Ring_rings) (defBody s_Ring_rings) (defScope s_Ring_rings) [] [] (He.ma K (He.ga K "Ring") "rings") fd
  f_told_days : ∃ fd, FunD K "told_days" "told_days" (defArgs s_told_days) (defBody s_told_days) (defScope s_told_days) [] [] (He.ga K "told_days") fd
  f_want_till : ∃ fd, FunD K "want_till" "want_till" (defArgs s_want_till) (defBody s_want_till) (defScope s_want_till) [] [] (He.ga K "want_till") fd
  f_Days_init : ∃ fd, FunD K "__init__" "Days.__init__" (defArgs s_Days_init) (defBody s_Days_init) (defScope s_Days_init) [.int (0), .non, .non, .non] [] (He.ma K (He.ga K "Days") "__init__") fd
  f_Days_has : ∃ fd, FunD K "has" "Days.has" (defArgs s_Days_has) (defBody s_Days_has) (defScope s_Days_has) [] [] (He.ma K (He.ga K "Days") "has") fd
  f_is_name : ∃ fd, FunD K "is_name" "is_name" (defArgs s_is_name) (defBody s_is_name) (defScope s_is_name) [] [] (He.ga K "is_name") fd
  f_notes_of : ∃ fd, FunD K "notes_of" "notes_of" (defArgs s_notes_of) (defBody s_notes_of) (defScope s_notes_of) [] [] (He.ga K "notes_of") fd
  f_notes_together : ∃ fd, FunD K "notes_together" "notes_together" (defArgs s_notes_together) (defBody s_notes_together) (defScope s_notes_together) [] [] (He.ga K "notes_together") fd
  f_Going_init : ∃ fd, FunD K "__init__" "Going.__init__" (defArgs s_Going_init) (defBody s_Going_init) (defScope s_Going_init) [.non] [] (He.ma K (He.ga K "Going") "__init__") fd
  f_is_number : ∃ fd, FunD K "is_number" "is_number" (defArgs s_is_number) (defBody s_is_number) (defScope s_is_number) [] [] (He.ga K "is_number") fd
  f_all_rising : ∃ fd, FunD K "all_rising" "all_rising" (defArgs s_all_rising) (defBody s_all_rising) (defScope s_all_rising) [] [] (He.ga K "all_rising") fd
  f_shorts_in : ∃ fd, FunD K "shorts_in" "shorts_in" (defArgs s_shorts_in) (defBody s_shorts_in) (defScope s_shorts_in) [] [] (He.ga K "shorts_in") fd
  f_row_moments : ∃ fd, FunD K "row_moments" "row_moments" (defArgs s_row_moments) (defBody s_row_moments) (defScope s_row_moments) [] [] (He.ga K "row_moments") fd
  f_row_many : ∃ fd, FunD K "row_many" "row_many" (defArgs s_row_many) (defBody s_row_many) (defScope s_row_many) [] [] (He.ga K "row_many") fd
  f_At_init : ∃ fd, FunD K "__init__" "At.__init__" (defArgs s_At_init) (defBody s_At_init) (defScope s_At_init) [] [] (He.ma K (He.ga K "At") "__init__") fd
  f_At_moments : ∃ fd, FunD K "moments" "At.moments" (defArgs s_At_moments) (defBody s_At_moments) (defScope s_At_moments) [] [] (He.ma K (He.ga K "At") "moments") fd
  f_At_begins : ∃ fd, FunD K "begins" "At.begins" (defArgs s_At_begins) (defBody s_At_begins) (defScope s_At_begins) [] [] (He.ma K (He.ga K "At") "begins") fd
  f_At_ends : ∃ fd, FunD K "ends" "At.ends" (defArgs s_At_ends) (defBody s_At_ends) (defScope s_At_ends) [] [] (He.ma K (He.ga K "At") "ends") fd
  f_At_means_many : ∃ fd, FunD K "means_many" "At.means_many" (defArgs s_At_means_many) (defBody s_At_means_many) (defScope s_At_means_many) [] [] (He.ma K (He.ga K "At") "means_many") fd
  f_At_nested : ∃ fd, FunD K "nested" "At.nested" (defArgs s_At_nested) (defBody s_At_nested) (defScope s_At_nested) [] [] (He.ma K (He.ga K "At") "nested") fd
  f_Over_init : ∃ fd, FunD K "__init__" "Over.__init__" (defArgs s_Over_init) (defBody s_Over_init) (defScope s_Over_init) [.int (2), .int (60)] [] (He.ma K (He.ga K "Over") "__init__") fd
  f_Over_moments : ∃ fd, FunD K "moments" "Over.moments" (defArgs s_Over_moments) (defBody s_Over_moments) (defScope s_Over_moments) [] [] (He.ma K (He.ga K "Over") "moments") fd
  f_Over_begins : ∃ fd, FunD K "begins" "Over.begins" (defArgs s_Over_begins) (defBody s_Over_begins) (defScope s_Over_begins) [] [] (He.ma K (He.ga K "Over") "begins") fd
  f_Over_ends : ∃ fd, FunD K "ends" "Over.ends" (defArgs s_Over_ends) (defBody s_Over_ends) (defScope s_Over_ends) [] [] (He.ma K (He.ga K "Over") "ends") fd
  f_Over_means_many : ∃ fd, FunD K "means_many" "Over.means_many" (defArgs s_Over_means_many) (defBody s_Over_means_many) (defScope s_Over_means_many) [] [] (He.ma K (He.ga K "Over") "means_many") fd
  f_Over_nested : ∃ fd, FunD K "nested" "Over.nested" (defArgs s_Over_nested) (defBody s_Over_nested) (defScope s_Over_nested) [] [] (He.ma K (He.ga K "Over") "nested") fd
  f_Spread_init : ∃ fd, FunD K "__init__" "Spread.__init__" (defArgs s_Spread_init) (defBody s_Spread_init) (defScope s_Spread_init) [] [] (He.ma K (He.ga K "Spread") "__init__") fd
  f_Spread_moments : ∃ fd, FunD K "moments" "Spread.moments" (defArgs s_Spread_moments) (defBody s_Spread_moments) (defScope s_Spread_moments) [] [] (He.ma K (He.ga K "Spread") "moments") fd
  f_want : ∃ fd, FunD K "want" "want" (defArgs s_want) (defBody s_want) (defScope s_want) [] [] (He.ga K "want") fd
  f_Card_init : ∃ fd, FunD K "__init__" "Card.__init__" (defArgs s_Card_init) (defBody s_Card_init) (defScope s_Card_init) [] [] (He.ma K (He.ga K "Card") "__init__") fd
  f_Card_inner : ∃ fd, FunD K "inner" "Card.inner" (defArgs s_Card_inner) (defBody s_Card_inner) (defScope s_Card_inner) [] [] (He.ma K (He.ga K "Card") "inner") fd
  f_Card_size : ∃ fd, FunD K "size" "Card.size" (defArgs s_Card_size) (defBody s_Card_size) (defScope s_Card_size) [] [] (He.ma K (He.ga K "Card") "size") fd
  f_Card_notes_at : ∃ fd, FunD K "notes_at" "Card.notes_at" (defArgs s_Card_notes_at) (defBody s_Card_notes_at) (defScope s_Card_notes_at) [] [] (He.ma K (He.ga K "Card") "notes_at") fd
  f_Card_moments_within : ∃ fd, FunD K "moments_within" "Card.moments_within" (defArgs s_Card_moments_within) (defBody s_Card_moments_within) (defScope s_Card_moments_within) [] [] (He.ma K (He.ga K "Card") "moments_within") fd
  f_Once_init : ∃ fd, FunD K "__init__" "Once.__init__" (defArgs s_Once_init) (defBody s_Once_init) (defScope s_Once_init) [.non] [] (He.ma K (He.ga K "Once") "__init__") fd
  f_Once_notes_at : ∃ fd, FunD K "notes_at" "Once.notes_at" (defArgs s_Once_notes_at) (defBody s_Once_notes_at) (defScope s_Once_notes_at) [] [] (He.ma K (He.ga K "Once") "notes_at") fd
  f_Once_moments_within : ∃ fd, FunD K "moments_within" "Once.moments_within" (defArgs s_Once_moments_within) (defBody s_Once_moments_within) (defScope s_Once_moments_within) [] [] (He.ma K (He.ga K "Once") "moments_within") fd
  f_Every_init : ∃ fd, FunD K "__init__" "Every.__init__" (defArgs s_Every_init) (defBody s_Every_init) (defScope s_Every_init) [.non] [] (He.ma K (He.ga K "Every") "__init__") fd
  f_Every_notes_at : ∃ fd, FunD K "notes_at" "Every.notes_at" (defArgs s_Every_notes_at) (defBody s_Every_notes_at) (defScope s_Every_notes_at) [] [] (He.ma K (He.ga K "Every") "notes_at") fd
  f_Every_moments_within : ∃ fd, FunD K "moments_within" "Every.moments_within" (defArgs s_Every_moments_within) (defBody s_Every_moments_within) (defScope s_Every_moments_within) [] [] (He.ma K (He.ga K "Every") "moments_within") fd
  f_Join_init : ∃ fd, FunD K "__init__" "Join.__init__" (defArgs s_Join_init) (defBody s_Join_init) (defScope s_Join_init) [] [] (He.ma K (He.ga K "Join") "__init__") fd
  f_Join_notes_at : ∃ fd, FunD K "notes_at" "Join.notes_at" (defArgs s_Join_notes_at) (defBody s_Join_notes_at) (defScope s_Join_notes_at) [] [] (He.ma K (He.ga K "Join") "notes_at") fd
  f_Less_init : ∃ fd, FunD K "__init__" "Less.__init__" (defArgs s_Less_init) (defBody s_Less_init) (defScope s_Less_init) [] [] (He.ma K (He.ga K "Less") "__init__") fd
  f_Less_notes_at : ∃ fd, FunD K "notes_at" "Less.notes_at" (defArgs s_Less_notes_at) (defBody s_Less_notes_at) (defScope s_Less_notes_at) [] [] (He.ma K (He.ga K "Less") "notes_at") fd
  f_Swap_init : ∃ fd, FunD K "__init__" "Swap.__init__" (defArgs s_Swap_init) (defBody s_Swap_init) (defScope s_Swap_init) [] [] (He.ma K (He.ga K "Swap") "__init__") fd
  f_Swap_notes_at : ∃ fd, FunD K "notes_at" "Swap.notes_at" (defArgs s_Swap_notes_at) (defBody s_Swap_notes_at) (defScope s_Swap_notes_at) [] [] (He.ma K (He.ga K "Swap") "notes_at") fd
  f_Later_init : ∃ fd, FunD K "__init__" "Later.__init__" (defArgs s_Later_init) (defBody s_Later_init) (defScope s_Later_init) [.int (60)] [] (He.ma K (He.ga K "Later") "__init__") fd
  f_Later_notes_at : ∃ fd, FunD K "notes_at" "Later.notes_at" (defArgs s_Later_notes_at) (defBody s_Later_notes_at) (defScope s_Later_notes_at) [] [] (He.ma K (He.ga K "Later") "notes_at") fd
  f_Noted_init : ∃ fd, FunD K "__init__" "Noted.__init__" (defArgs s_Noted_init) (defBody s_Noted_init) (defScope s_Noted_init) [] [] (He.ma K (He.ga K "Noted") "__init__") fd
  f_Noted_notes_at : ∃ fd, FunD K "notes_at" "Noted.notes_at" (defArgs s_Noted_notes_at) (defBody s_Noted_notes_at) (defScope s_Noted_notes_at) [] [] (He.ma K (He.ga K "Noted") "notes_at") fd
  f_As_init : ∃ fd, FunD K "__init__" "As.__init__" (defArgs s_As_init) (defBody s_As_init) (defScope s_As_init) [] [] (He.ma K (He.ga K "As") "__init__") fd
  f_first_as : ∃ fd, FunD K "first_as" "first_as" (defArgs s_first_as) (defBody s_first_as) (defScope s_first_as) [] [] (He.ga K "first_as") fd
  f_want_card : ∃ fd, FunD K "want_card" "want_card" (defArgs s_want_card) (defBody s_want_card) (defScope s_want_card) [] [] (He.ga K "want_card") fd
  f_want_known : ∃ fd, FunD K "want_known" "want_known" (defArgs s_want_known) (defBody s_want_known) (defScope s_want_known) [] [] (He.ga K "want_known") fd
  f_goings_within : ∃ fd, FunD K "goings_within" "goings_within" (defArgs s_goings_within) (defBody s_goings_within) (defScope s_goings_within) [] [] (He.ga K "goings_within") fd
  f_going_at : ∃ fd, FunD K "going_at" "going_at" (defArgs s_going_at) (defBody s_going_at) (defScope s_going_at) [] [] (He.ga K "going_at") fd
  f_goings_on : ∃ fd, FunD K "goings_on" "goings_on" (defArgs s_goings_on) (defBody s_goings_on) (defScope s_goings_on) [] [] (He.ga K "goings_on") fd
  f__law_pot : ∃ fd, FunD K "_law_pot" "_law_pot" (defArgs s__law_pot) (defBody s__law_pot) (defScope s__law_pot) [] [] (He.ga K "_law_pot") fd
  f__law_take : ∃ fd, FunD K "_law_take" "_law_take" (defArgs s__law_take) (defBody s__law_take) (defScope s__law_take) [] [] (He.ga K "_law_take") fd
  f__law_great : ∃ fd, FunD K "_law_great" "_law_great" (defArgs s__law_great) (defBody s__law_great) (defScope s__law_great) [] [] (He.ga K "_law_great") fd
  f__law_name : ∃ fd, FunD K "_law_name" "_law_name" (defArgs s__law_name) (defBody s__law_name) (defScope s__law_name) [] [] (He.ga K "_law_name") fd
  f__law_notes_drawn : ∃ fd, FunD K "_law_notes_drawn" "_law_notes_drawn" (defArgs s__law_notes_drawn) (defBody s__law_notes_drawn) (defScope s__law_notes_drawn) [] [] (He.ga K "_law_notes_drawn") fd
  f__law_runs : ∃ fd, FunD K "_law_runs" "_law_runs" (defArgs s__law_runs) (defBody s__law_runs) (defScope s__law_runs) [] [] (He.ga K "_law_runs") fd
  f__law_moments_of : ∃ fd, FunD K "_law_moments_of" "_law_moments_of" (defArgs s__law_moments_of) (defBody s__law_moments_of) (defScope s__law_moments_of) [] [] (He.ga K "_law_moments_of") fd
  f__law_spread : ∃ fd, FunD K "_law_spread" "_law_spread" (defArgs s__law_spread) (defBody s__law_spread) (defScope s__law_spread) [] [] (He.ga K "_law_spread") fd
  f__law_days_drawn : ∃ fd, FunD K "_law_days_drawn" "_law_days_drawn" (defArgs s__law_days_drawn) (defBody s__law_days_drawn) (defScope s__law_days_drawn) [] [] (He.ga K "_law_days_drawn") fd
  f__law_has : ∃ fd, FunD K "_law_has" "_law_has" (defArgs s__law_has) (defBody s__law_has) (defScope s__law_has) [] [] (He.ga K "_law_has") fd
  f__law_days_made : ∃ fd, FunD K "_law_days_made" "_law_days_made" (defArgs s__law_days_made) (defBody s__law_days_made) (defScope s__law_days_made) [] [] (He.ga K "_law_days_made") fd
  f__law_leaf : ∃ fd, FunD K "_law_leaf" "_law_leaf" (defArgs s__law_leaf) (defBody s__law_leaf) (defScope s__law_leaf) [] [] (He.ga K "_law_leaf") fd
  f__law_card : ∃ fd, FunD K "_law_card" "_law_card" (defArgs s__law_card) (defBody s__law_card) (defScope s__law_card) [] [] (He.ga K "_law_card") fd
  f__law_inner : ∃ fd, FunD K "_law_inner" "_law_inner" (defArgs s__law_inner) (defBody s__law_inner) (defScope s__law_inner) [] [] (He.ga K "_law_inner") fd
  f__law_together : ∃ fd, FunD K "_law_together" "_law_together" (defArgs s__law_together) (defBody s__law_together) (defScope s__law_together) [] [] (He.ga K "_law_together") fd
  f__law_notes : ∃ fd, FunD K "_law_notes" "_law_notes" (defArgs s__law_notes) (defBody s__law_notes) (defScope s__law_notes) [] [] (He.ga K "_law_notes") fd
  f__law_made : ∃ fd, FunD K "_law_made" "_law_made" (defArgs s__law_made) (defBody s__law_made) (defScope s__law_made) [] [] (He.ga K "_law_made") fd
  f__law_first : ∃ fd, FunD K "_law_first" "_law_first" (defArgs s__law_first) (defBody s__law_first) (defScope s__law_first) [] [] (He.ga K "_law_first") fd
  f__law_many : ∃ fd, FunD K "_law_many" "_law_many" (defArgs s__law_many) (defBody s__law_many) (defScope s__law_many) [] [] (He.ga K "_law_many") fd
  f__law_lack : ∃ fd, FunD K "_law_lack" "_law_lack" (defArgs s__law_lack) (defBody s__law_lack) (defScope s__law_lack) [] [] (He.ga K "_law_lack") fd
  f__law_no : ∃ fd, FunD K "_law_no" "_law_no" (defArgs s__law_no) (defBody s__law_no) (defScope s__law_no) [] [] (He.ga K "_law_no") fd
  f__law_asked : ∃ fd, FunD K "_law_asked" "_law_asked" (defArgs s__law_asked) (defBody s__law_asked) (defScope s__law_asked) [] [] (He.ga K "_law_asked") fd
  f__law_told_right : ∃ fd, FunD K "_law_told_right" "_law_told_right" (defArgs s__law_told_right) (defBody s__law_told_right) (defScope s__law_told_right) [] [] (He.ga K "_law_told_right") fd
  f__law_lack_right : ∃ fd, FunD K "_law_lack_right" "_law_lack_right" (defArgs s__law_lack_right) (defBody s__law_lack_right) (defScope s__law_lack_right) [] [] (He.ga K "_law_lack_right") fd
  f__law_around : ∃ fd, FunD K "_law_around" "_law_around" (defArgs s__law_around) (defBody s__law_around) (defScope s__law_around) [] [] (He.ga K "_law_around") fd
  f__law_all_notes : ∃ fd, FunD K "_law_all_notes" "_law_all_notes" (defArgs s__law_all_notes) (defBody s__law_all_notes) (defScope s__law_all_notes) [] [] (He.ga K "_law_all_notes") fd
  f_law : ∃ fd, FunD K "law" "law" (defArgs s_law) (defBody s_law) (defScope s_law) [] [] (He.ga K "law") fd
end Toy
namespace Toy
open PySem PySem.Spec PyProof.Rows L2 L3
theorem Env.k_is_whole {K : PySem.W.Frag} {mg : Str → Option Value} (T : Env K mg) : PySem.W.keepIn K (.ref (He.ga K "is_whole")) = true := let ⟨_, F⟩ := T.f_is_whole; F.kp
theorem Env.k_is_moment {K : PySem.W.Frag} {mg : Str → Option Value} (T : Env K mg) : PySem.W.keepIn K (.ref (He.ga K "is_moment")) = true := let ⟨_, F⟩ := T.f_is_moment; F.kp
theorem Env.k_want_moment {K : PySem.W.Frag} {mg : Str → Option Value} (T : Env K mg) : PySem.W.keepIn K (.ref (He.ga K "want_moment")) = true := let ⟨_, F⟩ := T.f_want_moment; F.kp
theorem Env.k_want_day {K : PySem.W.Frag} {mg : Str → Option Value} (T : Env K mg) : PySem.W.keepIn K (.ref (He.ga K "want_day")) = true := let ⟨_, F⟩ := T.f_want_day; F.kp
theorem Env.k_are_signs {K : PySem.W.Frag} {mg : Str → Option Value} (T : Env K mg) : PySem.W.keepIn K (.ref (He.ga K "are_signs")) = true := let ⟨_, F⟩ := T.f_are_signs; F.kp
theorem Env.k_told_days {K : PySem.W.Frag} {mg : Str → Option Value} (T : Env K mg) : PySem.W.keepIn K (.ref (He.ga K "told_days")) = true := let ⟨_, F⟩ := T.f_told_days; F.kp
theorem Env.k_want_till {K : PySem.W.Frag} {mg : Str → Option Value} (T : Env K mg) : PySem.W.keepIn K (.ref (He.ga K "want_till")) = true := let ⟨_, F⟩ := T.f_want_till; F.kp
theorem Env.k_is_name {K : PySem.W.Frag} {mg : Str → Option Value} (T : Env K mg) : PySem.W.keepIn K (.ref (He.ga K "is_name")) = true := let ⟨_, F⟩ := T.f_is_name; F.kp
theorem Env.k_notes_of {K : PySem.W.Frag} {mg : Str → Option Value} (T : Env K mg) : PySem.W.keepIn K (.ref (He.ga K "notes_of")) = true := let ⟨_, F⟩ := T.f_notes_of; F.kp
theorem Env.k_notes_together {K : PySem.W.Frag} {mg : Str → Option Value} (T : Env K mg) : PySem.W.keepIn K (.ref (He.ga K "notes_together")) = true := let ⟨_, F⟩ := T.f_notes_together; F.kp
theorem Env.k_is_number {K : PySem.W.Frag} {mg : Str → Option Value} (T : Env K mg) : PySem.W.keepIn K (.ref (He.ga K "is_number")) = true := let ⟨_, F⟩ := T.f_is_number; F.kp
theorem Env.k_all_rising {K : PySem.W.Frag} {mg : Str → Option Value} (T : Env K mg) : PySem.W.keepIn K (.ref (He.ga K "all_rising")) = true := let ⟨_, F⟩ := T.f_all_rising; F.kp
theorem Env.k_shorts_in {K : PySem.W.Frag} {mg : Str → Option Value} (T : Env K mg) : PySem.W.keepIn K (.ref (He.ga K "shorts_in")) = true := let ⟨_, F⟩ := T.f_shorts_in; F.kp
theorem Env.k_row_moments {K : PySem.W.Frag} {mg : Str → Option Value} (T : Env K mg) : PySem.W.keepIn K (.ref (He.ga K "row_moments")) = true := let ⟨_, F⟩ := T.f_row_moments; F.kp
theorem Env.k_row_many {K : PySem.W.Frag} {mg : Str → Option Value} (T : Env K mg) : PySem.W.keepIn K (.ref (He.ga K "row_many")) = true := let ⟨_, F⟩ := T.f_row_many; F.kp
theorem Env.k_want {K : PySem.W.Frag} {mg : Str → Option Value} (T : Env K mg) : PySem.W.keepIn K (.ref (He.ga K "want")) = true := let ⟨_, F⟩ := T.f_want; F.kp
theorem Env.k_first_as {K : PySem.W.Frag} {mg : Str → Option Value} (T : Env K mg) : PySem.W.keepIn K (.ref (He.ga K "first_as")) = true := let ⟨_, F⟩ := T.f_first_as; F.kp
theorem Env.k_want_card {K : PySem.W.Frag} {mg : Str → Option Value} (T : Env K mg) : PySem.W.keepIn K (.ref (He.ga K "want_card")) = true := let ⟨_, F⟩ := T.f_want_card; F.kp
theorem Env.k_want_known {K : PySem.W.Frag} {mg : Str → Option Value} (T : Env K mg) : PySem.W.keepIn K (.ref (He.ga K "want_known")) = true := let ⟨_, F⟩ := T.f_want_known; F.kp
theorem Env.k_goings_within {K : PySem.W.Frag} {mg : Str → Option Value} (T : Env K mg) : PySem.W.keepIn K (.ref (He.ga K "goings_within")) = true := let ⟨_, F⟩ := T.f_goings_within; F.kp
theorem Env.k_going_at {K : PySem.W.Frag} {mg : Str → Option Value} (T : Env K mg) : PySem.W.keepIn K (.ref (He.ga K "going_at")) = true := let ⟨_, F⟩ := T.f_going_at; F.kp
theorem Env.k_goings_on {K : PySem.W.Frag} {mg : Str → Option Value} (T : Env K mg) : PySem.W.keepIn K (.ref (He.ga K "goings_on")) = true := let ⟨_, F⟩ := T.f_goings_on; F.kp
theorem Env.k__law_pot {K : PySem.W.Frag} {mg : Str → Option Value} (T : Env K mg) : PySem.W.keepIn K (.ref (He.ga K "_law_pot")) = true := let ⟨_, F⟩ := T.f__law_pot; F.kp
theorem Env.k__law_take {K : PySem.W.Frag} {mg : Str → Option Value} (T : Env K mg) : PySem.W.keepIn K (.ref (He.ga K "_law_take")) = true := let ⟨_, F⟩ := T.f__law_take; F.kp
theorem Env.k__law_great {K : PySem.W.Frag} {mg : Str → Option Value} (T : Env K mg) : PySem.W.keepIn K (.ref (He.ga K "_law_great")) = true := let ⟨_, F⟩ := T.f__law_great; F.kp
theorem Env.k__law_name {K : PySem.W.Frag} {mg : Str → Option Value} (T : Env K mg) : PySem.W.keepIn K (.ref (He.ga K "_law_name")) = true := let ⟨_, F⟩ := T.f__law_name; F.kp
theorem Env.k__law_notes_drawn {K : PySem.W.Frag} {mg : Str → Option Value} (T : Env K mg) : PySem.W.keepIn K (.ref (He.ga K "_law_notes_drawn")) = true := let ⟨_, F⟩ := T.f__law_notes_drawn; F.kp
theorem Env.k__law_runs {K : PySem.W.Frag} {mg : Str → Option Value} (T : Env K mg) : PySem.W.keepIn K (.ref (He.ga K "_law_runs")) = true := let ⟨_, F⟩ := T.f__law_runs; F.kp
theorem Env.k__law_moments_of {K : PySem.W.Frag} {mg : Str → Option Value} (T : Env K mg) : PySem.W.keepIn K (.ref (He.ga K "_law_moments_of")) = true := let ⟨_, F⟩ := T.f__law_moments_of; F.kp
theorem Env.k__law_spread {K : PySem.W.Frag} {mg : Str → Option Value} (T : Env K mg) : PySem.W.keepIn K (.ref (He.ga K "_law_spread")) = true := let ⟨_, F⟩ := T.f__law_spread; F.kp
theorem Env.k__law_days_drawn {K : PySem.W.Frag} {mg : Str → Option Value} (T : Env K mg) : PySem.W.keepIn K (.ref (He.ga K "_law_days_drawn")) = true := let ⟨_, F⟩ := T.f__law_days_drawn; F.kp
theorem Env.k__law_has {K : PySem.W.Frag} {mg : Str → Option Value} (T : Env K mg) : PySem.W.keepIn K (.ref (He.ga K "_law_has")) = true := let ⟨_, F⟩ := T.f__law_has; F.kp
theorem Env.k__law_days_made {K : PySem.W.Frag} {mg : Str → Option Value} (T : Env K mg) : PySem.W.keepIn K (.ref (He.ga K "_law_days_made")) = true := let ⟨_, F⟩ := T.f__law_days_made; F.kp
theorem Env.k__law_leaf {K : PySem.W.Frag} {mg : Str → Option Value} (T : Env K mg) : PySem.W.keepIn K (.ref (He.ga K "_law_leaf")) = true := let ⟨_, F⟩ := T.f__law_leaf; F.kp
theorem Env.k__law_card {K : PySem.W.Frag} {mg : Str → Option Value} (T : Env K mg) : PySem.W.keepIn K (.ref (He.ga K "_law_card")) = true := let ⟨_, F⟩ := T.f__law_card; F.kp
theorem Env.k__law_inner {K : PySem.W.Frag} {mg : Str → Option Value} (T : Env K mg) : PySem.W.keepIn K (.ref (He.ga K "_law_inner")) = true := let ⟨_, F⟩ := T.f__law_inner; F.kp
theorem Env.k__law_together {K : PySem.W.Frag} {mg : Str → Option Value} (T : Env K mg) : PySem.W.keepIn K (.ref (He.ga K "_law_together")) = true := let ⟨_, F⟩ := T.f__law_together; F.kp
theorem Env.k__law_notes {K : PySem.W.Frag} {mg : Str → Option Value} (T : Env K mg) : PySem.W.keepIn K (.ref (He.ga K "_law_notes")) = true := let ⟨_, F⟩ := T.f__law_notes; F.kp
theorem Env.k__law_made {K : PySem.W.Frag} {mg : Str → Option Value} (T : Env K mg) : PySem.W.keepIn K (.ref (He.ga K "_law_made")) = true := let ⟨_, F⟩ := T.f__law_made; F.kp
theorem Env.k__law_first {K : PySem.W.Frag} {mg : Str → Option Value} (T : Env K mg) : PySem.W.keepIn K (.ref (He.ga K "_law_first")) = true := let ⟨_, F⟩ := T.f__law_first; F.kp
theorem Env.k__law_many {K : PySem.W.Frag} {mg : Str → Option Value} (T : Env K mg) : PySem.W.keepIn K (.ref (He.ga K "_law_many")) = true := let ⟨_, F⟩ := T.f__law_many; F.kp
theorem Env.k__law_lack {K : PySem.W.Frag} {mg : Str → Option Value} (T : Env K mg) : PySem.W.keepIn K (.ref (He.ga K "_law_lack")) = true := let ⟨_, F⟩ := T.f__law_lack; F.kp
theorem Env.k__law_no {K : PySem.W.Frag} {mg : Str → Option Value} (T : Env K mg) : PySem.W.keepIn K (.ref (He.ga K "_law_no")) = true := let ⟨_, F⟩ := T.f__law_no; F.kp
theorem Env.k__law_asked {K : PySem.W.Frag} {mg : Str → Option Value} (T : Env K mg) : PySem.W.keepIn K (.ref (He.ga K "_law_asked")) = true := let ⟨_, F⟩ := T.f__law_asked; F.kp
theorem Env.k__law_told_right {K : PySem.W.Frag} {mg : Str → Option Value} (T : Env K mg) : PySem.W.keepIn K (.ref (He.ga K "_law_told_right")) = true := let ⟨_, F⟩ := T.f__law_told_right; F.kp
theorem Env.k__law_lack_right {K : PySem.W.Frag} {mg : Str → Option Value} (T : Env K mg) : PySem.W.keepIn K (.ref (He.ga K "_law_lack_right")) = true := let ⟨_, F⟩ := T.f__law_lack_right; F.kp
theorem Env.k__law_around {K : PySem.W.Frag} {mg : Str → Option Value} (T : Env K mg) : PySem.W.keepIn K (.ref (He.ga K "_law_around")) = true := let ⟨_, F⟩ := T.f__law_around; F.kp
theorem Env.k__law_all_notes {K : PySem.W.Frag} {mg : Str → Option Value} (T : Env K mg) : PySem.W.keepIn K (.ref (He.ga K "_law_all_notes")) = true := let ⟨_, F⟩ := T.f__law_all_notes; F.kp
section
def sp_NoLine_init (K : PySem.W.Frag) : Sp := fun vs H Q _ => ∃ (a : Addr) (x : V), vs = [.ref a, x] ∧ H a = some (exo a (He.ga K "NoLine") none) ∧ ∀ d, H d = none → d ≠ a → Q .non (upd (upd H d (exd d [("name", x)])) a (exo a (He.ga K "NoLine") (some d)))
theorem fb_NoLine_init {P : Program} {w : World} {K : PySem.W.Frag} {mg : Str → Option Value} {base : Heap} (T : Env K mg) : ∃ fd, FunD K "__init__" "NoLine.__init__" (defArgs s_NoLine_init) (defBody s_NoLine_init) (defScope s_NoLine_init) [] [] (He.ma K (He.ga K "NoLine") "__init__") fd ∧ Fb P w K mg base 1 (He.ma K (He.ga K "NoLine") "__init__") fd ["self", "name"] (sp_NoLine_init K) := by
  obtain ⟨fd, F⟩ := T.f_NoLine_init
  refine ⟨fd, F, fb_of F sc_NoLine_init (fun vs H Q E h => ?_) (fun cdv A outer s H vs Q E hr h => ?_)⟩
  · obtain ⟨a, x, rfl, _⟩ := h
    rfl
  · obtain ⟨a, x, rfl, ha, q⟩ := h
    refine ⟨_, (pss_cons (ps_expr (pe_bxinit baseL (by rfl) T.g_LackError T.bx_LackError (pa_cons (pv 0) (pa_cons pe_str pa_nil))))
      (pss_one (ps_bxst baseL (pv 0) (pv 1)))), ?_⟩
    refine ⟨_, rfl, a, _, _, rfl, by show 1 ≤ 1000; decide, T.ox_NoLine, ha, _, rfl, _, rfl, a, _, rfl, T.ox_NoLine, T.a_NoLine_name, ha, q⟩
theorem ok_NoLine_init {P : Program} {w : World} {K : PySem.W.Frag} {mg : Str → Option Value} {base : Heap} (T : Env K mg) : Fc P w K mg base 1 (He.ma K (He.ga K "NoLine") "__init__") [] (sp_NoLine_init K ) := by
  obtain ⟨fd, D, F⟩ := fb_NoLine_init T
  exact F.all (D.bindsN fun _ _ _ _ _ _ us hl => match us, hl with | [_, _], _ => rfl)
end
section
def sp_is_whole (K : PySem.W.Frag) : Sp := fun vs H Q _ => ∃ x, vs = [x] ∧ Cl K H x ∧ Q (.bl (isW x)) H
theorem fb_is_whole {P : Program} {w : World} {K : PySem.W.Frag} {mg : Str → Option Value} {base : Heap} (T : Env K mg) : ∃ fd, FunD K "is_whole" "is_whole" (defArgs s_is_whole) (defBody s_is_whole) (defScope s_is_whole) [] [] (He.ga K "is_whole") fd ∧ Fb P w K mg base 1 (He.ga K "is_whole") fd ["thing"] (sp_is_whole K) := by
  obtain ⟨fd, F⟩ := T.f_is_whole
  refine ⟨fd, F, fb_of F sc_is_whole (fun vs H Q E h => ?_) (fun cdv A outer s H vs Q E hr h => ?_)⟩
  · obtain ⟨x, rfl, _⟩ := h
    rfl
  · obtain ⟨x, rfl, ⟨t, b, c, ty, h1, h2, e⟩, q⟩ := h
    refine ⟨_, (pss_one (ps_ret (pe_and (pe_callB call_isi (by rfl) T.n_isinstance (by decide +kernel) (pa_cons (pv 0) (pa_cons (pe_bltn (v := .ty "int") (by rfl) T.n_int (by decide +kernel) rfl) pa_nil))) (pe_one (pe_not (pe_callB call_isi (by rfl) T.n_isinstance (by decide +kernel) (pa_cons (pv 0) (pa_cons (pe_bltn (v := .ty "bool") (by rfl) T.n_bool (by decide +kernel) rfl) pa_nil)))))))), ?_⟩
    refine ⟨x, rfl, x, .ty "int", t, _, b, rfl, .ty "int", ty, h1, b, rfl, ?_⟩
    rw [e] at q
    cases b with
    | false => exact q
    | true => exact ⟨x, rfl, x, .ty "bool", t, _, c, rfl, .ty "bool", ty, h2, c, rfl, q⟩
theorem ok_is_whole {P : Program} {w : World} {K : PySem.W.Frag} {mg : Str → Option Value} {base : Heap} (T : Env K mg) : Fc P w K mg base 1 (He.ga K "is_whole") [] (sp_is_whole K ) := by
  obtain ⟨fd, D, F⟩ := fb_is_whole T
  exact F.all (D.bindsN fun _ _ _ _ _ _ us hl => match us, hl with | [_], _ => rfl)
end
section
def sp_is_moment (K : PySem.W.Frag) : Sp := fun vs H Q _ => ∃ x, vs = [x] ∧ Cl K H x ∧ Q (.bl (isM x)) H
theorem fb_is_moment {P : Program} {w : World} {K : PySem.W.Frag} {mg : Str → Option Value} {base : Heap} (T : Env K mg) : ∃ fd, FunD K "is_moment" "is_moment" (defArgs s_is_moment) (defBody s_is_moment) (defScope s_is_moment) [] [] (He.ga K "is_moment") fd ∧ Fb P w K mg base 2 (He.ga K "is_moment") fd ["thing"] (sp_is_moment K) := by
  obtain ⟨fd, F⟩ := T.f_is_moment
  refine ⟨fd, F, fb_of F sc_is_moment (fun vs H Q E h => ?_) (fun cdv A outer s H vs Q E hr h => ?_)⟩
  · obtain ⟨x, rfl, _⟩ := h
    rfl
  · obtain ⟨x, rfl, cl, q⟩ := h
    refine ⟨_, (pss_one (ps_ret (pe_and (c_call (ok_is_whole T) (hr.mono (by decide)) T.g_is_whole T.k_is_whole takes0 (pa_cons (pv 0) pa_nil)) (pe_one (pe_cmpR op_ge (pv 0) pe_int (nomark _)))))), ?_⟩
    refine ⟨x, rfl, x, rfl, cl, isW x, rfl, ?_⟩
    cases x with
    | int i => exact ⟨_, rfl, i, 0, rfl, rfl, q⟩
    | _ => exact q
theorem ok_is_moment {P : Program} {w : World} {K : PySem.W.Frag} {mg : Str → Option Value} {base : Heap} (T : Env K mg) : Fc P w K mg base 2 (He.ga K "is_moment") [] (sp_is_moment K ) := by
  obtain ⟨fd, D, F⟩ := fb_is_moment T
  exact F.all (D.bindsN fun _ _ _ _ _ _ us hl => match us, hl with | [_], _ => rfl)
end
section
def sp_want_moment (K : PySem.W.Frag) : Sp := fun vs H Q E => ∃ x, vs = [x] ∧ Cl K H x ∧ (isM x = true → Q .non H) ∧ (isM x = false → E (.ref (He.ga K "NoTime")) none H)
theorem fb_want_moment {P : Program} {w : World} {K : PySem.W.Frag} {mg : Str → Option Value} {base : Heap} (T : Env K mg) : ∃ fd, FunD K "want_moment" "want_moment" (defArgs s_want_moment) (defBody s_want_moment) (defScope s_want_moment) [] [] (He.ga K "want_moment") fd ∧ FbN P w K mg base 3 (He.ga K "want_moment") fd ["thing"] (sp_want_moment K) := by
  obtain ⟨fd, F⟩ := T.f_want_moment
  refine ⟨fd, F, fbN_of F sc_want_moment (fun vs H Q E h => ?_) (fun cdv A outer s H vs Q E hr h => ?_)⟩
  · obtain ⟨x, rfl, _⟩ := h
    rfl
  · obtain ⟨x, rfl, cl, q, qe⟩ := h
    refine ⟨_, (pss_one (ps_if (pt_not (pt_val (c_call (ok_is_moment T) (hr.mono (by decide)) T.g_is_moment T.k_is_moment takes0 (pa_cons (pv 0) pa_nil))))
      (pss_one (L2N.ps_raise rfl (L2N.takes_of rfl rfl rfl rfl) (L2N.pmk_own PySem.F.excBase_ValueError T.x_NoTime.x T.g_NoTime T.x_NoTime.kp (raises_own T.x_NoTime.sub T.x_NoTime.ty) rfl)))
      pss_nil)), ?_⟩
    refine ⟨x, rfl, x, rfl, cl, isM x, rfl, ?_⟩
    cases e : isM x with
    | true => exact q e
    | false => exact qe e
theorem okN_want_moment {P : Program} {w : World} {K : PySem.W.Frag} {mg : Str → Option Value} {base : Heap} (T : Env K mg) : FcN P w K mg base 3 (He.ga K "want_moment") [] (sp_want_moment K ) := by
  obtain ⟨fd, D, F⟩ := fb_want_moment T
  exact F.all (D.bindsN fun _ _ _ _ _ _ us hl => match us, hl with | [_], _ => rfl)
theorem ok_want_moment {P : Program} {w : World} {K : PySem.W.Frag} {mg : Str → Option Value} {base : Heap} (T : Env K mg) : Fc P w K mg base 3 (He.ga K "want_moment") [] (sp_want_moment K ) := (okN_want_moment T).fc
end
section
def sp_want_day (K : PySem.W.Frag) : Sp := fun vs H Q E => ∃ x, vs = [x] ∧ Cl K H x ∧ (isM x = true → Q .non H) ∧ (isM x = false → E (.ref (He.ga K "NoDays")) none H)
theorem fb_want_day {P : Program} {w : World} {K : PySem.W.Frag} {mg : Str → Option Value} {base : Heap} (T : Env K mg) : ∃ fd, FunD K "want_day" "want_day" (defArgs s_want_day) (defBody s_want_day) (defScope s_want_day) [] [] (He.ga K "want_day") fd ∧ Fb P w K mg base 3 (He.ga K "want_day") fd ["thing"] (sp_want_day K) := by
  obtain ⟨fd, F⟩ := T.f_want_day
  refine ⟨fd, F, fb_of F sc_want_day (fun vs H Q E h => ?_) (fun cdv A outer s H vs Q E hr h => ?_)⟩
  · obtain ⟨x, rfl, _⟩ := h
    rfl
  · obtain ⟨x, rfl, c, q, qe⟩ := h
    refine ⟨_, (pss_one (ps_if (pt_not (pt_val (c_call (ok_is_moment T) (hr.mono (by decide)) T.g_is_moment T.k_is_moment (takes_of rfl rfl rfl rfl) (pa_cons (pv 0) pa_nil))))
      (pss_one (ps_raise rfl (takes_of rfl rfl rfl rfl) (pmk_own PySem.F.excBase_ValueError T.x_NoDays.x T.g_NoDays T.x_NoDays.kp (raises_own T.x_NoDays.sub T.x_NoDays.ty) rfl)))
      pss_nil)), ?_⟩
    refine ⟨_, rfl, x, rfl, c, _, rfl, ?_⟩
    cases e : isM x with
    | true => exact q e
    | false => exact qe e
theorem ok_want_day {P : Program} {w : World} {K : PySem.W.Frag} {mg : Str → Option Value} {base : Heap} (T : Env K mg) : Fc P w K mg base 3 (He.ga K "want_day") [] (sp_want_day K ) := by
  obtain ⟨fd, D, F⟩ := fb_want_day T
  exact F.all (D.bindsN fun _ _ _ _ _ _ us hl => match us, hl with | [_], _ => rfl)
end
section
/-- the signs of a ring -/
def sgn (l : List Nat) : Bool := decide (1 ≤ l.length ∧ l.length ≤ 7) && l.all fun c => c == 48 || c == 49
theorem sgn_in (c : Nat) : inV (.str ⟨#[c]⟩) [.str (Str.ofString "0"), .str (Str.ofString "1")] = (c == 48 || c == 49) := by
  have e : ∀ d : Nat, eqV (.str (SX.S [d])) (.str ⟨#[c]⟩) = (c == d) := fun d => by
    show decide ((SX.S [d]) = SX.S [c]) = (c == d)
    by_cases h : c = d
    · rw [h]
      simp
    · rw [decide_eq_false (fun z => h (by have w : [d] = [c] := SX.S_inj z; injection w with w; exact w.symm))]
      exact (beq_eq_false_iff_ne.mpr h).symm
  show (eqV (.str (SX.S [48])) (.str ⟨#[c]⟩) || (eqV (.str (SX.S [49])) (.str ⟨#[c]⟩) || false)) = _
  rw [e, e, Bool.or_false]
def sp_are_signs (K : PySem.W.Frag) : Sp := fun vs H Q _ => ∃ x, vs = [x] ∧ ((∃ l : List Nat, x = .str (SX.S l) ∧ l.length ≤ 600 ∧ ∀ H', Ex H H' → Q (.bl (sgn l)) H') ∨ (∃ t, TyX K H x t ∧ PySem.W.kitOne K t (.type "str") = some false ∧ Q (.bl false) H))
theorem fb_are_signs {P : Program} {w : World} {K : PySem.W.Frag} {mg : Str → Option Value} {base : Heap} (T : Env K mg) : ∃ fd, FunD K "are_signs" "are_signs" (defArgs s_are_signs) (defBody s_are_signs) (defScope s_are_signs) [] [] (He.ga K "are_signs") fd ∧ Fb P w K mg base 1 (He.ga K "are_signs") fd ["thing"] (sp_are_signs K) := by
  obtain ⟨fd, F⟩ := T.f_are_signs
  refine ⟨fd, F, fb_of F sc_are_signs (fun vs H Q E h => ?_) (fun cdv A outer s H vs Q E hr h => ?_)⟩
  · obtain ⟨x, rfl, _⟩ := h
    rfl
  · obtain ⟨x, rfl, h⟩ := h
    refine ⟨_, (pss_cons (ps_if (PW.pt (pw_or (pt_not (pt_val (pe_callB call_isi (by rfl) T.n_isinstance (by decide +kernel) (pa_cons (pv 0) (pa_cons (pe_bltn (v := .ty "str") (by rfl) T.n_str (by decide +kernel) rfl) pa_nil))))) (pw_or1 (pt_not (pt_chain op_le op_le pe_int (pe_callB call_len (by rfl) T.n_len (by decide +kernel) (pa_cons (pv 0) pa_nil)) (pe_k T.v_MOST_SIGNS))))))
      (pss_one (ps_ret pe_bl))
      pss_nil)
      (pss_one (ps_ret (pe_callB (cr_all rfl) (by rfl) T.n_all (by decide +kernel) (pa_cons (pe_lc (own := [("sign", 1)]) (by rfl) sc_are_signs.nd (pi_str (pv 0)) (blkOk_by (own := [("sign", 1)]) (N := ["thing", "sign"]) (sc := defScope s_are_signs) (by decide +kernel)) (fun _ _ _ _ _ => (pg_name (i := 1) sc_are_signs.nd rfl (Or.inl rfl))) (fun _ _ _ _ _ => pts_nil) (fun _ _ _ _ _ => (pe_cmpR (op_in_seqK K) (pv 1) (pe_tup (pa_cons (pe_k T.v_NOUGHT) (pa_cons (pe_k T.v_ONE) pa_nil))) (by rfl)))) pa_nil))))), ?_⟩
    rcases h with ⟨l, rfl, hl, q⟩ | ⟨t, ty, kt, q⟩
    · have ls : (SX.S l).length ≤ sizeLine := Nat.le_of_lt (small_len (by rw [SX.S_len]; omega))
      refine ⟨_, rfl, .str (SX.S l), .ty "str", _, _, true, rfl, .ty "str", .base (.str _), kit_ty (by decide +kernel), true, rfl, iteF ?_⟩
      refine ⟨_, rfl, _, l.length, rfl, ⟨ls, (SX.S_len l).symm⟩, _, _, rfl, rfl, _, rfl, ?_⟩
      by_cases h1 : 1 ≤ l.length
      · rw [decide_eq_true (show (1 : Int) ≤ (l.length : Nat) by omega)]
        refine ⟨_, _, rfl, rfl, _, rfl, ?_⟩
        by_cases h7 : l.length ≤ 7
        · rw [decide_eq_true (show ((l.length : Nat) : Int) ≤ 7 by omega)]
          refine iteF ?_
          refine ⟨_, rfl, _, rfl, fun D nD => lc_fm L2.walk_str (fun i => some (.bl (l.getD i 0 == 48 || l.getD i 0 == 49))) (fun H' => Ex H H') (fun H' z e => ex_mut e nD) (.refl H) (by show l.toArray.size ≤ 100000; simp; omega) (fun _ _ => trivial) (fun i x H1 H2 acc N hi e hD la y k => ?_) fun H1 e1 d1 => ?_⟩
          · obtain ⟨rfl, c, hc, rfl⟩ := y
            refine ⟨rfl, _, rfl, by show 2 ≤ sizeLine; decide, fun t nt => ?_⟩
            have hDt := fun o => ex_new (o := o) nt _ _ hD
            refine ⟨t, _, rfl, .inr (sq_tup upd_same), rfl, rfl, acc, hDt _, la, ?_⟩
            have e2 : l.getD i 0 = c := by
              have hc2 : l[i]? = some c := by simpa using hc
              rw [List.getD_eq_getElem?_getD, hc2]
              rfl
            have k2 := fun o => k _ (e.trans (ex_new (o := o) nt)) (hDt o)
            have e3 : inV (.str ⟨#[c]⟩) [.str (Str.ofString "0"), .str (Str.ofString "1")] = (l.getD i 0 == 48 || l.getD i 0 == 49) := by
              rw [e2]
              exact sgn_in c
            rw [← e3] at k2
            exact k2 _
          · refine ⟨D, l.map (fun c => c == 48 || c == 49), rfl, sq_lst ?_, ?_⟩
            · rw [d1]
              have e3 := range_map_get l 0 (fun c => V.bl (c == 48 || c == 49))
              have e4 : l.toArray.size = l.length := by simp
              show some (HO.lst (List.filterMap _ (List.range l.toArray.size))) = _
              rw [e4, e3, List.map_map]
              rfl
            · have e5 : (l.map fun c => c == 48 || c == 49).all id = l.all fun c => c == 48 || c == 49 := by
                rw [List.all_map]
                rfl
              rw [e5]
              have z := q H1 e1
              unfold sgn at z
              rw [decide_eq_true ⟨h1, h7⟩, Bool.true_and] at z
              exact z
        · rw [decide_eq_false (show ¬ ((l.length : Nat) : Int) ≤ 7 by omega)]
          have z := q H (.refl H)
          unfold sgn at z
          rw [decide_eq_false (fun y => h7 y.2)] at z
          exact z
      · rw [decide_eq_false (show ¬ (1 : Int) ≤ (l.length : Nat) by omega)]
        have z := q H (.refl H)
        unfold sgn at z
        rw [decide_eq_false (fun y => h1 y.1)] at z
        exact ⟨_, rfl, z⟩
    · exact ⟨_, rfl, x, .ty "str", t, _, false, rfl, .ty "str", ty, kt, false, rfl, q⟩
theorem ok_are_signs {P : Program} {w : World} {K : PySem.W.Frag} {mg : Str → Option Value} {base : Heap} (T : Env K mg) : Fc P w K mg base 1 (He.ga K "are_signs") [] (sp_are_signs K ) := by
  obtain ⟨fd, D, F⟩ := fb_are_signs T
  exact F.all (D.bindsN fun _ _ _ _ _ _ us hl => match us, hl with | [_], _ => rfl)
end
section
theorem ex_made {H : Hp} {x dx : Addr} {o1 o2 : HO} (nx : H x = none) (nd : H dx = none) (ne : dx ≠ x) : Ex H (upd (upd H dx o1) x o2) := fun b o e => by
  rw [upd_ne (ne_of_none e nx), upd_ne (ne_of_none e nd)]
  exact e
end
section
abbrev RingC (K : PySem.W.Frag) : Addr := He.ga K "Ring"
/-- at a a ring of these signs -/
def RingAt (K : PySem.W.Frag) (H : Hp) (a : Addr) (l : List Nat) : Prop := ∃ dx, H a = some (.ins (RingC K) dx [("bits", .str (SX.S l))])
def sp_Ring_init (K : PySem.W.Frag) : Sp := fun vs H Q E => ∃ a dx x, vs = [.ref a, x] ∧ H a = some (.ins (RingC K) dx []) ∧ ((∃ l : List Nat, x = .str (SX.S l) ∧ l.length ≤ 600 ∧ (sgn l = true → ∀ H', Ex H H' → Q .non (upd H' a (.ins (RingC K) dx [("bits", .str (SX.S l))]))) ∧ (sgn l = false → ∀ H', Ex H H' → E (.ref (He.ga K "NoDays")) none H')) ∨
  (∃ t, TyX K H x t ∧ PySem.W.kitOne K t (.type "str") = some false ∧ E (.ref (He.ga K "NoDays")) none H))
theorem fb_Ring_init {P : Program} {w : World} {K : PySem.W.Frag} {mg : Str → Option Value} {base : Heap} (T : Env K mg) : ∃ fd, FunD K "__init__" "Ring.__init__" (defArgs s_Ring_init) (defBody s_Ring_init) (defScope s_Ring_init) [] [] (He.ma K (He.ga K "Ring") "__init__") fd ∧ Fb P w K mg base 2 (He.ma K (He.ga K "Ring") "__init__") fd ["self", "text"] (sp_Ring_init K) := by
  obtain ⟨fd, F⟩ := T.f_Ring_init
  refine ⟨fd, F, fb_of F sc_Ring_init (fun vs H Q E h => ?_) (fun cdv A outer s H vs Q E hr h => ?_)⟩
  · obtain ⟨a, dx, x, rfl, _⟩ := h
    rfl
  · obtain ⟨a, dx, x, rfl, ha, h⟩ := h
    refine ⟨_, (pss_cons (ps_if (pt_not (pt_val (c_call (ok_are_signs T) (hr.mono (by decide)) T.g_are_signs T.k_are_signs (takes_of rfl rfl rfl rfl) (pa_cons (pv 1) pa_nil))))
      (pss_one (ps_raise rfl (takes_of rfl rfl rfl rfl) (pmk_own PySem.F.excBase_ValueError T.x_NoDays.x T.g_NoDays T.x_NoDays.kp (raises_own T.x_NoDays.sub T.x_NoDays.ty) rfl)))
      pss_nil)
      (pss_one (ps_fld (pv 0) (pv 1) rfl))), ?_⟩
    rcases h with ⟨l, rfl, hl, q, qe⟩ | ⟨t, ty, kt, qe⟩
    · refine ⟨_, rfl, _, rfl, .inl ⟨l, rfl, hl, fun H1 e1 => ⟨_, rfl, ?_⟩⟩⟩
      cases e : sgn l with
      | false => exact qe e H1 e1
      | true =>
        refine iteF ?_
        refine ⟨_, rfl, _, rfl, a, _, dx, [], rfl, e1 _ _ ha, T.c_Ring, T.a_Ring_bits, by decide, ?_⟩
        exact q e H1 e1
    · exact ⟨_, rfl, _, rfl, .inr ⟨t, ty, kt, _, rfl, qe⟩⟩
theorem ring_new {K : PySem.W.Frag} {H : Hp} {x dx : Addr} {l : List Nat} {Q : VK} {E : XK} (nx : H x = none) (nd : H dx = none) (ne : dx ≠ x) (hs : sgn l = true) (q : ∀ H', Ex H H' → RingAt K H' x l → Q .non H') :
    sp_Ring_init K [.ref x, .str (SX.S l)] (upd (upd H dx (.own x)) x (.ins (RingC K) dx [])) Q E := by
  have h7 : 1 ≤ l.length ∧ l.length ≤ 7 := of_decide_eq_true (Bool.and_eq_true_iff.mp hs).1
  refine ⟨x, dx, _, rfl, upd_same, .inl ⟨l, rfl, by omega, fun _ H' e => q _ ?_ ⟨dx, upd_same⟩, fun z => absurd (hs.symm.trans z) Bool.noConfusion⟩⟩
  exact ex_mut ((ex_made nx nd ne).trans e) nx
theorem ok_Ring_init {P : Program} {w : World} {K : PySem.W.Frag} {mg : Str → Option Value} {base : Heap} (T : Env K mg) : Fc P w K mg base 2 (He.ma K (He.ga K "Ring") "__init__") [] (sp_Ring_init K ) := by
  obtain ⟨fd, D, F⟩ := fb_Ring_init T
  exact F.all (D.bindsN fun _ _ _ _ _ _ us hl => match us, hl with | [_, _], _ => rfl)
end
section
theorem sgn_at {l : List Nat} {d : Nat} (hs : sgn l = true) : ∃ c, atI l (((d : Nat) : Int) % ((l.length : Nat) : Int)) = some c ∧ decide (V.str ⟨#[c]⟩ = V.str (Str.ofString "1")) = (l.getD (d % l.length) 0 == 49) := by
  have h7 : 1 ≤ l.length ∧ l.length ≤ 7 := of_decide_eq_true (Bool.and_eq_true_iff.mp hs).1
  have lt : d % l.length < l.length := Nat.mod_lt _ (by omega)
  refine ⟨l[d % l.length], ?_, ?_⟩
  · rw [show ((d : Nat) : Int) % ((l.length : Nat) : Int) = ((d % l.length : Nat) : Int) by omega]
    exact atI_nat (List.getElem?_eq_getElem lt)
  · have e1 : l.getD (d % l.length) 0 = l[d % l.length] := by simp [List.getD, lt]
    rw [e1]
    by_cases h : l[d % l.length] = 49
    · rw [h]
      rfl
    · rw [decide_eq_false (fun y => h (by injection y with y; have w : [l[d % l.length]] = [49] := SX.S_inj y; injection w))]
      exact (beq_eq_false_iff_ne.mpr h).symm
def sp_Ring_rings (K : PySem.W.Frag) : Sp := fun vs H Q E => ∃ a l x, vs = [.ref a, x] ∧ RingAt K H a l ∧ sgn l = true ∧ Cl K H x ∧ (∀ d : Nat, x = .int d → Q (.bl (l.getD (d % l.length) 0 == 49)) H) ∧ (isM x = false → E (.ref (He.ga K "NoDays")) none H)
theorem fb_Ring_rings {P : Program} {w : World} {K : PySem.W.Frag} {mg : Str → Option Value} {base : Heap} (T : Env K mg) : ∃ fd, FunD K "rings" "Ring.rings" (defArgs s_Ring_rings) (defBody s_Ring_rings) (defScope s_Ring_rings) [] [] (He.ma K (He.ga K "Ring") "rings") fd ∧ Fb P w K mg base 4 (He.ma K (He.ga K "Ring") "rings") fd ["self", "day"] (sp_Ring_rings K) := by
  obtain ⟨fd, F⟩ := T.f_Ring_rings
  refine ⟨fd, F, fb_of F sc_Ring_rings (fun vs H Q E h => ?_) (fun cdv A outer s H vs Q E hr h => ?_)⟩
  · obtain ⟨a, l, x, rfl, _⟩ := h
    rfl
  · obtain ⟨a, l, x, rfl, ⟨dx, ha⟩, hs, c, q, qe⟩ := h
    refine ⟨_, (pss_cons (ps_expr (c_call (ok_want_day T) (hr.mono (by decide)) T.g_want_day T.k_want_day (takes_of rfl rfl rfl rfl) (pa_cons (pv 1) pa_nil)))
      (pss_one (ps_ret (pe_cmpR op_eq (pe_ix ix_str (pe_fld (pv 0) (by rfl)) (pe_op op_mod (pv 1) (pe_callB call_len (by rfl) T.n_len (by decide +kernel) (pa_cons (pe_fld (pv 0) (by rfl)) pa_nil))) (fun _ _ => rfl)) (pe_k T.v_ONE) (nomark _))))), ?_⟩
    refine ⟨_, rfl, x, rfl, c, fun e => ?_, qe⟩
    obtain ⟨i, rfl, i0⟩ := isM_w e
    obtain ⟨d, rfl⟩ := Int.eq_ofNat_of_zero_le i0
    have h7 : 1 ≤ l.length ∧ l.length ≤ 7 := of_decide_eq_true (Bool.and_eq_true_iff.mp hs).1
    have ls : (SX.S l).length ≤ sizeLine := Nat.le_of_lt (small_len (by rw [SX.S_len]; omega))
    refine ⟨_, rfl, a, _, dx, _, _, rfl, ha, T.c_Ring, T.a_Ring_bits, rfl, ?_⟩
    refine ⟨_, rfl, _, rfl, a, _, dx, _, _, rfl, ha, T.c_Ring, T.a_Ring_bits, rfl, _, l.length, rfl, ⟨ls, (SX.S_len l).symm⟩, _, _, rfl, rfl, (by show (0 : Int) < l.length; omega), ?_⟩
    have lt : d % l.length < l.length := Nat.mod_lt _ (by omega)
    refine ⟨_, _, l[d % l.length], rfl, rfl, ls, ?_, rfl, ?_⟩
    · show atI l (((d : Nat) : Int) % ((l.length : Nat) : Int)) = _
      rw [show ((d : Nat) : Int) % ((l.length : Nat) : Int) = ((d % l.length : Nat) : Int) by omega]
      exact atI_nat (List.getElem?_eq_getElem lt)
    · have z := q d rfl
      have e1 : l.getD (d % l.length) 0 = l[d % l.length] := by simp [List.getD, lt]
      rw [e1] at z
      have e2 : decide (V.str ⟨#[l[d % l.length]]⟩ = V.str (Str.ofString "1")) = (l[d % l.length] == 49) := by
        by_cases h : l[d % l.length] = 49
        · rw [h]
          rfl
        · rw [decide_eq_false (fun y => h (by injection y with y; have w : [l[d % l.length]] = [49] := SX.S_inj y; injection w))]
          exact (beq_eq_false_iff_ne.mpr h).symm
      rw [e2]
      exact z
theorem ok_Ring_rings {P : Program} {w : World} {K : PySem.W.Frag} {mg : Str → Option Value} {base : Heap} (T : Env K mg) : Fc P w K mg base 4 (He.ma K (He.ga K "Ring") "rings") [] (sp_Ring_rings K ) := by
  obtain ⟨fd, D, F⟩ := fb_Ring_rings T
  exact F.all (D.bindsN fun _ _ _ _ _ _ us hl => match us, hl with | [_, _], _ => rfl)
end
section
/-- whole numbers as values -/
def natV (ns : List Nat) : List V := ns.map fun n : Nat => V.int (n : Int)
/-- in order -/
def srtN (ns : List Nat) : List Nat := (srt (ns.map fun n : Nat => (n : Int))).map Int.toNat
theorem nat_int (ns : List Nat) : natV ns = (ns.map fun n : Nat => (n : Int)).map V.int := by
  unfold natV
  rw [List.map_map]
  rfl
theorem inV_nat (d : Nat) (ns : List Nat) : inV (.int (d : Int)) (natV ns) = decide (d ∈ ns) := by
  rw [nat_int, inV_int]
  apply decide_eq_decide.mpr
  constructor
  · intro h
    obtain ⟨n, hn, e⟩ := List.mem_map.mp h
    have : n = d := by omega
    exact this ▸ hn
  · intro h
    exact List.mem_map.mpr ⟨d, h, rfl⟩
theorem flat_nat (ns : List Nat) : (natV ns).all flatV = true := by
  rw [nat_int]
  exact flat_ints _
theorem mem_srtN (d : Nat) (ns : List Nat) : decide (d ∈ srtN ns) = decide (d ∈ ns) := by
  apply decide_eq_decide.mpr
  unfold srtN
  constructor
  · intro h
    obtain ⟨i, hi, e⟩ := List.mem_map.mp h
    obtain ⟨n, hn, e2⟩ := List.mem_map.mp ((srt_perm _).subset hi)
    have : n = d := by omega
    exact this ▸ hn
  · intro h
    exact List.mem_map.mpr ⟨(d : Int), (srt_perm _).symm.subset (List.mem_map.mpr ⟨d, h, rfl⟩), by simp⟩
theorem srtN_mem (d : Nat) (ns : List Nat) : d ∈ srtN ns ↔ d ∈ ns := decide_eq_decide.mp (mem_srtN d ns)
theorem natV_len (ns : List Nat) : (natV ns).length = ns.length := by
  unfold natV
  rw [List.length_map]
theorem srtN_len (ns : List Nat) : (srtN ns).length = ns.length := by
  unfold srtN
  rw [List.length_map, (srt_perm _).length_eq, List.length_map]
theorem natV_srt (ns : List Nat) : (srt (ns.map fun n : Nat => (n : Int))).map V.int = natV (srtN ns) := by
  unfold natV srtN
  rw [List.map_map]
  apply List.map_congr_left
  intro i hi
  obtain ⟨n, _, e⟩ := List.mem_map.mp ((srt_perm _).subset hi)
  show V.int i = V.int ((i.toNat : Nat) : Int)
  rw [Int.toNat_of_nonneg (by omega)]
theorem cut1 (xs : List V) : cutV xs (some 1) none = xs.drop 1 := by
  unfold cutV
  rw [HT.sIx_none, show (some (1 : Int)) = some ((1 : Nat) : Int) from rfl, HT.sIx_nat]
  cases xs with
  | nil => rfl
  | cons x r =>
    rw [show min 1 (x :: r).length = 1 by simp]
    exact List.take_of_length_le (by simp)
end
section
/-- the days of a list that is handed in, none where they are none -/
def dayNum : V → Nat
  | .int i => i.toNat
  | _ => 0
theorem natV_isM (ns : List Nat) : (natV ns).all isM = true := by
  rw [List.all_eq_true]
  intro x hx
  obtain ⟨n, _, rfl⟩ := List.mem_map.mp hx
  exact isM_nat n
theorem natV_num (ns : List Nat) : (natV ns).map dayNum = ns := by
  unfold natV
  rw [List.map_map]
  have : (dayNum ∘ fun n : Nat => V.int (n : Int)) = id := funext fun n => by simp [dayNum]
  rw [this, List.map_id]
theorem isM_natV : ∀ {xs : List V}, xs.all isM = true → xs = natV (xs.map dayNum)
  | [], _ => rfl
  | x :: xs, h => by
    obtain ⟨h1, h2⟩ := Bool.and_eq_true_iff.mp (show (isM x && xs.all isM) = true from h)
    obtain ⟨i, rfl, i0⟩ := isM_w h1
    obtain ⟨n, rfl⟩ := Int.eq_ofNat_of_zero_le i0
    have ih := isM_natV h2
    show V.int (n : Nat) :: xs = V.int (((Int.ofNat n).toNat : Nat) : Int) :: natV (xs.map dayNum)
    rw [← ih]
    rfl
/-- neighbours that are alike -/
def alikeN (l : List Nat) : List Bool := (l.zip (l.drop 1)).map fun p => decide (p.1 = p.2)
theorem alike_any {l : List Nat} (h : l.Pairwise (· ≤ ·)) : (alikeN l).any id = !decide l.Nodup := by
  induction l with
  | nil => rfl
  | cons a l ih =>
    obtain ⟨h1, h2⟩ := List.pairwise_cons.mp h
    have ih := ih h2
    cases l with
    | nil => rfl
    | cons b r =>
      have e : alikeN (a :: b :: r) = decide (a = b) :: alikeN (b :: r) := rfl
      rw [e, List.any_cons, ih]
      by_cases c : a = b
      · have nn : ¬ (a :: b :: r).Nodup := fun z => (List.pairwise_cons.mp z).1 b List.mem_cons_self c
        rw [decide_eq_false nn, decide_eq_true c]
        rfl
      · have iff : (a :: b :: r).Nodup ↔ (b :: r).Nodup := by
          refine ⟨fun z => (List.pairwise_cons.mp z).2, fun z => List.pairwise_cons.mpr ⟨fun x hx ex => ?_, z⟩⟩
          subst ex
          have hb := h1 b List.mem_cons_self
          rcases List.mem_cons.mp hx with hx | hx
          · exact c hx
          · have := (List.pairwise_cons.mp h2).1 a hx
            omega
        rw [decide_eq_false c, show decide (a :: b :: r).Nodup = decide (b :: r).Nodup from decide_eq_decide.mpr iff]
        rfl
theorem srtN_le (ns : List Nat) : (srtN ns).Pairwise (· ≤ ·) := by
  unfold srtN
  refine List.pairwise_map.mpr ((srt_sorted _).imp fun {a b} h => ?_)
  omega
theorem srtN_nodup (ns : List Nat) : decide (srtN ns).Nodup = decide ns.Nodup := by
  apply decide_eq_decide.mpr
  have p : (srtN ns).Perm ns := by
    unfold srtN
    have := (srt_perm (ns.map fun n : Nat => (n : Int))).map Int.toNat
    rw [List.map_map] at this
    have e : (Int.toNat ∘ fun n : Nat => (n : Int)) = id := funext fun n => by simp
    rw [e, List.map_id] at this
    exact this
  exact p.nodup_iff
end
section
/-- a list of days that is handed in: None, a list, a tuple -/
def DayL (K : PySem.W.Frag) (H : Hp) (x : V) (ns : List Nat) : Prop := (x = .non ∧ ns = []) ∨ (∃ a, x = .ref a ∧ ((H a = some (.lst (natV ns))) ∨ (H a = some (.tup (natV ns)))) ∧ ns.length ≤ 8 ∧ ns.Nodup)
def dayList (xs : List V) : Option (List Nat) := if (decide (xs.length ≤ 8) && xs.all isM && decide (xs.map dayNum).Nodup) = true then some (xs.map dayNum) else none
/-- what is handed in for days, and what it tells -/
def DayG (K : PySem.W.Frag) (H : Hp) (x : V) (r : Option (List Nat)) : Prop := (x = .non ∧ r = some []) ∨ (∃ a xs, x = .ref a ∧ (H a = some (.lst xs) ∨ H a = some (.tup xs)) ∧ xs.length ≤ 10000 ∧ (∀ y ∈ xs, Cl K H y) ∧ r = dayList xs) ∨ (x ≠ .non ∧ (∃ t, TyX K H x t ∧ PySem.W.kitAny K t [.type "list", .type "tuple"] = some false) ∧ r = none)
theorem dayList_nat (ns : List Nat) : dayList (natV ns) = if decide (ns.length ≤ 8) && decide ns.Nodup then some ns else none := by
  unfold dayList
  rw [natV_isM, natV_num, natV_len, Bool.and_true]
theorem DayL.gen {K : PySem.W.Frag} {H : Hp} {x : V} {ns : List Nat} (h : DayL K H x ns) : DayG K H x (some ns) := by
  rcases h with ⟨h1, h2⟩ | ⟨a, h1, h2, h3, h4⟩
  · exact .inl ⟨h1, by rw [h2]⟩
  · refine .inr (.inl ⟨a, natV ns, h1, h2, by rw [natV_len]; omega, fun y hy => ?_, ?_⟩)
    · obtain ⟨n, _, rfl⟩ := List.mem_map.mp hy
      exact cl_int _
    · rw [dayList_nat, decide_eq_true h3, decide_eq_true h4]
      rfl
theorem DayG.mono {K : PySem.W.Frag} {H H' : Hp} {x : V} {r : Option (List Nat)} (h : DayG K H x r) (e : Ex H H') : DayG K H' x r := by
  rcases h with h | ⟨a, xs, h1, h2, h3, h4, h5⟩ | ⟨h1, ⟨t, h2, h3⟩, h4⟩
  · exact .inl h
  · exact .inr (.inl ⟨a, xs, h1, h2.imp (e _ _) (e _ _), h3, fun y hy => (h4 y hy).mono e, h5⟩)
  · exact .inr (.inr ⟨h1, ⟨t, tyX_mono e h2, h3⟩, h4⟩)
def sp_told_days (K : PySem.W.Frag) : Sp := fun vs H Q E => ∃ x r, vs = [x] ∧ DayG K H x r ∧ (∀ ns, r = some ns → ∀ p H', Ex H H' → H p = none → H' p = some (.tup (natV (srtN ns))) → Q (.ref p) H') ∧ (r = none → ∀ H', Ex H H' → E (.ref (He.ga K "NoDays")) none H')
theorem fb_told_days {P : Program} {w : World} {K : PySem.W.Frag} {mg : Str → Option Value} {base : Heap} (T : Env K mg) : ∃ fd, FunD K "told_days" "told_days" (defArgs s_told_days) (defBody s_told_days) (defScope s_told_days) [] [] (He.ga K "told_days") fd ∧ Fb P w K mg base 4 (He.ga K "told_days") fd ["thing"] (sp_told_days K) := by
  obtain ⟨fd, F⟩ := T.f_told_days
  refine ⟨fd, F, fb_of F sc_told_days (fun vs H Q E h => ?_) (fun cdv A outer s H vs Q E hr h => ?_)⟩
  · obtain ⟨x, ns, rfl, _⟩ := h
    rfl
  · obtain ⟨x, r, rfl, hx, q, qe⟩ := h
    refine ⟨_, (pss_cons (ps_if (pt_cmpR op_isN (pv 0) pe_non (nomark _))
      (pss_one (ps_ret (pe_tup pa_nil)))
      pss_nil)
      (pss_cons (ps_if (PW.pt (pw_or (pt_not (pt_val (pe_callB call_isiT (by rfl) T.n_isinstance (by decide +kernel) (pa_cons (pv 0) (pa_cons (pe_tup (pa_cons (pe_bltn (v := .ty "list") (by rfl) T.n_list (by decide +kernel) rfl) (pa_cons (pe_bltn (v := .ty "tuple") (by rfl) T.n_tuple (by decide +kernel) rfl) pa_nil))) pa_nil))))) (pw_or1 (pt_cmpR op_gt (pe_callB call_len (by rfl) T.n_len (by decide +kernel) (pa_cons (pv 0) pa_nil)) (pe_k T.v_MOST_DAYS) (nomark _)))))
      (pss_one (ps_raise rfl (takes_of rfl rfl rfl rfl) (pmk_own PySem.F.excBase_ValueError T.x_NoDays.x T.g_NoDays T.x_NoDays.kp (raises_own T.x_NoDays.sub T.x_NoDays.ty) rfl)))
      pss_nil)
      (Evl.pss_cut (ps_for (passes_of rfl) rfl (pi_seq (pv 0)) (pg_name (i := 1) sc_told_days.nd rfl (Or.inl rfl))
      (pss_one (ps_expr (c_call (ok_want_day T) (hr.mono (by decide)) T.g_want_day T.k_want_day (takes_of rfl rfl rfl rfl) (pa_cons (pv 1) pa_nil)))))
      (pss_cons (ps_set (i := 2) sc_told_days.nd rfl (Or.inl rfl) (pe_callTy call_tuple_of (by rfl) T.n_tuple (by decide +kernel) (pa_cons (pe_callB (cr_sortedA K) (by rfl) T.n_sorted (by decide +kernel) (pa_cons (pv 0) pa_nil)) pa_nil)))
      (pss_cons (ps_if (pt_val (pe_callB (cr_any rfl) (by rfl) T.n_any (by decide +kernel) (pa_cons (pe_lc (own := [("one", 3), ("other", 4)]) (by rfl) sc_told_days.nd (RZ.pi_zipA (by rfl) T.n_zip (pa_cons (pv 2) (pa_cons (pe_slice sl_tupA (pv 2) (po_some pe_int) po_none) pa_nil))) (blkOk_by (own := [("one", 3), ("other", 4)]) (N := ["thing", "day", "found", "one", "other"]) (sc := defScope s_told_days) (by decide +kernel)) (fun _ _ _ _ _ => (pg_tupK K (n := 2) rfl (pgs_cons (pg_name (i := 3) sc_told_days.nd rfl (Or.inl rfl)) (pgs_cons (pg_name (i := 4) sc_told_days.nd rfl (Or.inl rfl)) pgs_nil)))) (fun _ _ _ _ _ => pts_nil) (fun _ _ _ _ _ => (pe_cmpR op_eq (pv 3) (pv 4) (nomark _)))) pa_nil)))
      (pss_one (ps_raise rfl (takes_of rfl rfl rfl rfl) (pmk_own PySem.F.excBase_ValueError T.x_NoDays.x T.g_NoDays T.x_NoDays.kp (raises_own T.x_NoDays.sub T.x_NoDays.ty) rfl)))
      pss_nil)
      (pss_one (ps_ret (pv 2)))))))), ?_⟩
    rcases hx with ⟨rfl, rfl⟩ | ⟨a, xs, rfl, hl, lx, hc, er⟩ | ⟨nx, ⟨t, ty, kt⟩, rfl⟩
    · refine ⟨_, rfl, rfl, _, rfl, iteT ?_⟩
      refine ⟨by show 0 ≤ sizeLine; decide, fun p np => q [] rfl p _ (ex_new np) np ?_⟩
      have e : srtN [] = [] := List.eq_nil_of_length_eq_zero (by rw [srtN_len]; rfl)
      rw [upd_same, e]
      rfl
    · refine ⟨_, rfl, rfl, _, rfl, iteF ?_⟩
      refine ⟨_, rfl, by show 2 ≤ sizeLine; decide, fun tp ntp => ?_⟩
      have X1 := ex_new (o := .tup [.ty "list", .ty "tuple"]) ntp
      have ty : ∃ t, TyX K (upd H tp (.tup [.ty "list", .ty "tuple"])) (.ref a) t ∧ PySem.W.kitAny K t [.type "list", .type "tuple"] = some true := by
        rcases hl with h | h
        · exact ⟨_, .base (.lst (X1 _ _ h)), kitAny_cons (b := true) (kit_ty (by decide +kernel)) (fun z => nomatch z) (fun _ => rfl)⟩
        · exact ⟨_, .base (.tup (X1 _ _ h)), kitAny_cons (b := false) (kit_ty (by decide +kernel)) (fun _ => kitAny_cons (b := true) (kit_ty (by decide +kernel)) (fun z => nomatch z) (fun _ => rfl)) (by decide)⟩
      obtain ⟨t, ty, kt⟩ := ty
      have sq : ∀ {H' : Hp}, Ex H H' → SqL K H' a xs ∨ SqT K H' a xs := fun {H'} e => by
        rcases hl with h | h
        · exact .inl (sq_lst (e _ _ h))
        · exact .inr (sq_tup (e _ _ h))
      refine ⟨.ref a, tp, _, t, _, true, rfl, upd_same, .cons (.ty "list") (.cons (.ty "tuple") .nil), ty, kt, true, rfl, iteF ?_⟩
      refine ⟨_, rfl, _, xs.length, rfl, ?_, _, _, rfl, rfl, _, rfl, ?_⟩
      · rcases sq X1 with h | h
        · exact .inl ⟨_, h, rfl⟩
        · exact .inr ⟨_, h, rfl⟩
      by_cases l8 : 8 < xs.length
      · rw [decide_eq_true (show (8 : Int) < ((xs.length : Nat) : Int) by omega)]
        refine qe ?_ _ X1
        rw [er]
        unfold dayList
        rw [decide_eq_false (show ¬ xs.length ≤ 8 by omega)]
        rfl
      rw [decide_eq_false (show ¬ (8 : Int) < ((xs.length : Nat) : Int) by omega)]
      refine iteF ?_
      have H1d : ∀ y ∈ xs, Cl K (upd H tp (.tup [.ty "list", .ty "tuple"])) y := fun y hy => (hc y hy).mono X1
      refine ⟨fun σ' H' => H' = upd H tp (.tup [.ty "list", .ty "tuple"]) ∧ xs.all isM = true ∧ ∃ v, σ' = [some (.ref a), v, none, none, none], ?_, ?_⟩
      · have stp : ∀ (i : Nat) (x : V) (σ : L2.St) (H' : Hp) (D : Ends), xs[i]? = some x → (H' = upd H tp (.tup [.ty "list", .ty "tuple"]) ∧ (xs.take i).all isM = true ∧ ∃ v, σ = [some (.ref a), v, none, none, none]) →
            sp_want_day K [x] H' (fun _ H2 => H2 = upd H tp (.tup [.ty "list", .ty "tuple"]) ∧ (xs.take (i + 1)).all isM = true ∧ ∃ v, (σ.set 1 (some x)) = [some (.ref a), v, none, none, none]) (fun c d H' => E c d H') := fun i x σ H' D hx ⟨e1, e2, v, e3⟩ => by
          subst e1 e3
          refine ⟨x, rfl, H1d x (List.mem_of_getElem? hx), fun hm => ⟨rfl, ?_, _, rfl⟩, fun hm => qe ?_ _ X1⟩
          · rw [take_snoc hx, List.all_append, e2]
            simp [hm]
          · rw [er]
            unfold dayList
            have : xs.all isM = false := by
              rw [List.all_eq_false]
              exact ⟨x, List.mem_of_getElem? hx, by rw [hm]; decide⟩
            rw [this, Bool.and_false, Bool.false_and]
            rfl
        have fin : ∀ (σ : L2.St) (H' : Hp), (H' = upd H tp (.tup [.ty "list", .ty "tuple"]) ∧ (xs.take xs.length).all isM = true ∧ ∃ v, σ = [some (.ref a), v, none, none, none]) → H' = upd H tp (.tup [.ty "list", .ty "tuple"]) ∧ xs.all isM = true ∧ ∃ v, σ = [some (.ref a), v, none, none, none] := fun σ H' h => by
          rw [List.take_length] at h
          exact h
        rcases hl with h | h
        · refine .inl ⟨_, rfl, a, rfl, ⟨_, sq_lst (X1 _ _ h)⟩, for_list (fun i σ H' => H' = upd H tp (.tup [.ty "list", .ty "tuple"]) ∧ (xs.take i).all isM = true ∧ ∃ v, σ = [some (.ref a), v, none, none, none]) ⟨rfl, rfl, _, rfl⟩ (fun i σ H' _ e => by rw [e.1]; exact sq_lst (X1 _ _ h)) ?_ fin⟩
          intro i x σ H' hx p
          obtain ⟨e1, e2, v, e3⟩ := id p
          have := stp i x σ H' { nx := fun _ _ => True, rt := fun _ _ => True } hx p
          subst e3
          exact ⟨_, rfl, this⟩
        · refine .inr ⟨_, rfl, a, rfl, ⟨_, sq_tup (X1 _ _ h)⟩, for_tup (fun i σ H' => H' = upd H tp (.tup [.ty "list", .ty "tuple"]) ∧ (xs.take i).all isM = true ∧ ∃ v, σ = [some (.ref a), v, none, none, none]) ⟨rfl, rfl, _, rfl⟩ (fun i σ H' _ e => by rw [e.1]; exact sq_tup (X1 _ _ h)) ?_ fin⟩
          intro i x σ H' hx p
          obtain ⟨e1, e2, v, e3⟩ := id p
          have := stp i x σ H' { nx := fun _ _ => True, rt := fun _ _ => True } hx p
          subst e3
          exact ⟨_, rfl, this⟩
      rintro σ' H1 ⟨rfl, hM, v, rfl⟩
      have exs := isM_natV hM
      generalize xs.map dayNum = ns at exs
      subst exs
      rw [dayList_nat] at er
      rw [natV_len] at l8
      rw [decide_eq_true (show ns.length ≤ 8 by omega), Bool.true_and] at er
      refine ⟨_, rfl, a, ns.map (fun n : Nat => (n : Int)), rfl, by rw [← nat_int]; exact sq X1, fun p1 np1 => ?_⟩
      rw [natV_srt]
      refine ⟨p1, _, rfl, .inl ⟨sq_lst upd_same, fun l nl => ?_⟩⟩
      have X3 := (X1.trans (ex_new (o := .lst (natV (srtN ns))) np1)).trans (ex_new (o := .tup (natV (srtN ns))) nl)
      have nl0 : H l = none := ex_fresh (X1.trans (ex_new np1)) nl
      have hl3 : upd (upd (upd H tp (.tup [.ty "list", .ty "tuple"])) p1 (.lst (natV (srtN ns)))) l (.tup (natV (srtN ns))) l = some (.tup (natV (srtN ns))) := upd_same
      generalize upd (upd (upd H tp (.tup [.ty "list", .ty "tuple"])) p1 (.lst (natV (srtN ns)))) l (.tup (natV (srtN ns))) = H3 at X3 hl3 ⊢
      refine ⟨_, rfl, _, rfl, _, rfl, ?_⟩
      dsimp only [tNoPart]
      refine slA_of (sq_tup hl3) fun b2 H4 X4 hb2 => ?_
      rw [cut1] at hb2
      have ed : (natV (srtN ns)).drop 1 = natV ((srtN ns).drop 1) := by
        unfold natV
        rw [List.map_drop]
      rw [ed] at hb2
      have sl := srtN_len ns
      refine ⟨l, b2, natV (srtN ns), natV ((srtN ns).drop 1), rfl, .inr ⟨sq_tup (X4 _ _ hl3), hb2, fun D nD => lc_zip (srtN ns) ((srtN ns).drop 1) (fun n : Nat => V.int n) (fun n : Nat => V.int n) (walk_zipT rfl) (by rw [List.length_map, List.length_map]) (fun x y => some (.bl (decide (x = y)))) (fun H' => Ex H4 H') (fun H' z e => ex_mut e nD) (.refl _) (by omega) (fun H' e => ⟨sq_tup (e _ _ (X4 _ _ hl3)), ex_sqt e hb2⟩) (fun i x y u H5 acc N hx hy X5 nu hA la k => ?_) fun H5 X5 d5 => ?_⟩⟩
      · have hA2 := fun o => ex_new (o := o) nu _ _ hA
        refine ⟨u, _, rfl, sq_tup upd_same, rfl, _, _, rfl, _, _, rfl, rfl, rfl, _, rfl, _, rfl, rfl, acc, hA2 _, la, ?_⟩
        have eq : decide (V.int ((x : Nat) : Int) = V.int ((y : Nat) : Int)) = decide (x = y) := decide_eq_decide.mpr ⟨fun z => by injection z with z; omega, fun z => by rw [z]⟩
        rw [eq]
        exact k _ (X5.trans (ex_new nu)) (hA2 _)
      · have eb : ((srtN ns).zip ((srtN ns).drop 1)).filterMap (fun p => some (V.bl (decide (p.1 = p.2)))) = (alikeN (srtN ns)).map V.bl := by
          unfold alikeN
          rw [List.filterMap_eq_map', List.map_map]
          rfl
        rw [eb] at d5
        refine ⟨D, alikeN (srtN ns), rfl, sq_lst d5, ?_⟩
        rw [alike_any (srtN_le ns), srtN_nodup]
        have X := (X3.trans X4).trans X5
        by_cases nd : ns.Nodup
        · rw [decide_eq_true nd] at er ⊢
          refine ⟨false, rfl, iteF ?_⟩
          exact ⟨_, rfl, q ns er l H5 X nl0 ((X4.trans X5) _ _ hl3)⟩
        · rw [decide_eq_false nd] at er ⊢
          exact ⟨true, rfl, qe er _ X⟩
    · refine ⟨_, rfl, rfl, _, rfl, ?_⟩
      rw [decide_eq_false nx]
      refine iteF ?_
      refine ⟨_, rfl, by show 2 ≤ sizeLine; decide, fun tp ntp => ?_⟩
      have X1 := ex_new (o := .tup [.ty "list", .ty "tuple"]) ntp
      exact ⟨x, tp, _, t, _, false, rfl, upd_same, .cons (.ty "list") (.cons (.ty "tuple") .nil), tyX_mono X1 ty, kt, false, rfl, qe rfl _ X1⟩
theorem ok_told_days {P : Program} {w : World} {K : PySem.W.Frag} {mg : Str → Option Value} {base : Heap} (T : Env K mg) : Fc P w K mg base 4 (He.ga K "told_days") [] (sp_told_days K ) := by
  obtain ⟨fd, D, F⟩ := fb_told_days T
  exact F.all (D.bindsN fun _ _ _ _ _ _ us hl => match us, hl with | [_], _ => rfl)
end
section
def optV : Option Nat → V
  | none => .non
  | some n => .int (n : Int)
/-- a last day as it is told: r what it is, none where it is none -/
def TillG (K : PySem.W.Frag) (H : Hp) (x : V) (s : Nat) (r : Option (Option Nat)) : Prop := (x = .non ∧ r = some none) ∨ (x ≠ .non ∧ Cl K H x ∧ ((∃ n : Nat, x = .int n ∧ r = if s ≤ n then some (some n) else none) ∨ (isM x = false ∧ r = none)))
def sp_want_till (K : PySem.W.Frag) : Sp := fun vs H Q E => ∃ (s : Nat) (x : V) (r : Option (Option Nat)), vs = [.int s, x] ∧ TillG K H x s r ∧ (r ≠ none → Q .non H) ∧ (r = none → E (.ref (He.ga K "NoDays")) none H)
theorem fb_want_till {P : Program} {w : World} {K : PySem.W.Frag} {mg : Str → Option Value} {base : Heap} (T : Env K mg) : ∃ fd, FunD K "want_till" "want_till" (defArgs s_want_till) (defBody s_want_till) (defScope s_want_till) [] [] (He.ga K "want_till") fd ∧ Fb P w K mg base 4 (He.ga K "want_till") fd ["since", "till"] (sp_want_till K) := by
  obtain ⟨fd, F⟩ := T.f_want_till
  refine ⟨fd, F, fb_of F sc_want_till (fun vs H Q E h => ?_) (fun cdv A outer s H vs Q E hr h => ?_)⟩
  · obtain ⟨s, x, r, rfl, _⟩ := h
    rfl
  · obtain ⟨s, x, r, rfl, ht, q, qe⟩ := h
    refine ⟨_, (pss_one (ps_if (pt_cmpR op_notN (pv 1) pe_non (nomark _))
      (pss_cons (ps_expr (c_call (ok_want_day T) (hr.mono (by decide)) T.g_want_day T.k_want_day (takes_of rfl rfl rfl rfl) (pa_cons (pv 1) pa_nil)))
      (pss_one (ps_if (pt_cmpR op_lt (pv 1) (pv 0) (nomark _))
      (pss_one (ps_raise rfl (takes_of rfl rfl rfl rfl) (pmk_own PySem.F.excBase_ValueError T.x_NoDays.x T.g_NoDays T.x_NoDays.kp (raises_own T.x_NoDays.sub T.x_NoDays.ty) rfl)))
      pss_nil)))
      pss_nil)), ?_⟩
    rcases ht with ⟨rfl, rfl⟩ | ⟨nx, c, ⟨n, rfl, rfl⟩ | ⟨hm, rfl⟩⟩
    · exact ⟨_, rfl, rfl, _, rfl, q (by simp)⟩
    · refine ⟨_, rfl, rfl, _, rfl, ?_⟩
      refine ⟨_, rfl, _, rfl, cl_int _, fun _ => ?_, isM_no⟩
      refine ⟨_, rfl, _, rfl, _, _, rfl, rfl, _, rfl, ?_⟩
      by_cases c1 : s ≤ n
      · rw [decide_eq_false (show ¬ ((n : Nat) : Int) < ((s : Nat) : Int) by omega)]
        exact q (by rw [if_pos c1]; simp)
      · rw [decide_eq_true (show ((n : Nat) : Int) < ((s : Nat) : Int) by omega)]
        exact qe (if_neg c1)
    · refine ⟨_, rfl, rfl, _, rfl, ?_⟩
      rw [decide_eq_false nx]
      refine iteT ?_
      exact ⟨_, rfl, x, rfl, c, fun e => absurd (hm.symm.trans e) (by decide), fun _ => qe rfl⟩
theorem ok_want_till {P : Program} {w : World} {K : PySem.W.Frag} {mg : Str → Option Value} {base : Heap} (T : Env K mg) : Fc P w K mg base 4 (He.ga K "want_till") [] (sp_want_till K ) := by
  obtain ⟨fd, D, F⟩ := fb_want_till T
  exact F.all (D.bindsN fun _ _ _ _ _ _ us hl => match us, hl with | [_, _], _ => rfl)
end
section
abbrev DaysC (K : PySem.W.Frag) : Addr := He.ga K "Days"
structure DaysD where
  bits : List Nat
  since : Nat
  till : Option Nat
  out : List Nat
  also : List Nat
def DaysD.ok (D : DaysD) : Prop := sgn D.bits = true ∧ (∀ u, D.till = some u → D.since ≤ u) ∧ D.out.length ≤ 8 ∧ D.also.length ≤ 8 ∧ D.out.Nodup ∧ D.also.Nodup ∧ ∀ n ∈ D.also, n ∉ D.out
def dayF (r po pa : Addr) (D : DaysD) : List (Str × V) := [("ring", .ref r), ("since", .int (D.since : Nat)), ("till", optV D.till), ("out", .ref po), ("also", .ref pa)]
/-- at a Days of these -/
def DaysAt (K : PySem.W.Frag) (H : Hp) (a : Addr) (D : DaysD) : Prop := ∃ dx r po pa, H a = some (.ins (DaysC K) dx (dayF r po pa D)) ∧ RingAt K H r D.bits ∧ H po = some (.tup (natV (srtN D.out))) ∧ H pa = some (.tup (natV (srtN D.also)))
theorem DayL.keep {K : PySem.W.Frag} {H H' : Hp} {x : V} {ns : List Nat} (h : DayL K H x ns) (k : ∀ b o, (∀ C d f, o ≠ .ins C d f) → H b = some o → H' b = some o) : DayL K H' x ns := by
  rcases h with h | ⟨a, rfl, h | h, r⟩
  · exact .inl h
  · exact .inr ⟨a, rfl, .inl (k _ _ (fun _ _ _ z => by cases z) h), r⟩
  · exact .inr ⟨a, rfl, .inr (k _ _ (fun _ _ _ z => by cases z) h), r⟩
theorem RingAt.mono {K : PySem.W.Frag} {H H' : Hp} {a : Addr} {l : List Nat} (h : RingAt K H a l) (e : Ex H H') : RingAt K H' a l := let ⟨dx, h⟩ := h; ⟨dx, e _ _ h⟩
theorem DaysAt.mono {K : PySem.W.Frag} {H H' : Hp} {a : Addr} {D : DaysD} (h : DaysAt K H a D) (e : Ex H H') : DaysAt K H' a D := let ⟨dx, r, po, pa, h1, h2, h3, h4⟩ := h; ⟨dx, r, po, pa, e _ _ h1, h2.mono e, e _ _ h3, e _ _ h4⟩
/-- what is handed in for a ring -/
def RingG (K : PySem.W.Frag) (H : Hp) (x : V) (r : Option (List Nat)) : Prop := (∃ a l, x = .ref a ∧ RingAt K H a l ∧ sgn l = true ∧ r = some l) ∨ (∃ t, TyX K H x t ∧ PySem.W.kitOne K t (.ref (RingC K)) = some false ∧ r = none)
/-- what Days are made of, and what becomes of it -/
def DaysArg (K : PySem.W.Frag) (H : Hp) (xr xs xt xo xa : V) (R : Option DaysD) : Prop := ∃ rb, RingG K H xr rb ∧ (rb = none ∧ R = none ∨ ∃ bits, rb = some bits ∧ Cl K H xs ∧ (isM xs = false ∧ R = none ∨ ∃ s : Nat, xs = .int s ∧ ∃ rt, TillG K H xt s rt ∧ (rt = none ∧ R = none ∨ ∃ t, rt = some t ∧
  ∃ ro, DayG K H xo ro ∧ (ro = none ∧ R = none ∨ ∃ o, ro = some o ∧ ∃ ra, DayG K H xa ra ∧ (ra = none ∧ R = none ∨ ∃ al, ra = some al ∧ R = if (al.any fun d => decide (d ∈ o)) = true then none else some ⟨bits, s, t, o, al⟩)))))
theorem TillG.mono {K : PySem.W.Frag} {H H' : Hp} {x : V} {s : Nat} {r : Option (Option Nat)} (h : TillG K H x s r) (e : Ex H H') : TillG K H' x s r := by
  rcases h with h | ⟨h1, h2, h3⟩
  · exact .inl h
  · exact .inr ⟨h1, h2.mono e, h3⟩
theorem TillG.val {K : PySem.W.Frag} {H : Hp} {x : V} {s : Nat} {t : Option Nat} (h : TillG K H x s (some t)) : x = optV t ∧ ∀ u, t = some u → s ≤ u := by
  rcases h with ⟨h1, h2⟩ | ⟨h1, h2, ⟨n, h3, h4⟩ | ⟨h3, h4⟩⟩
  · cases h2
    exact ⟨h1, fun u hu => by cases hu⟩
  · by_cases c : s ≤ n
    · rw [if_pos c] at h4
      cases h4
      exact ⟨h3, fun u hu => by cases hu; exact c⟩
    · rw [if_neg c] at h4
      cases h4
  · cases h4
theorem DayG.ok {K : PySem.W.Frag} {H : Hp} {x : V} {o : List Nat} (h : DayG K H x (some o)) : o.length ≤ 8 ∧ o.Nodup := by
  rcases h with ⟨_, h2⟩ | ⟨a, xs, h1, h2, h3, h4, h5⟩ | ⟨_, _, h4⟩
  · cases h2
    exact ⟨by decide, List.nodup_nil⟩
  · unfold dayList at h5
    split at h5
    · rename_i c
      cases h5
      obtain ⟨c1, c2⟩ := Bool.and_eq_true_iff.mp c
      obtain ⟨c3, c4⟩ := Bool.and_eq_true_iff.mp c1
      exact ⟨by rw [List.length_map]; exact of_decide_eq_true c3, of_decide_eq_true c2⟩
    · cases h5
  · cases h4
theorem DaysArg.ok {K : PySem.W.Frag} {H : Hp} {xr xs xt xo xa : V} {D : DaysD} (h : DaysArg K H xr xs xt xo xa (some D)) : D.ok := by
  obtain ⟨rb, h1, h⟩ := h
  rcases h with ⟨_, h⟩ | ⟨bits, rfl, _, h⟩
  · cases h
  rcases h with ⟨_, h⟩ | ⟨s, _, rt, h2, h⟩
  · cases h
  rcases h with ⟨_, h⟩ | ⟨t, rfl, ro, h3, h⟩
  · cases h
  rcases h with ⟨_, h⟩ | ⟨o, rfl, ra, h4, h⟩
  · cases h
  rcases h with ⟨_, h⟩ | ⟨al, rfl, h⟩
  · cases h
  split at h
  · cases h
  · rename_i c
    cases h
    have hs : sgn bits = true := by
      rcases h1 with ⟨a, l, _, _, h5, h6⟩ | ⟨_, _, _, h6⟩
      · cases h6
        exact h5
      · cases h6
    refine ⟨hs, h2.val.2, h3.ok.1, h4.ok.1, h3.ok.2, h4.ok.2, fun n hn ho => c ?_⟩
    exact List.any_eq_true.mpr ⟨n, hn, decide_eq_true ho⟩
def sp_Days_init (K : PySem.W.Frag) : Sp := fun vs H Q E => ∃ a dx xr xs xt xo xa R H0, vs = [.ref a, xr, xs, xt, xo, xa] ∧ H a = some (.ins (DaysC K) dx []) ∧ H0 a = none ∧ Ex H0 H ∧ DaysArg K H0 xr xs xt xo xa R ∧ (∀ D, R = some D → ∀ H', Oth a H H' → DaysAt K H' a D → Q .non H') ∧ (R = none → ∀ H', Oth a H H' → E (.ref (He.ga K "NoDays")) none H')
theorem fb_Days_init {P : Program} {w : World} {K : PySem.W.Frag} {mg : Str → Option Value} {base : Heap} (T : Env K mg) : ∃ fd, FunD K "__init__" "Days.__init__" (defArgs s_Days_init) (defBody s_Days_init) (defScope s_Days_init) [.int (0), .non, .non, .non] [] (He.ma K (He.ga K "Days") "__init__") fd ∧ Fb P w K mg base 5 (He.ma K (He.ga K "Days") "__init__") fd ["self", "ring", "since", "till", "out", "also"] (sp_Days_init K) := by
  obtain ⟨fd, F⟩ := T.f_Days_init
  refine ⟨fd, F, fb_of F sc_Days_init (fun vs H Q E h => ?_) (fun cdv A outer s H vs Q E hr h => ?_)⟩
  · obtain ⟨a, dx, xr, xs, xt, xo, xa, R, H0, rfl, _⟩ := h
    rfl
  · obtain ⟨a, dx, xr, xs, xt, xo, xa, R, H0, rfl, ha, na0, X0, hA, q, qe⟩ := h
    refine ⟨_, (pss_cons (ps_if (pt_not (pt_val (pe_callB call_isi (by rfl) T.n_isinstance (by decide +kernel) (pa_cons (pv 1) (pa_cons (pe_glob (v := .ref _) (by rfl) T.g_Ring rfl) pa_nil)))))
      (pss_one (ps_raise rfl (takes_of rfl rfl rfl rfl) (pmk_own PySem.F.excBase_ValueError T.x_NoDays.x T.g_NoDays T.x_NoDays.kp (raises_own T.x_NoDays.sub T.x_NoDays.ty) rfl)))
      pss_nil)
      (pss_cons (ps_expr (c_call (ok_want_day T) (hr.mono (by decide)) T.g_want_day T.k_want_day (takes_of rfl rfl rfl rfl) (pa_cons (pv 2) pa_nil)))
      (pss_cons (ps_expr (c_call (ok_want_till T) (hr.mono (by decide)) T.g_want_till T.k_want_till (takes_of rfl rfl rfl rfl) (pa_cons (pv 2) (pa_cons (pv 3) pa_nil))))
      (pss_cons (ps_fld (pv 0) (pv 1) rfl)
      (pss_cons (ps_fld (pv 0) (pv 2) rfl)
      (pss_cons (ps_fld (pv 0) (pv 3) rfl)
      (pss_cons (ps_fld (pv 0) (c_call (ok_told_days T) (hr.mono (by decide)) T.g_told_days T.k_told_days (takes_of rfl rfl rfl rfl) (pa_cons (pv 4) pa_nil)) rfl)
      (pss_cons (ps_fld (pv 0) (c_call (ok_told_days T) (hr.mono (by decide)) T.g_told_days T.k_told_days (takes_of rfl rfl rfl rfl) (pa_cons (pv 5) pa_nil)) rfl)
      (pss_one (ps_if (pt_val (pe_callB (cr_any rfl) (by rfl) T.n_any (by decide +kernel) (pa_cons (pe_lc (own := [("day", 6)]) (by rfl) sc_Days_init.nd (pi_tup (pe_fld (pv 0) (by rfl))) (blkOk_by (own := [("day", 6)]) (N := ["self", "ring", "since", "till", "out", "also", "day"]) (sc := defScope s_Days_init) (by decide +kernel)) (fun _ _ _ _ _ => (pg_name (i := 6) sc_Days_init.nd rfl (Or.inl rfl))) (fun _ _ _ _ _ => pts_nil) (fun _ _ _ _ _ => (pe_cmpR (op_in_seqK K) (pv 6) (pe_fldK K (pv 0) (by rfl)) (by rfl)))) pa_nil)))
      (pss_one (ps_raise rfl (takes_of rfl rfl rfl rfl) (pmk_own PySem.F.excBase_ValueError T.x_NoDays.x T.g_NoDays T.x_NoDays.kp (raises_own T.x_NoDays.sub T.x_NoDays.ty) rfl)))
      pss_nil)))))))))), ?_⟩
    obtain ⟨rb, h1, hA⟩ := hA
    have ex0 : ∀ {H' : Hp}, Oth a H H' → Ex H0 H' := fun {H'} o => Oth.ex X0 na0 o
    rcases h1 with ⟨r, l, rfl, ⟨dr, hr3⟩, hs, rfl⟩ | ⟨t, ty, kt, rfl⟩
    · rcases hA with ⟨z, _⟩ | ⟨bits, e, cs, hA⟩
      · cases z
      cases e
      refine ⟨_, rfl, .ref r, .ref (RingC K), _, _, true, rfl, .own _, ty_ins T.i_Ring T.c_Ring (X0 _ _ hr3), T.kit_Ring_Ring, true, rfl, iteF ?_⟩
      rcases hA with ⟨hm, rfl⟩ | ⟨s, rfl, rt, h2, hA⟩
      · exact ⟨_, rfl, xs, rfl, cs.mono X0, fun e => absurd (hm.symm.trans e) (by decide), fun _ => qe rfl H (Oth.refl _ _)⟩
      refine ⟨_, rfl, _, rfl, cl_int _, fun _ => ?_, isM_no⟩
      rcases hA with ⟨rfl, rfl⟩ | ⟨t, rfl, ro, h3, hA⟩
      · exact ⟨_, rfl, _, rfl, s, xt, none, rfl, h2.mono X0, fun z => absurd rfl z, fun _ => qe rfl H (Oth.refl _ _)⟩
      refine ⟨_, rfl, _, rfl, s, xt, some t, rfl, h2.mono X0, fun _ => ?_, fun z => nomatch z⟩
      obtain ⟨rfl, ht⟩ := h2.val
      refine ⟨_, rfl, _, rfl, a, _, dx, [], rfl, ha, T.c_Days, T.a_Days_ring, by decide, ?_⟩
      refine ⟨_, rfl, _, rfl, a, _, dx, _, rfl, upd_same, T.c_Days, T.a_Days_since, Nat.le_of_ble_eq_true rfl, ?_⟩
      refine ⟨_, rfl, _, rfl, a, _, dx, _, rfl, upd_same, T.c_Days, T.a_Days_till, Nat.le_of_ble_eq_true rfl, ?_⟩
      rw [upd_upd, upd_upd]
      have O3 := fun o => (Oth.refl a H).upd (o := o)
      rcases hA with ⟨rfl, rfl⟩ | ⟨o, rfl, ra, h4, hA⟩
      · exact ⟨_, rfl, xo, none, rfl, h3.mono (ex0 (O3 _)), (fun ns z => nomatch z), fun _ H4 X4 => qe rfl H4 ((O3 _).trans (ex_oth X4))⟩
      refine ⟨_, rfl, xo, some o, rfl, h3.mono (ex0 (O3 _)), fun ns ens po H4 X4 npo hpo => ?_, fun z => nomatch z⟩
      cases ens
      have O4 := (O3 _).trans (ex_oth X4)
      have ha4 := X4 _ _ upd_same
      refine ⟨_, rfl, a, _, dx, _, rfl, ha4, T.c_Days, T.a_Days_out, Nat.le_of_ble_eq_true rfl, ?_⟩
      have poa : po ≠ a := fun z => by
        rw [z, upd_same] at npo
        cases npo
      have O5 := fun o => O4.upd (o := o)
      rcases hA with ⟨rfl, rfl⟩ | ⟨al, rfl, eR⟩
      · exact ⟨_, rfl, xa, none, rfl, h4.mono (ex0 (O5 _)), (fun ns z => nomatch z), fun _ H6 X6 => qe rfl H6 ((O5 _).trans (ex_oth X6))⟩
      refine ⟨_, rfl, xa, some al, rfl, h4.mono (ex0 (O5 _)), fun ns ens pa H6 X6 npa hpa => ?_, fun z => nomatch z⟩
      cases ens
      have ha6 := X6 _ _ upd_same
      refine ⟨_, rfl, a, _, dx, _, rfl, ha6, T.c_Days, T.a_Days_also, Nat.le_of_ble_eq_true rfl, ?_⟩
      have paa : pa ≠ a := fun z => by
        rw [z, upd_same] at npa
        cases npa
      have O7 := fun o => ((O5 _).trans (ex_oth X6)).upd (o := o)
      have O7 := O7 (.ins (DaysC K) dx (dayF r po pa ⟨l, s, t, o, al⟩))
      have h7 : upd H6 a (.ins (DaysC K) dx (dayF r po pa ⟨l, s, t, o, al⟩)) a = some (.ins (DaysC K) dx (dayF r po pa ⟨l, s, t, o, al⟩)) := upd_same
      have hpo7 : upd H6 a (.ins (DaysC K) dx (dayF r po pa ⟨l, s, t, o, al⟩)) po = some (.tup (natV (srtN o))) := by
        rw [upd_ne poa]
        exact X6 _ _ (by rw [upd_ne poa]; exact hpo)
      have hpa7 : upd H6 a (.ins (DaysC K) dx (dayF r po pa ⟨l, s, t, o, al⟩)) pa = some (.tup (natV (srtN al))) := by
        rw [upd_ne paa]
        exact hpa
      have ra : r ≠ a := fun z => by
        rw [z, na0] at hr3
        cases hr3
      rw [show putF "also" (V.ref pa) (putF "out" (V.ref po) (putF "till" (optV t) (putF "since" (V.int (s : Nat)) (putF "ring" (V.ref r) [])))) = dayF r po pa ⟨l, s, t, o, al⟩ from rfl]
      generalize upd H6 a (.ins (DaysC K) dx (dayF r po pa ⟨l, s, t, o, al⟩)) = H7 at O7 h7 hpo7 hpa7 ⊢
      have ol := h4.ok.1
      have sl := srtN_len al
      refine ⟨_, rfl, a, _, dx, _, _, rfl, h7, T.c_Days, T.a_Days_also, rfl, pa, rfl, ⟨_, sq_tup hpa7⟩, fun A7 nA => lc_on (srtN al) (fun n : Nat => V.int n) L2.walk_tup (fun d => some (.bl (decide (d ∈ o)))) (fun H' => Ex H7 H') (fun H' z e => ex_mut e nA) (.refl _) (by omega) (fun H' e => sq_tup (e _ _ hpa7)) (fun i n H8 acc N hn X8 hD la k => ?_) fun H8 X8 d8 => ?_⟩
      · refine ⟨rfl, _, rfl, _, rfl, a, _, dx, _, _, rfl, X8 _ _ h7, T.c_Days, T.a_Days_out, rfl, po, _, rfl, .inr (sq_tup (X8 _ _ hpo7)), rfl, flat_nat _, acc, hD, la, ?_⟩
        rw [inV_nat, mem_srtN]
        exact k H8 X8 hD
      · have eb : (srtN al).filterMap (fun d => some (V.bl (decide (d ∈ o)))) = ((srtN al).map fun d => decide (d ∈ o)).map V.bl := by
          rw [List.filterMap_eq_map', List.map_map]
          rfl
        rw [eb] at d8
        refine ⟨A7, _, rfl, sq_lst d8, ?_⟩
        have ea : ((srtN al).map fun d => decide (d ∈ o)).any id = al.any fun d => decide (d ∈ o) := by
          rw [Bool.eq_iff_iff, List.any_eq_true, List.any_eq_true]
          constructor
          · rintro ⟨b, hb, e⟩
            obtain ⟨d, hd, rfl⟩ := List.mem_map.mp hb
            exact ⟨d, (srtN_mem d al).mp hd, e⟩
          · rintro ⟨d, hd, e⟩
            exact ⟨_, List.mem_map.mpr ⟨d, (srtN_mem d al).mpr hd, rfl⟩, e⟩
        rw [ea]
        have O8 := O7.trans (ex_oth X8)
        cases c : (al.any fun d => decide (d ∈ o)) with
        | true =>
          rw [c] at eR
          exact ⟨true, rfl, qe eR H8 O8⟩
        | false =>
          rw [c] at eR
          refine ⟨false, rfl, ?_⟩
          exact q _ eR H8 O8 ⟨dx, r, po, pa, X8 _ _ h7, ⟨dr, O8 _ _ ra (X0 _ _ hr3)⟩, X8 _ _ hpo7, X8 _ _ hpa7⟩
    · rcases hA with ⟨_, rfl⟩ | ⟨bits, e, _⟩
      · exact ⟨_, rfl, xr, .ref (RingC K), _, _, false, rfl, .own _, tyX_mono X0 ty, kt, false, rfl, qe rfl H (Oth.refl _ _)⟩
      · cases e
theorem days_new {K : PySem.W.Frag} {H : Hp} {x dx r : Addr} {xo xa : V} {D : DaysD} {Q : VK} {E : XK} (nx : H x = none) (nd : H dx = none) (ne : dx ≠ x) (hr : RingAt K H r D.bits) (hD : D.ok) (ho : DayL K H xo D.out) (ha : DayL K H xa D.also) (q : ∀ H', Ex H H' → DaysAt K H' x D → Q .non H') :
    sp_Days_init K [.ref x, .ref r, .int (D.since : Nat), optV D.till, xo, xa] (upd (upd H dx (.own x)) x (.ins (DaysC K) dx [])) Q E := by
  have X1 := ex_made (o1 := .own x) (o2 := .ins (DaysC K) dx []) nx nd ne
  obtain ⟨hs, ht, lo, la, no, na, hdj⟩ := id hD
  refine ⟨x, dx, _, _, _, xo, xa, some D, H, rfl, upd_same, nx, X1, ?_, fun D' e H' k d => ?_, fun z => nomatch z⟩
  · refine ⟨some D.bits, .inl ⟨r, D.bits, rfl, hr, hs, rfl⟩, .inr ⟨D.bits, rfl, cl_int _, .inr ⟨D.since, rfl, some D.till, ?_, .inr ⟨D.till, rfl, some D.out, ho.gen, .inr ⟨D.out, rfl, some D.also, ha.gen, .inr ⟨D.also, rfl, ?_⟩⟩⟩⟩⟩⟩
    · cases hT : D.till with
      | none => exact .inl ⟨rfl, rfl⟩
      | some u => exact .inr ⟨(fun z => nomatch z), cl_int _, .inl ⟨u, rfl, by rw [if_pos (ht u hT)]⟩⟩
    · have : (D.also.any fun d => decide (d ∈ D.out)) = false := by
        rw [List.any_eq_false]
        intro d hd
        simpa using hdj d hd
      rw [this]
      rfl
  · cases e
    exact q H' (fun b o e => k b o (ne_of_none e nx) (X1 _ _ e)) d
theorem ok_Days_init {P : Program} {w : World} {K : PySem.W.Frag} {mg : Str → Option Value} {base : Heap} (T : Env K mg) : Fc P w K mg base 5 (He.ma K (He.ga K "Days") "__init__") [] (fun vs H Q E => vs.length = 6 + ([] : List Str).length ∧ sp_Days_init K  (pick [.inl 0, .inl 1, .inl 2, .inl 3, .inl 4, .inl 5] vs [.int (0), .non, .non, .non]) H Q E) := by
  obtain ⟨fd, D, F⟩ := fb_Days_init T
  exact Fb.shape D F 6 [] (fun us its => pick [.inl 0, .inl 1, .inl 2, .inl 3, .inl 4, .inl 5] us its) (by decide) (fun r1 r2 => pick_vals _ r1 r2) (fun T kV doc pm an cdv ct us ws its h1 h2 h3 => match us, ws, its, h1, h2, h3 with | [_, _, _, _, _, _], [], [_, _, _, _], _, _, _ => ⟨_, rfl, rfl⟩)
end
section
def dHas (D : DaysD) (d : Nat) : Bool := decide (d ∈ D.also) || (!(decide (d < D.since) || ((match D.till with | some t => decide (t < d) | none => false) || decide (d ∈ D.out))) && (D.bits.getD (d % D.bits.length) 0 == 49))
def sp_Days_has (K : PySem.W.Frag) : Sp := fun vs H Q E => ∃ a D x, vs = [.ref a, x] ∧ DaysAt K H a D ∧ D.ok ∧ Cl K H x ∧ (∀ d : Nat, x = .int d → Q (.bl (dHas D d)) H) ∧ (isM x = false → E (.ref (He.ga K "NoDays")) none H)
theorem fb_Days_has {P : Program} {w : World} {K : PySem.W.Frag} {mg : Str → Option Value} {base : Heap} (T : Env K mg) : ∃ fd, FunD K "has" "Days.has" (defArgs s_Days_has) (defBody s_Days_has) (defScope s_Days_has) [] [] (He.ma K (He.ga K "Days") "has") fd ∧ Fb P w K mg base 5 (He.ma K (He.ga K "Days") "has") fd ["self", "day"] (sp_Days_has K) := by
  obtain ⟨fd, F⟩ := T.f_Days_has
  refine ⟨fd, F, fb_of F sc_Days_has (fun vs H Q E h => ?_) (fun cdv A outer s H vs Q E hr h => ?_)⟩
  · obtain ⟨a, D, x, rfl, _⟩ := h
    rfl
  · obtain ⟨a, D, x, rfl, ha, hD, c, q, qe⟩ := h
    refine ⟨_, (pss_cons (ps_expr (c_call (ok_want_day T) (hr.mono (by decide)) T.g_want_day T.k_want_day (takes_of rfl rfl rfl rfl) (pa_cons (pv 1) pa_nil)))
      (pss_cons (ps_if (pt_cmpR op_in_seq (pv 1) (pe_fld (pv 0) (by rfl)) (by rfl))
      (pss_one (ps_ret pe_bl))
      pss_nil)
      (pss_cons (ps_if (PW.pt (pw_or (pt_cmpR op_lt (pv 1) (pe_fld (pv 0) (by rfl)) (nomark _)) (pw_or (PW.pt (pw_and (pt_cmpR op_notN (pe_fld (pv 0) (by rfl)) pe_non (nomark _)) (pw_and1 (pt_cmpR op_gt (pv 1) (pe_fld (pv 0) (by rfl)) (nomark _))))) (pw_or1 (pt_cmpR op_in_seq (pv 1) (pe_fld (pv 0) (by rfl)) (by rfl))))))
      (pss_one (ps_ret pe_bl))
      pss_nil)
      (pss_one (ps_ret (c_meth (pe_fld (pv 0) (by rfl)) T.c_Ring T.m_Ring_rings (ok_Ring_rings T) (hr.mono (by decide)) (takes_of rfl rfl rfl rfl) (pa_cons (pv 1) pa_nil))))))), ?_⟩
    obtain ⟨dx, r, po, pa, h1, ⟨dr, h2⟩, h3, h4⟩ := ha
    obtain ⟨hs, ht, _⟩ := hD
    refine ⟨_, rfl, x, rfl, c, fun e => ?_, qe⟩
    obtain ⟨i, rfl, i0⟩ := isM_w e
    obtain ⟨d, rfl⟩ := Int.eq_ofNat_of_zero_le i0
    have z := q d rfl
    unfold dHas at z
    have e3 := mem_srtN d D.also
    have e4 := mem_srtN d D.out
    refine ⟨_, rfl, _, rfl, a, _, dx, _, _, rfl, h1, T.c_Days, T.a_Days_also, rfl, pa, _, rfl, .inr (sq_tup h4), rfl, flat_nat _, _, rfl, ?_⟩
    rw [inV_nat, e3]
    by_cases c1 : d ∈ D.also
    · rw [decide_eq_true c1] at z ⊢
      exact z
    · rw [decide_eq_false c1] at z ⊢
      refine iteF ?_
      refine ⟨_, rfl, _, rfl, a, _, dx, _, _, rfl, h1, T.c_Days, T.a_Days_since, rfl, _, _, rfl, rfl, _, rfl, ?_⟩
      by_cases c2 : d < D.since
      · rw [decide_eq_true (show ((d : Nat) : Int) < ((D.since : Nat) : Int) by omega)]
        rw [decide_eq_true c2] at z
        exact z
      · rw [decide_eq_false (show ¬ ((d : Nat) : Int) < ((D.since : Nat) : Int) by omega)]
        rw [decide_eq_false c2] at z
        refine iteF ?_
        have fin : Q (.bl (false || (!(false || (false || decide (d ∈ D.out))) && (D.bits.getD (d % D.bits.length) 0 == 49)))) H → tTest (tOp (rIn K false) (tVar 1) (tFld K (tVar 0) "out")) (L2.start ["self", "day"] [.ref a, .int (d : Int)]) H fun b H1 => if b = true then Q (.bl false) H1 else
            tMt (He.ga K "Ring") "rings" (sp_Ring_rings K) (fun cls d x H => E cls d H) (tFld K (tVar 0) "ring") (tCons (tVar 1) tNil) (L2.start ["self", "day"] [.ref a, .int (d : Int)]) H1 Q := fun z => by
          refine ⟨_, rfl, _, rfl, a, _, dx, _, _, rfl, h1, T.c_Days, T.a_Days_out, rfl, po, _, rfl, .inr (sq_tup h3), rfl, flat_nat _, _, rfl, ?_⟩
          rw [inV_nat, e4]
          by_cases c3 : d ∈ D.out
          · rw [decide_eq_true c3] at z ⊢
            exact z
          · rw [decide_eq_false c3] at z ⊢
            refine iteF ?_
            refine ⟨_, rfl, a, _, dx, _, _, rfl, h1, T.c_Days, T.a_Days_ring, rfl, r, dr, _, rfl, h2, rfl, _, rfl, r, D.bits, _, rfl, ⟨dr, h2⟩, hs, cl_int _, fun d' ed => ?_, isM_no⟩
            have ed2 : d = d' := by injection ed with ed; omega
            subst ed2
            exact z
        cases hT : D.till with
        | none =>
          rw [hT] at z
          refine ⟨_, rfl, a, _, dx, _, _, rfl, h1, T.c_Days, T.a_Days_till, rfl, rfl, _, rfl, ?_⟩
          rw [show optV D.till = .non by rw [hT]; rfl]
          exact fin z
        | some t =>
          rw [hT] at z
          refine ⟨_, rfl, a, _, dx, _, _, rfl, h1, T.c_Days, T.a_Days_till, rfl, rfl, _, rfl, ?_⟩
          rw [show optV D.till = .int (t : Nat) by rw [hT]; rfl]
          refine iteT ?_
          refine ⟨_, rfl, _, rfl, a, _, dx, _, _, rfl, h1, T.c_Days, T.a_Days_till, rfl, _, _, rfl, (show optV D.till = .int (t : Nat) by rw [hT]; rfl), _, rfl, ?_⟩
          by_cases c4 : t < d
          · rw [decide_eq_true (show ((t : Nat) : Int) < ((d : Nat) : Int) by omega)]
            have z2 : Q (.bl (false || (!(false || (decide (t < d) || decide (d ∈ D.out))) && (D.bits.getD (d % D.bits.length) 0 == 49)))) H := z
            rw [decide_eq_true c4] at z2
            exact z2
          · rw [decide_eq_false (show ¬ ((t : Nat) : Int) < ((d : Nat) : Int) by omega)]
            have z2 : Q (.bl (false || (!(false || (decide (t < d) || decide (d ∈ D.out))) && (D.bits.getD (d % D.bits.length) 0 == 49)))) H := z
            rw [decide_eq_false c4] at z2
            exact fin z2
theorem ok_Days_has {P : Program} {w : World} {K : PySem.W.Frag} {mg : Str → Option Value} {base : Heap} (T : Env K mg) : Fc P w K mg base 5 (He.ma K (He.ga K "Days") "has") [] (sp_Days_has K ) := by
  obtain ⟨fd, D, F⟩ := fb_Days_has T
  exact F.all (D.bindsN fun _ _ _ _ _ _ us hl => match us, hl with | [_, _], _ => rfl)
end
section
/-- a name: one to eight small letters -/
def nmN (w : List Nat) : Bool := decide (1 ≤ w.length) && (decide (w.length ≤ 8) && w.all fun c => decide (97 ≤ c) && decide (c < 123))
def isNm : V → Bool
  | .str z => nmN z.cps.toList
  | _ => false
/-- a text, or what is none -/
def ClS (K : PySem.W.Frag) (H : Hp) (x : V) : Prop := (∃ z : Str, x = .str z ∧ z.length ≤ 10000) ∨ ((∀ z, x ≠ .str z) ∧ ∃ t, TyX K H x t ∧ PySem.W.kitOne K t (.type "str") = some false)
theorem ClS.no {K : PySem.W.Frag} {H : Hp} {x : V} (h : ∀ z, x ≠ .str z) : isNm x = false := by
  cases x <;> first | rfl | exact absurd rfl (h _)
theorem ClS.mono {K : PySem.W.Frag} {H H' : Hp} {x : V} (h : ClS K H x) (e : Ex H H') : ClS K H' x := h.imp id fun ⟨n, t, ty, k⟩ => ⟨n, t, tyX_mono e ty, k⟩
theorem S_of (z : Str) : SX.S z.cps.toList = z := by
  obtain ⟨⟨l⟩⟩ := z
  rfl
/-- the texts of a row of texts -/
def strL : List V → List Str
  | [] => []
  | .str z :: r => z :: strL r
  | _ :: r => strL r
theorem strL_map (ws : List Str) : strL (ws.map V.str) = ws := by
  induction ws with
  | nil => rfl
  | cons z r ih =>
    show z :: strL (r.map V.str) = _
    rw [ih]
theorem names_str : ∀ {xs : List V}, xs.all isNm = true → xs = (strL xs).map V.str
  | [], _ => rfl
  | x :: r, h => by
    rw [List.all_cons, Bool.and_eq_true] at h
    have e := names_str h.2
    cases x with
    | str z =>
      show _ = V.str z :: (strL r).map V.str
      rw [← e]
    | _ => exact absurd h.1 (by simp [isNm])
/-- the notes that a row of things stands for, or none -/
def notesR (xs : List V) : Option (List Str) := if xs.all isNm then (if (strL xs).Nodup then some (srtS (strL xs)) else none) else none
/-- what notes_of makes of a thing -/
def NtX (K : PySem.W.Frag) (H : Hp) (y : V) (r : Option (List Str)) : Prop :=
  (y = .non ∧ r = some []) ∨ (∃ a xs, y = .ref a ∧ (H a = some (.lst xs) ∨ H a = some (.tup xs)) ∧ xs.length ≤ 1000 ∧ (∀ v ∈ xs, ClS K H v) ∧ r = notesR xs) ∨
  (y ≠ .non ∧ ∃ t, TyX K H y t ∧ PySem.W.kitAny K t [.type "list", .type "tuple"] = some false ∧ r = none)
theorem NtX.mono {K : PySem.W.Frag} {H H' : Hp} {y : V} {r : Option (List Str)} (h : NtX K H y r) (e : Ex H H') : NtX K H' y r := by
  rcases h with h | ⟨a, xs, rfl, h1, h2, h3, h4⟩ | ⟨n, t, ty, k, h⟩
  · exact .inl h
  · exact .inr (.inl ⟨a, xs, rfl, h1.imp (e _ _) (e _ _), h2, fun v hv => (h3 v hv).mono e, h4⟩)
  · exact .inr (.inr ⟨n, t, tyX_mono e ty, k, h⟩)
/-- a row of names -/
def Nms (ws : List Str) : Prop := ∀ z ∈ ws, nmN z.cps.toList = true
theorem nm_facts {w : List Nat} (h : nmN w = true) : 1 ≤ w.length ∧ w.length ≤ 8 ∧ ∀ c ∈ w, 97 ≤ c ∧ c < 123 := by
  unfold nmN at h
  simp only [Bool.and_eq_true, decide_eq_true_eq, List.all_eq_true] at h
  exact ⟨h.1, h.2.1, h.2.2⟩
theorem names_nms : ∀ {xs : List V}, xs.all isNm = true → Nms (strL xs)
  | [], _, _, hz => nomatch hz
  | x :: r, h, z, hz => by
    rw [List.all_cons, Bool.and_eq_true] at h
    cases x with
    | str y =>
      rcases List.mem_cons.mp (show z ∈ y :: strL r from hz) with rfl | hz
      · exact h.1
      · exact names_nms h.2 z hz
    | _ => exact absurd h.1 (by simp [isNm])
theorem strL_len : ∀ xs : List V, (strL xs).length ≤ xs.length
  | [] => Nat.le_refl _
  | x :: r => by
    have := strL_len r
    cases x <;> simp only [strL, List.length_cons] <;> omega
theorem nt_nms {K : PySem.W.Frag} {H : Hp} {y : V} {ws : List Str} (h : NtX K H y (some ws)) : Nms ws ∧ ws.length ≤ 1000 := by
  rcases h with ⟨_, h⟩ | ⟨a, xs, _, _, hl, _, h⟩ | ⟨_, t, _, _, h⟩
  · cases h
    exact ⟨nofun, Nat.zero_le _⟩
  · unfold notesR at h
    by_cases h1 : xs.all isNm = true
    · rw [if_pos h1] at h
      by_cases h2 : (strL xs).Nodup
      · rw [if_pos h2] at h
        injection h with h
        rw [h]
        refine ⟨fun z hz => names_nms h1 z ((srtS_perm _).mem_iff.mp hz), ?_⟩
        rw [(srtS_perm _).length_eq]
        exact Nat.le_trans (strL_len xs) hl
      · rw [if_neg h2] at h
        cases h
    · rw [if_neg h1] at h
      cases h
  · cases h
theorem inV_str (z : Str) (ws : List Str) : inV (.str z) (ws.map V.str) = decide (z ∈ ws) := by
  unfold inV
  rw [List.any_map]
  apply Bool.eq_iff_iff.mpr
  rw [List.any_eq_true, decide_eq_true_eq]
  constructor
  · rintro ⟨y, hy, e⟩
    have e' : (y == z) = true := e
    rw [← eq_of_beq e']
    exact hy
  · intro h
    exact ⟨z, h, (beq_self_eq_true z : (z == z) = true)⟩
theorem names_all {ws : List Str} (h : Nms ws) : (ws.map V.str).all isNm = true := by
  rw [List.all_map]
  exact List.all_eq_true.mpr fun z hz => h z hz
theorem clS_names {K : PySem.W.Frag} {H : Hp} {ws : List Str} (h : Nms ws) : ∀ v ∈ ws.map V.str, ClS K H v := fun v hv => by
  obtain ⟨z, hz, rfl⟩ := List.mem_map.mp hv
  have h2 := (nm_facts (h z hz)).2.1
  have h3 : z.length = z.cps.toList.length := rfl
  exact .inl ⟨z, rfl, by omega⟩
theorem nt_names {K : PySem.W.Frag} {H : Hp} {a : Addr} {ws : List Str} (hx : H a = some (.lst (ws.map V.str)) ∨ H a = some (.tup (ws.map V.str))) (hw : Nms ws) (nd : ws.Nodup) (l : ws.length ≤ 1000) : NtX K H (.ref a) (some (srtS ws)) := by
  refine .inr (.inl ⟨a, _, rfl, hx, by rw [List.length_map]; exact l, clS_names hw, ?_⟩)
  unfold notesR
  rw [if_pos (names_all hw), strL_map, if_pos nd]
theorem nms_perm {ws us : List Str} (p : ws.Perm us) (h : Nms us) : Nms ws := fun z hz => h z (p.mem_iff.mp hz)
end
section
theorem abc_in (c : Nat) : decide (c ∈ (Str.ofString "abcdefghijklmnopqrstuvwxyz").cps.toList) = (decide (97 ≤ c) && decide (c < 123)) := by
  have e : (Str.ofString "abcdefghijklmnopqrstuvwxyz").cps.toList = [97, 98, 99, 100, 101, 102, 103, 104, 105, 106, 107, 108, 109, 110, 111, 112, 113, 114, 115, 116, 117, 118, 119, 120, 121, 122] := rfl
  rw [e, ← Bool.decide_and]
  apply decide_eq_decide.mpr
  simp only [List.mem_cons, List.not_mem_nil, or_false]
  omega
def sp_is_name (K : PySem.W.Frag) : Sp := fun vs H Q _ => ∃ x, vs = [x] ∧ ClS K H x ∧ ∀ H', Ex H H' → Q (.bl (isNm x)) H'
theorem fb_is_name {P : Program} {w : World} {K : PySem.W.Frag} {mg : Str → Option Value} {base : Heap} (T : Env K mg) : ∃ fd, FunD K "is_name" "is_name" (defArgs s_is_name) (defBody s_is_name) (defScope s_is_name) [] [] (He.ga K "is_name") fd ∧ Fb P w K mg base 1 (He.ga K "is_name") fd ["thing"] (sp_is_name K) := by
  obtain ⟨fd, F⟩ := T.f_is_name
  refine ⟨fd, F, fb_of F sc_is_name (fun vs H Q E h => ?_) (fun cdv A outer s H vs Q E hr h => ?_)⟩
  · obtain ⟨x, rfl, _⟩ := h
    rfl
  · obtain ⟨x, rfl, h, q⟩ := h
    refine ⟨_, (pss_cons (ps_if (PW.pt (pw_or (pt_not (pt_val (pe_callB call_isi (by rfl) T.n_isinstance (by decide +kernel) (pa_cons (pv 0) (pa_cons (pe_bltn (v := .ty "str") (by rfl) T.n_str (by decide +kernel) rfl) pa_nil))))) (pw_or (pt_cmpR op_lt (pe_callB call_len (by rfl) T.n_len (by decide +kernel) (pa_cons (pv 0) pa_nil)) pe_int (nomark _)) (pw_or1 (pt_cmpR op_gt (pe_callB call_len (by rfl) T.n_len (by decide +kernel) (pa_cons (pv 0) pa_nil)) (pe_k T.v_LONGEST_NAME) (nomark _))))))
      (pss_one (ps_ret pe_bl))
      pss_nil)
      (pss_one (ps_ret (pe_callB (cr_all rfl) (by rfl) T.n_all (by decide +kernel) (pa_cons (pe_lc (own := [("sign", 1)]) (by rfl) sc_is_name.nd (pi_str (pv 0)) (blkOk_by (own := [("sign", 1)]) (N := ["thing", "sign"]) (sc := defScope s_is_name) (by decide +kernel)) (fun _ _ _ _ _ => (pg_name (i := 1) sc_is_name.nd rfl (Or.inl rfl))) (fun _ _ _ _ _ => pts_nil) (fun _ _ _ _ _ => (pe_cmpR op_in_sign (pv 1) (pe_k T.v_NAME_SIGNS) (by rfl)))) pa_nil))))), ?_⟩
    rcases h with ⟨z, rfl, hz⟩ | ⟨n, t, ty, kt⟩
    · have q2 : ∀ H', Ex H H' → Q (.bl (nmN z.cps.toList)) H' := q
      have ez := S_of z
      generalize z.cps.toList = l at q2 ez
      subst ez
      rw [SX.S_len] at hz
      have kt : PySem.W.kitOne K (.type "str") (.type "str") = some true := kit_ty (by decide +kernel)
      by_cases c1 : l.length < 1
      · have e : nmN l = false := by unfold nmN; rw [decide_eq_false (by omega)]; rfl
        rw [e] at q2
        refine ⟨_, rfl, _, _, _, _, _, rfl, .ty _, .base (.str _), (kit_ty (r := true) (by decide +kernel)), _, rfl, _, rfl, _, _, rfl, ⟨(sz_big (by rw [SX.S_len]; omega)), rfl⟩, _, _, rfl, rfl, _, rfl, ?_⟩
        rw [SX.S_len, decide_eq_true (show ((l.length : Nat) : Int) < 1 by omega)]
        exact iteT (iteT (q2 H (.refl H)))
      by_cases c2 : 8 < l.length
      · have e : nmN l = false := by unfold nmN; rw [decide_eq_false (show ¬ l.length ≤ 8 by omega), Bool.false_and, Bool.and_false]
        rw [e] at q2
        refine ⟨_, rfl, _, _, _, _, _, rfl, .ty _, .base (.str _), (kit_ty (r := true) (by decide +kernel)), _, rfl, _, rfl, _, _, rfl, ⟨(sz_big (by rw [SX.S_len]; omega)), rfl⟩, _, _, rfl, rfl, _, rfl, ?_⟩
        rw [SX.S_len, decide_eq_false (show ¬ ((l.length : Nat) : Int) < 1 by omega)]
        refine iteF ⟨_, rfl, _, _, rfl, ⟨(sz_big (by rw [SX.S_len]; omega)), rfl⟩, _, _, rfl, rfl, _, rfl, ?_⟩
        rw [SX.S_len, decide_eq_true (show (8 : Int) < ((l.length : Nat) : Int) by omega)]
        exact iteT (q2 H (.refl H))
      have e : nmN l = l.all fun c => decide (97 ≤ c) && decide (c < 123) := by
        unfold nmN
        rw [decide_eq_true (by omega), decide_eq_true (by omega)]
        rfl
      rw [e] at q2
      refine ⟨_, rfl, _, _, _, _, _, rfl, .ty _, .base (.str _), (kit_ty (r := true) (by decide +kernel)), _, rfl, _, rfl, _, _, rfl, ⟨(sz_big (by rw [SX.S_len]; omega)), rfl⟩, _, _, rfl, rfl, _, rfl, ?_⟩
      rw [SX.S_len, decide_eq_false (show ¬ ((l.length : Nat) : Int) < 1 by omega)]
      refine iteF ⟨_, rfl, _, _, rfl, ⟨(sz_big (by rw [SX.S_len]; omega)), rfl⟩, _, _, rfl, rfl, _, rfl, ?_⟩
      rw [SX.S_len, decide_eq_false (show ¬ (8 : Int) < ((l.length : Nat) : Int) by omega)]
      refine iteF ⟨_, rfl, _, rfl, fun D nD => lc_fm L2.walk_str (fun i => some (.bl (decide (97 ≤ l.getD i 0) && decide (l.getD i 0 < 123)))) (fun H' => Ex H H') (fun H' z e => ex_mut e nD) (.refl H) (by show l.toArray.size ≤ 100000; simpa using Nat.le_trans hz (by decide)) (fun _ _ => trivial) (fun i x H1 H2 acc N hi e hD la y k => ?_) fun H1 e1 d1 => ?_⟩
      · obtain ⟨rfl, c, hc, rfl⟩ := y
        refine ⟨rfl, _, rfl, c, _, rfl, rfl, acc, hD, la, ?_⟩
        rw [abc_in]
        have e2 : l.getD i 0 = c := by
          have hc2 : l[i]? = some c := by simpa using hc
          rw [List.getD_eq_getElem?_getD, hc2]
          rfl
        have k2 := k H2 e hD
        rw [e2] at k2
        exact k2
      · refine ⟨D, l.map fun c => decide (97 ≤ c) && decide (c < 123), rfl, sq_lst ?_, ?_⟩
        · rw [d1]
          have e3 := range_map_get l 0 (fun c => V.bl (decide (97 ≤ c) && decide (c < 123)))
          have e4 : l.toArray.size = l.length := by simp
          show some (HO.lst (List.filterMap _ (List.range l.toArray.size))) = _
          rw [e4, e3, List.map_map]
          rfl
        · have e5 : (l.map fun c => decide (97 ≤ c) && decide (c < 123)).all id = l.all fun c => decide (97 ≤ c) && decide (c < 123) := by
            rw [List.all_map]
            rfl
          rw [e5]
          exact q2 H1 e1
    · rw [ClS.no (K := K) (H := H) n] at q
      exact ⟨_, rfl, _, _, _, _, false, rfl, .ty _, ty, kt, _, rfl, iteT (q H (.refl H))⟩
theorem ok_is_name {P : Program} {w : World} {K : PySem.W.Frag} {mg : Str → Option Value} {base : Heap} (T : Env K mg) : Fc P w K mg base 1 (He.ga K "is_name") [] (sp_is_name K ) := by
  obtain ⟨fd, D, F⟩ := fb_is_name T
  exact F.all (D.bindsN fun _ _ _ _ _ _ us hl => match us, hl with | [_], _ => rfl)
end
section
def sp_notes_of (K : PySem.W.Frag) : Sp := fun vs H Q E => ∃ y r, vs = [y] ∧ NtX K H y r ∧ (∀ ws, r = some ws → ∀ p H', Ex H H' → H p = none → H' p = some (.tup (ws.map V.str)) → Q (.ref p) H') ∧ (r = none → ∀ H', Ex H H' → E (.ref (He.ga K "NoCard")) none H')
theorem fb_notes_of {P : Program} {w : World} {K : PySem.W.Frag} {mg : Str → Option Value} {base : Heap} (T : Env K mg) : ∃ fd, FunD K "notes_of" "notes_of" (defArgs s_notes_of) (defBody s_notes_of) (defScope s_notes_of) [] [] (He.ga K "notes_of") fd ∧ Fb P w K mg base 2 (He.ga K "notes_of") fd ["notes"] (sp_notes_of K) := by
  obtain ⟨fd, F⟩ := T.f_notes_of
  refine ⟨fd, F, fb_of F sc_notes_of (fun vs H Q E h => ?_) (fun cdv A outer s H vs Q E hr h => ?_)⟩
  · obtain ⟨y, r, rfl, _⟩ := h
    rfl
  · obtain ⟨y, r, rfl, hN, q, qe⟩ := h
    refine ⟨_, (pss_cons (ps_if (pt_cmpR op_isN (pv 0) pe_non (nomark _))
      (pss_one (ps_ret (pe_tup pa_nil)))
      pss_nil)
      (pss_cons (ps_if (PW.pt (pw_or (pt_not (pt_val (pe_callB call_isiT (by rfl) T.n_isinstance (by decide +kernel) (pa_cons (pv 0) (pa_cons (pe_tup (pa_cons (pe_bltn (v := .ty "list") (by rfl) T.n_list (by decide +kernel) rfl) (pa_cons (pe_bltn (v := .ty "tuple") (by rfl) T.n_tuple (by decide +kernel) rfl) pa_nil))) pa_nil))))) (pw_or1 (pt_not (pt_val (pe_callB (cr_all rfl) (by rfl) T.n_all (by decide +kernel) (pa_cons (pe_lc (own := [("note", 1)]) (by rfl) sc_notes_of.nd (pi_seqB (pv 0) K) (blkOk_by (own := [("note", 1)]) (N := ["notes", "note"]) (sc := defScope s_notes_of) (by decide +kernel)) (fun _ _ _ _ _ => (pg_name (i := 1) sc_notes_of.nd rfl (Or.inl rfl))) (fun _ _ _ _ _ => pts_nil) (fun _ _ _ _ _ => (c_call (ok_is_name T) (hr.mono (by decide)) T.g_is_name T.k_is_name takes0 (pa_cons (pv 1) pa_nil)))) pa_nil)))))))
      (pss_one (ps_raise rfl (takes_of rfl rfl rfl rfl) (pmk_own PySem.F.excBase_ValueError T.x_NoCard.x T.g_NoCard T.x_NoCard.kp (raises_own T.x_NoCard.sub T.x_NoCard.ty) rfl)))
      pss_nil)
      (pss_cons (ps_if (pt_cmpR op_lt (pe_callB cr_lenT (by rfl) T.n_len (by decide +kernel) (pa_cons (pe_callTy (cr_setT K rfl) (by rfl) T.n_set (by decide +kernel) (pa_cons (pv 0) pa_nil)) pa_nil)) (pe_callB call_len (by rfl) T.n_len (by decide +kernel) (pa_cons (pv 0) pa_nil)) (nomark _))
      (pss_one (ps_raise rfl (takes_of rfl rfl rfl rfl) (pmk_own PySem.F.excBase_ValueError T.x_NoCard.x T.g_NoCard T.x_NoCard.kp (raises_own T.x_NoCard.sub T.x_NoCard.ty) rfl)))
      pss_nil)
      (pss_one (ps_ret (pe_callTy call_tuple_of (by rfl) T.n_tuple (by decide +kernel) (pa_cons (pe_callB (cr_sortedT K) (by rfl) T.n_sorted (by decide +kernel) (pa_cons (pv 0) pa_nil)) pa_nil))))))), ?_⟩
    rcases hN with ⟨rfl, rfl⟩ | ⟨a, xs, rfl, hx, hl, hv, rfl⟩ | ⟨n, t, ty, kt, rfl⟩
    · refine ⟨_, rfl, rfl, _, rfl, (by decide), fun a1 na1 => ?_⟩
      exact q [] rfl a1 _ (ex_new na1) na1 upd_same
    · refine ⟨_, rfl, rfl, _, rfl, ?_⟩
      rw [decide_eq_false (show ¬ V.ref a = V.non from nofun)]
      refine iteF ?_
      refine ⟨_, rfl, (by decide), ?_⟩
      intro a1 na1
      have Xa1 := ex_new (o := HO.tup [V.ty "list", V.ty "tuple"]) na1
      have ha1 : upd H a1 (HO.tup [V.ty "list", V.ty "tuple"]) a1 = some (HO.tup [V.ty "list", V.ty "tuple"]) := upd_same
      generalize upd H a1 (HO.tup [V.ty "list", V.ty "tuple"]) = Ga1 at Xa1 ha1 ⊢
      have ty : ∃ t, TyX K Ga1 (.ref a) t ∧ PySem.W.kitAny K t [.type "list", .type "tuple"] = some true := by
        rcases hx with h | h
        · exact ⟨_, .base (.lst (Xa1 _ _ h)), kitAny_cons (b := true) (kit_ty (by decide +kernel)) (fun z => nomatch z) (fun _ => rfl)⟩
        · exact ⟨_, .base (.tup (Xa1 _ _ h)), kitAny_cons (b := false) (kit_ty (by decide +kernel)) (fun _ => kitAny_cons (b := true) (kit_ty (by decide +kernel)) (fun z => nomatch z) (fun _ => rfl)) (by decide)⟩
      obtain ⟨t, ty, kt⟩ := ty
      have sq : ∀ {H' : Hp}, Ex H H' → SqS K H' a xs := fun {H'} e => by
        rcases hx with h | h
        · exact .inl (sq_lst (e _ _ h))
        · exact .inr (sq_tup (e _ _ h))
      refine ⟨.ref a, a1, _, t, _, true, rfl, ha1, .cons (.ty "list") (.cons (.ty "tuple") .nil), ty, kt, true, rfl, iteF ?_⟩
      refine ⟨_, rfl, a, xs, rfl, sq Xa1, fun J G wk hG A nA => lc_fm wk (fun i => (xs[i]?).map fun x => V.bl (isNm x)) (fun H' => Ex Ga1 H') (fun H' l e => ex_mut e nA) (.refl _) (by omega) (fun H' e => hG H' (stays_ex e)) (fun i x H1 H2 acc N hi e hD la y k => ?_) (fun H1 e hD => ?_)⟩
      · obtain ⟨rfl, y⟩ := y
        have cl := (hv x (List.mem_of_getElem? y)).mono (Xa1.trans e)
        rw [y] at k
        refine ⟨rfl, _, rfl, x, rfl, cl, fun H3 X3 => ?_⟩
        exact ⟨acc, X3 _ _ hD, la, k H3 (e.trans X3) (X3 _ _ hD)⟩
      have eD : (List.range xs.length).filterMap (fun i => (xs[i]?).map fun x => V.bl (isNm x)) = (xs.map isNm).map V.bl := by
        have := range_fm (fun x => some (V.bl (isNm x))) xs
        simp only [Option.map_eq_bind]
        rw [List.map_map, ← List.filterMap_eq_map']
        exact this
      rw [eD] at hD
      have X1 := Xa1.trans e
      refine ⟨A, _, rfl, sq_lst hD, ?_⟩
      rw [show (xs.map isNm).all id = xs.all isNm by rw [List.all_map]; rfl]
      cases hm : xs.all isNm with
      | false =>
        refine ⟨false, rfl, iteT (qe ?_ H1 X1)⟩
        unfold notesR
        rw [hm]
        rfl
      | true =>
        have er : notesR xs = if (strL xs).Nodup then some (srtS (strL xs)) else none := by
          unfold notesR
          rw [hm]
          rfl
        rw [er] at q qe
        have exs := names_str hm
        obtain ⟨ws, hws⟩ : ∃ ws, ws = strL xs := ⟨_, rfl⟩
        rw [← hws] at q qe exs
        have lw : ws.length = xs.length := by rw [exs, List.length_map]
        subst exs
        clear er hws eD
        have sqH : ∀ {G : Hp}, Ex H G → SqL K G a (ws.map V.str) ∨ SqT K G a (ws.map V.str) := fun {G} e => sq e
        have lenH : ∀ {G : Hp}, Ex H G → LenV K (.ref a) G ws.length := fun {G} e => (sqH e).elim (fun z => .inl ⟨_, z, by rw [List.length_map]⟩) (fun z => .inr ⟨_, z, by rw [List.length_map]⟩)
        refine ⟨true, rfl, iteF ⟨_, rfl, a, ws, rfl, sqH X1, by omega, fun s ns => ?_⟩⟩
        have Xs := ex_new (o := SetTO P w s (dst [] ws)) ns
        have hs : upd H1 s (SetTO P w s (dst [] ws)) s = some (SetTO P w s (dst [] ws)) := upd_same
        have hdl : (dst [] ws).length < ws.length ↔ ¬ ws.Nodup := by
          constructor
          · intro h1 h2
            have := dst_full ws [] h2 nofun
            rw [List.length_nil] at this
            omega
          · intro h1
            have := dst_less ws [] fun z => h1 z.1
            rw [List.length_nil] at this
            omega
        generalize dst [] ws = ds at hs hdl Xs ⊢
        have X2 := X1.trans Xs
        refine ⟨s, _, rfl, hs, _, rfl, _, _, rfl, lenH X2, _, _, rfl, rfl, _, rfl, ?_⟩
        by_cases nd : ws.Nodup
        · rw [decide_eq_false (show ¬ ((ds.length : Nat) : Int) < ((ws.length : Nat) : Int) from fun z => hdl.mp (by omega) nd)]
          refine iteF ⟨_, rfl, a, ws, rfl, sqH X2, fun p np => ?_⟩
          have Xp := ex_new (o := .lst ((srtS ws).map V.str)) np
          refine ⟨p, _, rfl, .inl ⟨sq_lst upd_same, fun t nt => ?_⟩⟩
          have Xt := ex_new (o := .tup ((srtS ws).map V.str)) nt
          exact q _ (if_pos nd) t _ ((X2.trans Xp).trans Xt) (ex_fresh (X2.trans Xp) nt) upd_same
        · rw [decide_eq_true (show ((ds.length : Nat) : Int) < ((ws.length : Nat) : Int) from by have := hdl.mpr nd; omega)]
          exact iteT (qe (if_neg nd) _ X2)
    · refine ⟨_, rfl, rfl, _, rfl, ?_⟩
      rw [decide_eq_false n]
      refine iteF ?_
      refine ⟨_, rfl, (by decide), ?_⟩
      intro a1 na1
      have Xa1 := ex_new (o := HO.tup [V.ty "list", V.ty "tuple"]) na1
      have ha1 : upd H a1 (HO.tup [V.ty "list", V.ty "tuple"]) a1 = some (HO.tup [V.ty "list", V.ty "tuple"]) := upd_same
      generalize upd H a1 (HO.tup [V.ty "list", V.ty "tuple"]) = Ga1 at Xa1 ha1 ⊢
      exact ⟨y, a1, _, t, _, false, rfl, ha1, .cons (.ty "list") (.cons (.ty "tuple") .nil), tyX_mono Xa1 ty, kt, false, rfl, iteT (iteT (qe rfl _ Xa1))⟩
theorem ok_notes_of {P : Program} {w : World} {K : PySem.W.Frag} {mg : Str → Option Value} {base : Heap} (T : Env K mg) : Fc P w K mg base 2 (He.ga K "notes_of") [] (sp_notes_of K ) := by
  obtain ⟨fd, D, F⟩ := fb_notes_of T
  exact F.all (D.bindsN fun _ _ _ _ _ _ us hl => match us, hl with | [_], _ => rfl)
end
section
def isN (n : Int) (x : V) : Bool := isW x && (match x with | .int i => decide (n ≤ i) | _ => false)
def sp_is_number (K : PySem.W.Frag) : Sp := fun vs H Q _ => ∃ x n, vs = [x, .int n] ∧ Cl K H x ∧ Q (.bl (isN n x)) H
theorem fb_is_number {P : Program} {w : World} {K : PySem.W.Frag} {mg : Str → Option Value} {base : Heap} (T : Env K mg) : ∃ fd, FunD K "is_number" "is_number" (defArgs s_is_number) (defBody s_is_number) (defScope s_is_number) [] [] (He.ga K "is_number") fd ∧ Fb P w K mg base 1 (He.ga K "is_number") fd ["thing", "least"] (sp_is_number K) := by
  obtain ⟨fd, F⟩ := T.f_is_number
  refine ⟨fd, F, fb_of F sc_is_number (fun vs H Q E h => ?_) (fun cdv A outer s H vs Q E hr h => ?_)⟩
  · obtain ⟨x, n, rfl, _⟩ := h
    rfl
  · obtain ⟨x, n, rfl, ⟨t, b, c, ty, h1, h2, e⟩, q⟩ := h
    refine ⟨_, (pss_one (ps_ret (pe_and (pe_callB call_isi (by rfl) T.n_isinstance (by decide +kernel) (pa_cons (pv 0) (pa_cons (pe_bltn (v := .ty "int") (by rfl) T.n_int (by decide +kernel) rfl) pa_nil))) (pe_and (pe_not (pe_callB call_isi (by rfl) T.n_isinstance (by decide +kernel) (pa_cons (pv 0) (pa_cons (pe_bltn (v := .ty "bool") (by rfl) T.n_bool (by decide +kernel) rfl) pa_nil)))) (pe_one (pe_cmpR op_ge (pv 0) (pv 1) (nomark _))))))), ?_⟩
    refine ⟨x, rfl, x, .ty "int", t, _, b, rfl, .ty "int", ty, h1, b, rfl, ?_⟩
    unfold isN at q
    rw [e] at q
    cases b with
    | false => exact q
    | true =>
      refine ⟨x, rfl, x, .ty "bool", t, _, c, rfl, .ty "bool", ty, h2, c, rfl, ?_⟩
      cases c with
      | true => exact ⟨false, rfl, q⟩
      | false =>
        refine ⟨true, rfl, iteT ?_⟩
        cases x with
        | int i => exact ⟨_, rfl, _, rfl, i, n, rfl, rfl, q⟩
        | _ => cases e
theorem ok_is_number {P : Program} {w : World} {K : PySem.W.Frag} {mg : Str → Option Value} {base : Heap} (T : Env K mg) : Fc P w K mg base 1 (He.ga K "is_number") [] (sp_is_number K ) := by
  obtain ⟨fd, D, F⟩ := fb_is_number T
  exact F.all (D.bindsN fun _ _ _ _ _ _ us hl => match us, hl with | [_, _], _ => rfl)
end
section
abbrev AtC (K : PySem.W.Frag) : Addr := He.ga K "At"
/-- at a an At of a moment -/
def AtAt (K : PySem.W.Frag) (H : Hp) (a : Addr) (n : Nat) : Prop := ∃ dx, H a = some (.ins (AtC K) dx [("moment", .int (n : Nat))])
theorem AtAt.mono {K : PySem.W.Frag} {H H' : Hp} {a : Addr} {n : Nat} (h : AtAt K H a n) (e : Ex H H') : AtAt K H' a n := let ⟨dx, h⟩ := h; ⟨dx, e _ _ h⟩
def sp_At_init (K : PySem.W.Frag) : Sp := fun vs H Q E => ∃ a dx x, vs = [.ref a, x] ∧ H a = some (.ins (AtC K) dx []) ∧ Cl K H x ∧ (isN 0 x = true → Q .non (upd H a (.ins (AtC K) dx [("moment", x)]))) ∧ (isN 0 x = false → E (.ref (He.ga K "NoPiece")) none H)
theorem fb_At_init {P : Program} {w : World} {K : PySem.W.Frag} {mg : Str → Option Value} {base : Heap} (T : Env K mg) : ∃ fd, FunD K "__init__" "At.__init__" (defArgs s_At_init) (defBody s_At_init) (defScope s_At_init) [] [] (He.ma K (He.ga K "At") "__init__") fd ∧ Fb P w K mg base 2 (He.ma K (He.ga K "At") "__init__") fd ["self", "moment"] (sp_At_init K) := by
  obtain ⟨fd, F⟩ := T.f_At_init
  refine ⟨fd, F, fb_of F sc_At_init (fun vs H Q E h => ?_) (fun cdv A outer s H vs Q E hr h => ?_)⟩
  · obtain ⟨a, dx, x, rfl, _⟩ := h
    rfl
  · obtain ⟨a, dx, x, rfl, ha, cl, q, qe⟩ := h
    refine ⟨_, (pss_cons (ps_if (pt_not (pt_val (c_call (ok_is_number T) (hr.mono (by decide)) T.g_is_number T.k_is_number (takes_of rfl rfl rfl rfl) (pa_cons (pv 1) (pa_cons pe_int pa_nil)))))
      (pss_one (ps_raise rfl (takes_of rfl rfl rfl rfl) (pmk_own PySem.F.excBase_ValueError T.x_NoPiece.x T.g_NoPiece T.x_NoPiece.kp (raises_own T.x_NoPiece.sub T.x_NoPiece.ty) rfl)))
      pss_nil)
      (pss_one (ps_fld (pv 0) (pv 1) rfl))), ?_⟩
    refine ⟨_, rfl, x, 0, rfl, cl, _, rfl, ?_⟩
    cases e : isN 0 x with
    | false => exact qe e
    | true =>
      refine iteF ?_
      refine ⟨_, rfl, _, rfl, a, _, dx, [], rfl, ha, T.c_At, T.a_At_moment, by decide, ?_⟩
      exact q e
theorem isN_nat {n m : Nat} (h : m ≤ n) : isN (m : Int) (.int (n : Nat)) = true := by
  show (true && decide ((m : Int) ≤ (n : Int))) = true
  rw [decide_eq_true (by omega)]
  rfl
theorem at_new {K : PySem.W.Frag} {H : Hp} {x dx : Addr} {n : Nat} {Q : VK} {E : XK} (nx : H x = none) (nd : H dx = none) (ne : dx ≠ x) (q : ∀ H', Ex H H' → AtAt K H' x n → Q .non H') :
    sp_At_init K [.ref x, .int (n : Nat)] (upd (upd H dx (.own x)) x (.ins (AtC K) dx [])) Q E := by
  refine ⟨x, dx, _, rfl, upd_same, cl_int _, fun _ => q _ ?_ ⟨dx, upd_same⟩, fun z => ?_⟩
  · exact ex_mut (ex_made nx nd ne) nx
  · rw [show isN 0 (.int (n : Nat)) = true from isN_nat (m := 0) (Nat.zero_le _)] at z
    cases z
theorem ok_At_init {P : Program} {w : World} {K : PySem.W.Frag} {mg : Str → Option Value} {base : Heap} (T : Env K mg) : Fc P w K mg base 2 (He.ma K (He.ga K "At") "__init__") [] (sp_At_init K ) := by
  obtain ⟨fd, D, F⟩ := fb_At_init T
  exact F.all (D.bindsN fun _ _ _ _ _ _ us hl => match us, hl with | [_, _], _ => rfl)
end
section
def sp_At_ends (K : PySem.W.Frag) : Sp := fun vs H Q _ => ∃ a n, vs = [.ref a] ∧ AtAt K H a n ∧ Q (.int (n : Nat)) H
theorem fb_At_ends {P : Program} {w : World} {K : PySem.W.Frag} {mg : Str → Option Value} {base : Heap} (T : Env K mg) : ∃ fd, FunD K "ends" "At.ends" (defArgs s_At_ends) (defBody s_At_ends) (defScope s_At_ends) [] [] (He.ma K (He.ga K "At") "ends") fd ∧ Fb P w K mg base 1 (He.ma K (He.ga K "At") "ends") fd ["self"] (sp_At_ends K) := by
  obtain ⟨fd, F⟩ := T.f_At_ends
  refine ⟨fd, F, fb_of F sc_At_ends (fun vs H Q E h => ?_) (fun cdv A outer s H vs Q E hr h => ?_)⟩
  · obtain ⟨a, n, rfl, _⟩ := h
    rfl
  · obtain ⟨a, n, rfl, ⟨dx, ha⟩, q⟩ := h
    refine ⟨_, (pss_one (ps_ret (pe_fld (pv 0) (by rfl)))), ?_⟩
    exact ⟨_, rfl, a, _, dx, _, _, rfl, ha, T.c_At, T.a_At_moment, rfl, q⟩
theorem ok_At_ends {P : Program} {w : World} {K : PySem.W.Frag} {mg : Str → Option Value} {base : Heap} (T : Env K mg) : Fc P w K mg base 1 (He.ma K (He.ga K "At") "ends") [] (sp_At_ends K ) := by
  obtain ⟨fd, D, F⟩ := fb_At_ends T
  exact F.all (D.bindsN fun _ _ _ _ _ _ us hl => match us, hl with | [_], _ => rfl)
end
section
/-- the moments of ns, over and over -/
def overN (ns : List Nat) (m s : Nat) : List Nat := (List.range m).flatMap fun t => ns.map fun n => n + t * s
theorem overN_len (ns : List Nat) (m s : Nat) : (overN ns m s).length = m * ns.length := by
  unfold overN
  induction m with
  | zero => simp
  | succ m ih =>
    rw [List.range_succ, List.flatMap_append, List.length_append, ih]
    simp
    rw [Nat.add_mul, Nat.one_mul]
theorem overN_succ (ns : List Nat) (m s : Nat) : overN ns (m + 1) s = overN ns m s ++ ns.map fun n => n + m * s := by
  unfold overN
  rw [List.range_succ, List.flatMap_append]
  simp
/-- shorts -/
inductive Tr where
  | at (n : Nat)
  | ov (ps : List Tr) (m s : Nat)
mutual
def Tr.moms : Tr → List Nat
  | .at n => [n]
  | .ov ps m s => overN (momsL ps) m s
def momsL : List Tr → List Nat
  | [] => []
  | t :: ts => t.moms ++ momsL ts
end
mutual
def Tr.nest : Tr → Nat
  | .at _ => 0
  | .ov ps _ _ => 1 + nestL ps
def nestL : List Tr → Nat
  | [] => 0
  | t :: ts => max t.nest (nestL ts)
end
theorem momsL_app (a b : List Tr) : momsL (a ++ b) = momsL a ++ momsL b := by
  induction a with
  | nil => simp [momsL]
  | cons t r ih => simp [momsL, ih]
theorem nestL_mem {t : Tr} : ∀ {ts : List Tr}, t ∈ ts → t.nest ≤ nestL ts
  | x :: r, h => by
    show _ ≤ max x.nest (nestL r)
    rcases List.mem_cons.mp h with rfl | h
    · exact Nat.le_max_left _ _
    · exact Nat.le_trans (nestL_mem h) (Nat.le_max_right _ _)
theorem nestL_max : ∀ {ts : List Tr}, ts ≠ [] → ∃ t ∈ ts, t.nest = nestL ts
  | [t], _ => ⟨t, List.mem_cons_self, by show _ = max t.nest 0; omega⟩
  | t :: x :: r, _ => by
    obtain ⟨y, hy, e⟩ := nestL_max (ts := x :: r) (by simp)
    have e2 : nestL (t :: x :: r) = max t.nest (nestL (x :: r)) := by simp [nestL]
    by_cases c : nestL (x :: r) ≤ t.nest
    · exact ⟨t, List.mem_cons_self, by omega⟩
    · exact ⟨y, List.mem_cons_of_mem _ hy, by omega⟩
theorem momsL_take {ts : List Tr} {i : Nat} {t : Tr} (h : ts[i]? = some t) : momsL (ts.take (i + 1)) = momsL (ts.take i) ++ t.moms := by
  rw [take_snoc h, momsL_app]
  simp [momsL]
theorem momsL_take_len (ts : List Tr) (i : Nat) : (momsL (ts.take i)).length ≤ (momsL ts).length := by
  conv => rhs; rw [← List.take_append_drop i ts, momsL_app, List.length_append]
  omega
mutual
/-- a short that may be made -/
def Tr.ok : Tr → Prop
  | .at _ => True
  | .ov ps m s => ps ≠ [] ∧ 2 ≤ m ∧ 1 ≤ s ∧ m * (momsL ps).length ≤ 1440 ∧ (momsL ps).getLastD 0 < s + (momsL ps).headD 0 ∧ (momsL ps).Pairwise (· < ·) ∧ okL_ ps
def okL_ : List Tr → Prop
  | [] => True
  | t :: ts => t.ok ∧ okL_ ts
end
theorem okL_mem {t : Tr} : ∀ {ts : List Tr}, okL_ ts → t ∈ ts → t.ok
  | x :: r, h, hm => by
    unfold okL_ at h
    rcases List.mem_cons.mp hm with rfl | hm
    · exact h.1
    · exact okL_mem h.2 hm
theorem pos_moms (t : Tr) (h : t.ok) : 1 ≤ t.moms.length := by
  match t, h with
  | .at n, _ =>
    unfold Tr.moms
    exact Nat.le_refl _
  | .ov (x :: r) m s, h =>
    unfold Tr.ok at h
    obtain ⟨_, h2, _, _, _, _, h7⟩ := h
    unfold Tr.moms
    rw [overN_len]
    have hx : 1 ≤ x.moms.length := pos_moms x (by unfold okL_ at h7; exact h7.1)
    have : 1 ≤ (momsL (x :: r)).length := by
      unfold momsL
      rw [List.length_append]
      omega
    exact Nat.le_trans (by decide) (Nat.mul_le_mul h2 this)
  | .ov [] m s, h =>
    unfold Tr.ok at h
    exact absurd rfl h.1
theorem len_moms : ∀ {ts : List Tr}, okL_ ts → ts.length ≤ (momsL ts).length
  | [], _ => Nat.le_refl _
  | t :: ts, h => by
    unfold okL_ at h
    have h1 := pos_moms t h.1
    have h2 := len_moms h.2
    unfold momsL
    rw [List.length_cons, List.length_append]
    omega
theorem ov_facts {ps : List Tr} {m s : Nat} (h : (Tr.ov ps m s).ok) : ps ≠ [] ∧ 2 ≤ m ∧ m ≤ 1440 ∧ m * (momsL ps).length ≤ 1440 ∧ (momsL ps).length ≤ 1440 ∧ ps.length ≤ 1440 ∧ okL_ ps := by
  unfold Tr.ok at h
  obtain ⟨h1, h2, h3, h4, _, _, h7⟩ := h
  have h8 := len_moms h7
  have h9 : 0 < ps.length := List.length_pos_iff.mpr h1
  have h10 : m ≤ m * (momsL ps).length := Nat.le_mul_of_pos_right m (by omega)
  have h11 : (momsL ps).length ≤ m * (momsL ps).length := Nat.le_mul_of_pos_left _ (by omega)
  exact ⟨h1, h2, by omega, h4, by omega, by omega, h7⟩
theorem momsL_few : ∀ {ts : List Tr}, okL_ ts → (momsL ts).length ≤ 1440 * ts.length
  | [], _ => by
    unfold momsL
    exact Nat.zero_le _
  | t :: r, h => by
    have h1 : t.moms.length ≤ 1440 := by
      have h2 := h
      unfold okL_ at h2
      cases t with
      | «at» n =>
        unfold Tr.moms
        show 1 ≤ 1440
        decide
      | ov ps m s =>
        have h3 := h2.1
        unfold Tr.ok at h3
        unfold Tr.moms
        rw [overN_len]
        exact h3.2.2.2.1
    have h2 : (momsL r).length ≤ 1440 * r.length := momsL_few (by unfold okL_ at h; exact h.2)
    unfold momsL
    rw [List.length_append, List.length_cons]
    omega
theorem ov_nest {ps : List Tr} {m s d : Nat} (h : (Tr.ov ps m s).nest ≤ d + 1) : nestL ps ≤ d := by
  unfold Tr.nest at h
  omega
theorem headD_app {a b : List Nat} (h : a ≠ []) : (a ++ b).headD 0 = a.headD 0 := by
  cases a with
  | nil => exact absurd rfl h
  | cons x r => rfl
theorem lastD_app {a b : List Nat} (h : b ≠ []) : (a ++ b).getLastD 0 = b.getLastD 0 := by
  rw [List.getLastD_eq_getLast?, List.getLastD_eq_getLast?, List.getLast?_append]
  cases hb : b.getLast? with
  | none => exact absurd (List.getLast?_eq_none_iff.mp hb) h
  | some x => rfl
theorem lastD_map {a : List Nat} (k : Nat) (h : a ≠ []) : (a.map fun n => n + k).getLastD 0 = a.getLastD 0 + k := by
  rw [List.getLastD_eq_getLast?, List.getLastD_eq_getLast?, List.getLast?_map]
  cases hb : a.getLast? with
  | none => exact absurd (List.getLast?_eq_none_iff.mp hb) h
  | some x => rfl
theorem overN_head {ns : List Nat} {s : Nat} (h : ns ≠ []) : ∀ m, 1 ≤ m → (overN ns m s).headD 0 = ns.headD 0
  | 1, _ => by
    rw [overN_succ]
    show ([] ++ ns.map fun n => n + 0 * s).headD 0 = _
    cases ns with
    | nil => exact absurd rfl h
    | cons x r => simp
  | m + 2, _ => by
    have ih := overN_head (s := s) h (m + 1) (by omega)
    have ne : overN ns (m + 1) s ≠ [] := fun z => by
      have := congrArg List.length z
      rw [overN_len] at this
      have p : 0 < ns.length := List.length_pos_iff.mpr h
      have : (m + 1) * ns.length = 0 := this
      have := Nat.mul_pos (show 0 < m + 1 by omega) p
      omega
    rw [overN_succ, headD_app ne, ih]
theorem overN_last {ns : List Nat} {m s : Nat} (h : ns ≠ []) (hm : 1 ≤ m) : (overN ns m s).getLastD 0 = ns.getLastD 0 + (m - 1) * s := by
  obtain ⟨k, rfl⟩ : ∃ k, m = k + 1 := ⟨m - 1, by omega⟩
  rw [overN_succ, lastD_app (by intro z; exact h (List.map_eq_nil_iff.mp z)), lastD_map _ h]
  rfl
theorem moms_ne {t : Tr} (h : t.ok) : t.moms ≠ [] := fun z => by
  have := pos_moms t h
  rw [z] at this
  exact absurd this (by decide)
theorem momsL_ne {ts : List Tr} (h : okL_ ts) (h0 : ts ≠ []) : momsL ts ≠ [] := fun z => by
  have h1 := len_moms h
  rw [z] at h1
  exact h0 (List.length_eq_zero_iff.mp (Nat.le_zero.mp h1))
theorem momsL_head {t : Tr} {ts : List Tr} (h : okL_ (t :: ts)) : (momsL (t :: ts)).headD 0 = t.moms.headD 0 := by
  have e : momsL (t :: ts) = t.moms ++ momsL ts := by simp [momsL]
  rw [e, headD_app (moms_ne (okL_mem h List.mem_cons_self))]
theorem momsL_last {t : Tr} {ts : List Tr} (h : okL_ (ts ++ [t])) : (momsL (ts ++ [t])).getLastD 0 = t.moms.getLastD 0 := by
  have ht : t.ok := okL_mem h (List.mem_append_right _ List.mem_cons_self)
  have e : momsL [t] = t.moms := by simp [momsL]
  rw [momsL_app, e, lastD_app (moms_ne ht)]
theorem last_ref {as : List Addr} (h : as ≠ []) : ∃ b, as[as.length - 1]? = some b ∧ atI (as.map V.ref) (-1) = some (.ref b) := by
  refine ⟨as.getLast h, ?_, ?_⟩
  · have p : 0 < as.length := List.length_pos_iff.mpr h
    rw [List.getLast_eq_getElem, List.getElem?_eq_getElem (by omega)]
  · have e := (List.dropLast_concat_getLast h).symm
    generalize as.getLast h = z at e
    rw [e, List.map_append]
    exact atI_last _ _
/-- rising: each behind the end of the one ahead -/
def risB (ts : List Tr) : Bool := (ts.zip (ts.drop 1)).all fun p => decide (p.1.moms.getLastD 0 < p.2.moms.headD 0)
theorem all_repT (n : Nat) : (List.replicate n true).all id = true := by
  induction n with
  | zero => rfl
  | succ n ih =>
    rw [List.replicate_succ, List.all_cons, ih]
    rfl
theorem lastD_mem {ns : List Nat} (h : ns ≠ []) : ns.getLastD 0 ∈ ns := by
  rw [List.getLastD_eq_getLast?, List.getLast?_eq_some_getLast h]
  exact List.getLast_mem h
theorem headD_mem {ns : List Nat} (h : ns ≠ []) : ns.headD 0 ∈ ns := by
  cases ns with
  | nil => exact absurd rfl h
  | cons x r => exact List.mem_cons_self
theorem ris_of : ∀ {ts : List Tr}, okL_ ts → (momsL ts).Pairwise (· < ·) → risB ts = true
  | [], _, _ => rfl
  | [t], _, _ => rfl
  | t :: x :: r, h, hs => by
    have hok : okL_ (x :: r) := by
      unfold okL_ at h
      exact h.2
    have e : momsL (t :: x :: r) = t.moms ++ momsL (x :: r) := by rw [momsL]
    rw [e] at hs
    obtain ⟨h1, h2, h3⟩ := List.pairwise_append.mp hs
    have ih := ris_of hok h2
    have lt := h3 _ (lastD_mem (moms_ne (okL_mem h List.mem_cons_self))) _ (headD_mem (momsL_ne hok (by simp)))
    rw [momsL_head hok] at lt
    show (decide (t.moms.getLastD 0 < x.moms.headD 0) && risB (x :: r)) = true
    rw [decide_eq_true lt, ih]
    rfl
end
section
abbrev OverC (K : PySem.W.Frag) : Addr := He.ga K "Over"
def overF (kp : Addr) (m s : Nat) : List (Str × V) := [("kept", .ref kp), ("many", .int (m : Nat)), ("step", .int (s : Nat))]
mutual
/-- at a this short -/
def ShAt (K : PySem.W.Frag) (H : Hp) : Tr → Addr → Prop
  | .at n, a => AtAt K H a n
  | .ov ps m s, a => ∃ dx kp as, H a = some (.ins (OverC K) dx (overF kp m s)) ∧ H kp = some (.tup (as.map V.ref)) ∧ ShsAt K H ps as
def ShsAt (K : PySem.W.Frag) (H : Hp) : List Tr → List Addr → Prop
  | [], as => as = []
  | t :: ts, as => ∃ a r, as = a :: r ∧ ShAt K H t a ∧ ShsAt K H ts r
end
mutual
theorem ShAt.mono {K : PySem.W.Frag} {H H' : Hp} (e : Ex H H') : ∀ {t : Tr} {a : Addr}, ShAt K H t a → ShAt K H' t a
  | .at n, a, h => by
    unfold ShAt at h ⊢
    exact AtAt.mono h e
  | .ov ps m s, a, h => by
    unfold ShAt at h ⊢
    obtain ⟨dx, kp, as, h1, h2, h3⟩ := h
    exact ⟨dx, kp, as, e _ _ h1, e _ _ h2, ShsAt.mono e h3⟩
theorem ShsAt.mono {K : PySem.W.Frag} {H H' : Hp} (e : Ex H H') : ∀ {ts : List Tr} {as : List Addr}, ShsAt K H ts as → ShsAt K H' ts as
  | [], as, h => by
    unfold ShsAt at h ⊢
    exact h
  | t :: ts, as, h => by
    unfold ShsAt at h ⊢
    obtain ⟨a, r, h1, h2, h3⟩ := h
    exact ⟨a, r, h1, ShAt.mono e h2, ShsAt.mono e h3⟩
end
theorem ShsAt.len {K : PySem.W.Frag} {H : Hp} : ∀ {ts : List Tr} {as : List Addr}, ShsAt K H ts as → as.length = ts.length
  | [], as, h => by
    unfold ShsAt at h
    rw [h]
    rfl
  | t :: ts, as, h => by
    unfold ShsAt at h
    obtain ⟨a, r, rfl, _, h3⟩ := h
    rw [List.length_cons, List.length_cons, ShsAt.len h3]
theorem ShsAt.get {K : PySem.W.Frag} {H : Hp} : ∀ {ts : List Tr} {as : List Addr} {i : Nat} {a : Addr}, ShsAt K H ts as → as[i]? = some a → ∃ t, ts[i]? = some t ∧ ShAt K H t a
  | [], as, i, a, h, hi => by
    unfold ShsAt at h
    rw [h] at hi
    cases hi
  | t :: ts, as, i, a, h, hi => by
    unfold ShsAt at h
    obtain ⟨b, r, rfl, h2, h3⟩ := h
    cases i with
    | zero =>
      cases hi
      exact ⟨t, rfl, h2⟩
    | succ i => exact ShsAt.get (i := i) h3 hi
/-- nothing in it is a list -/
theorem ShAt.ins {K : PySem.W.Frag} {H : Hp} {t : Tr} {a : Addr} (h : ShAt K H t a) : ∃ C dx fs, H a = some (.ins C dx fs) := by
  cases t with
  | «at» n =>
    unfold ShAt at h
    obtain ⟨dx, h⟩ := h
    exact ⟨_, dx, _, h⟩
  | ov ps m s =>
    unfold ShAt at h
    obtain ⟨dx, kp, as, h1, _⟩ := h
    exact ⟨_, dx, _, h1⟩
mutual
theorem ShAt.oth {K : PySem.W.Frag} {H H' : Hp} {d : Addr} (o : Oth d H H') (hd : ∀ ob, H d = some ob → (∃ xs, ob = .lst xs)) : ∀ {t : Tr} {a : Addr}, ShAt K H t a → ShAt K H' t a
  | .at n, a, h => by
    unfold ShAt at h ⊢
    obtain ⟨dx, h⟩ := h
    refine ⟨dx, o _ _ (fun z => ?_) h⟩
    obtain ⟨xs, e⟩ := hd _ (z ▸ h)
    cases e
  | .ov ps m s, a, h => by
    unfold ShAt at h ⊢
    obtain ⟨dx, kp, as, h1, h2, h3⟩ := h
    refine ⟨dx, kp, as, o _ _ (fun z => ?_) h1, o _ _ (fun z => ?_) h2, ShsAt.oth o hd h3⟩
    · obtain ⟨xs, e⟩ := hd _ (z ▸ h1)
      cases e
    · obtain ⟨xs, e⟩ := hd _ (z ▸ h2)
      cases e
theorem ShsAt.oth {K : PySem.W.Frag} {H H' : Hp} {d : Addr} (o : Oth d H H') (hd : ∀ ob, H d = some ob → (∃ xs, ob = .lst xs)) : ∀ {ts : List Tr} {as : List Addr}, ShsAt K H ts as → ShsAt K H' ts as
  | [], as, h => by
    unfold ShsAt at h ⊢
    exact h
  | t :: ts, as, h => by
    unfold ShsAt at h ⊢
    obtain ⟨a, r, h1, h2, h3⟩ := h
    exact ⟨a, r, h1, ShAt.oth o hd h2, ShsAt.oth o hd h3⟩
end
def sp_Over_moments (K : PySem.W.Frag) (d : Nat) : Sp := fun vs H Q _ => ∃ a ps m s, vs = [.ref a] ∧ ShAt K H (.ov ps m s) a ∧ (Tr.ov ps m s).nest ≤ d ∧ (Tr.ov ps m s).ok ∧ ∀ p H', Ex H H' → H p = none → H' p = some (.lst (natV (Tr.ov ps m s).moms)) → Q (.ref p) H'
def sp_Over_means_many (K : PySem.W.Frag) (d : Nat) : Sp := fun vs H Q _ => ∃ a ps m s, vs = [.ref a] ∧ ShAt K H (.ov ps m s) a ∧ (Tr.ov ps m s).nest ≤ d ∧ okL_ ps ∧ ps.length ≤ 20000 ∧ ∀ H', Ex H H' → Q (.int ((m * (momsL ps).length : Nat) : Int)) H'
def sp_Over_nested (K : PySem.W.Frag) (d : Nat) : Sp := fun vs H Q _ => ∃ a ps m s, vs = [.ref a] ∧ ShAt K H (.ov ps m s) a ∧ (Tr.ov ps m s).nest ≤ d ∧ ps ≠ [] ∧ okL_ ps ∧ ps.length ≤ 20000 ∧ ∀ H', Ex H H' → Q (.int (((Tr.ov ps m s).nest : Nat) : Int)) H'
def sp_Over_begins (K : PySem.W.Frag) (d : Nat) : Sp := fun vs H Q _ => ∃ a ps m s, vs = [.ref a] ∧ ShAt K H (.ov ps m s) a ∧ (Tr.ov ps m s).nest ≤ d ∧ (Tr.ov ps m s).ok ∧ Q (.int ((((Tr.ov ps m s).moms.headD 0 : Nat)) : Int)) H
def sp_Over_ends (K : PySem.W.Frag) (d : Nat) : Sp := fun vs H Q _ => ∃ a ps m s, vs = [.ref a] ∧ ShAt K H (.ov ps m s) a ∧ (Tr.ov ps m s).nest ≤ d ∧ (Tr.ov ps m s).ok ∧ Q (.int ((((Tr.ov ps m s).moms.getLastD 0 : Nat)) : Int)) H
theorem ShsAt.snoc {K : PySem.W.Frag} {H : Hp} {t : Tr} {a : Addr} : ∀ {ts : List Tr} {as : List Addr}, ShsAt K H ts as → ShAt K H t a → ShsAt K H (ts ++ [t]) (as ++ [a])
  | [], as, h, ha => by
    unfold ShsAt at h
    rw [h]
    show ShsAt K H [t] [a]
    unfold ShsAt
    exact ⟨a, [], rfl, ha, by unfold ShsAt; rfl⟩
  | x :: ts, as, h, ha => by
    unfold ShsAt at h
    obtain ⟨b, r, rfl, h2, h3⟩ := h
    show ShsAt K H (x :: (ts ++ [t])) (b :: (r ++ [a]))
    unfold ShsAt
    exact ⟨b, r ++ [a], rfl, h2, ShsAt.snoc h3 ha⟩
end
section
theorem fb_Over_ends {P : Program} {w : World} {K : PySem.W.Frag} {mg : Str → Option Value} {base : Heap} (T : Env K mg) {d L : Nat} (hL : 40 ≤ L) (r_Over_ends : Fc P w K mg base L (He.ma K (He.ga K "Over") "ends") [] (sp_Over_ends K d)) : ∃ fd, FunD K "ends" "Over.ends" (defArgs s_Over_ends) (defBody s_Over_ends) (defScope s_Over_ends) [] [] (He.ma K (He.ga K "Over") "ends") fd ∧ Fb P w K mg base (L + 1) (He.ma K (He.ga K "Over") "ends") fd ["self"] (sp_Over_ends K (d + 1)) := by
  obtain ⟨fd, F⟩ := T.f_Over_ends
  refine ⟨fd, F, fb_of F sc_Over_ends (fun vs H Q E h => ?_) (fun cdv A outer s H vs Q E hr h => ?_)⟩
  · obtain ⟨a, ps, m, s, rfl, _⟩ := h
    rfl
  · obtain ⟨a, ps, m, s_, rfl, hO, hn, hok, q⟩ := h
    refine ⟨_, (pss_one (ps_ret (pe_op op_add (pe_orE (c_meth0 (pe_ix ix_tup (pe_fld (pv 0) (by rfl)) (pe_un un_neg pe_int) (fun _ _ => rfl)) T.c_At T.m_At_ends (ok_At_ends T) (hr.mono (by omega)) takes0) (c_meth0 (pe_ix ix_tup (pe_fld (pv 0) (by rfl)) (pe_un un_neg pe_int) (fun _ _ => rfl)) T.c_Over T.m_Over_ends r_Over_ends (hr.mono (by omega)) takes0)) (pe_op op_mul (pe_op op_sub (pe_fld (pv 0) (by rfl)) pe_int) (pe_fld (pv 0) (by rfl)))))), ?_⟩
    have hnL := ov_nest hn
    obtain ⟨o1, o2, _, _, _, _, o7⟩ := ov_facts hok
    have nn := momsL_ne o7 o1
    unfold Tr.moms at q
    obtain ⟨dx, kp, as, ha, hk, hA⟩ := (by unfold ShAt at hO; exact hO : ∃ dx kp as, H a = some (.ins (OverC K) dx (overF kp m s_)) ∧ H kp = some (.tup (as.map V.ref)) ∧ ShsAt K H ps as)
    rw [overN_last nn (by omega)] at q
    have hm := (ov_facts hok).2.2.1
    have hl1 := hA.len
    have as0 : as ≠ [] := fun z => by
      rw [z] at hl1
      exact o1 (List.length_eq_zero_iff.mp hl1.symm)
    obtain ⟨b, gb, aL⟩ := last_ref as0
    obtain ⟨t, ht, hS⟩ := hA.get gb
    have ep : ps = ps.dropLast ++ [t] := by
      have e := (List.dropLast_concat_getLast o1).symm
      have e2 : ps.getLast o1 = t := by
        rw [List.getLast_eq_getElem]
        rw [hl1] at ht
        obtain ⟨_, e⟩ := List.getElem?_eq_some_iff.mp ht
        exact e
      rw [e2] at e
      exact e
    have htm := List.mem_of_getElem? ht
    have eL : (momsL ps).getLastD 0 = t.moms.getLastD 0 := by
      rw [ep] at o7 ⊢
      exact momsL_last o7
    rw [eL] at q
    have ok := okL_mem o7 htm
    have tn := Nat.le_trans (nestL_mem htm) hnL
    have e : ((t.moms.getLastD 0 : Nat) : Int) + (((m : Nat) : Int) - 1) * ((s_ : Nat) : Int) = ((t.moms.getLastD 0 + (m - 1) * s_ : Nat) : Int) := by
      rw [Int.natCast_add, Int.natCast_mul, Int.natCast_sub (by omega)]
      rfl
    rw [← e] at q
    cases t with
    | «at» n =>
      unfold ShAt at hS
      obtain ⟨dy, h2⟩ := id hS
      unfold Tr.moms at q
      exact .inl ⟨_, rfl, a, _, dx, _, _, rfl, ha, T.c_Over, T.a_Over_kept, rfl, _, rfl, kp, _, _, _, rfl, rfl, sq_tup hk, aL, b, dy, _, rfl, h2, rfl, b, n, rfl, hS, _, rfl, a, _, dx, _, _, rfl, ha, T.c_Over, T.a_Over_many, rfl, _, _, rfl, rfl, _, rfl, a, _, dx, _, _, rfl, ha, T.c_Over, T.a_Over_step, rfl, _, _, rfl, rfl, .inl ⟨by omega, by omega⟩, _, _, rfl, rfl, q⟩
    | ov ps' m' s' =>
      obtain ⟨dy, kp', as', h2, _⟩ := (by unfold ShAt at hS; exact hS : ∃ dx kp as, H b = some (.ins (OverC K) dx (overF kp m' s')) ∧ H kp = some (.tup (as.map V.ref)) ∧ ShsAt K H ps' as)
      exact .inr ⟨_, rfl, a, _, dx, _, _, rfl, ha, T.c_Over, T.a_Over_kept, rfl, _, rfl, kp, _, _, _, rfl, rfl, sq_tup hk, aL, b, dy, _, rfl, h2, rfl, b, ps', m', s', rfl, hS, tn, ok, _, rfl, a, _, dx, _, _, rfl, ha, T.c_Over, T.a_Over_many, rfl, _, _, rfl, rfl, _, rfl, a, _, dx, _, _, rfl, ha, T.c_Over, T.a_Over_step, rfl, _, _, rfl, rfl, .inl ⟨by omega, by omega⟩, _, _, rfl, rfl, q⟩
theorem ok_Over_ends {P : Program} {w : World} {K : PySem.W.Frag} {mg : Str → Option Value} {base : Heap} (T : Env K mg) {d L : Nat} (hL : 40 ≤ L) (r_Over_ends : Fc P w K mg base L (He.ma K (He.ga K "Over") "ends") [] (sp_Over_ends K d)) : Fc P w K mg base (L + 1) (He.ma K (He.ga K "Over") "ends") [] (sp_Over_ends K (d + 1)) := by
  obtain ⟨fd, D, F⟩ := fb_Over_ends T hL r_Over_ends
  exact F.all (D.bindsN fun _ _ _ _ _ _ us hl => match us, hl with | [_], _ => rfl)
theorem all_Over_ends {P : Program} {w : World} {K : PySem.W.Frag} {mg : Str → Option Value} {base : Heap} (T : Env K mg) : ∀ d, Fc P w K mg base (40 + 1 * d) (He.ma K (He.ga K "Over") "ends") [] (sp_Over_ends K d)
  | 0 => fc_no fun vs H Q E h => by
    obtain ⟨a, ps, m, s, _, _, h, _⟩ := h
    unfold Tr.nest at h
    omega
  | d + 1 => ok_Over_ends T (Nat.le_add_right 40 _) (all_Over_ends T d)
end
section
def sp_At_begins (K : PySem.W.Frag) : Sp := fun vs H Q _ => ∃ a n, vs = [.ref a] ∧ AtAt K H a n ∧ Q (.int (n : Nat)) H
theorem fb_At_begins {P : Program} {w : World} {K : PySem.W.Frag} {mg : Str → Option Value} {base : Heap} (T : Env K mg) : ∃ fd, FunD K "begins" "At.begins" (defArgs s_At_begins) (defBody s_At_begins) (defScope s_At_begins) [] [] (He.ma K (He.ga K "At") "begins") fd ∧ Fb P w K mg base 1 (He.ma K (He.ga K "At") "begins") fd ["self"] (sp_At_begins K) := by
  obtain ⟨fd, F⟩ := T.f_At_begins
  refine ⟨fd, F, fb_of F sc_At_begins (fun vs H Q E h => ?_) (fun cdv A outer s H vs Q E hr h => ?_)⟩
  · obtain ⟨a, n, rfl, _⟩ := h
    rfl
  · obtain ⟨a, n, rfl, ⟨dx, ha⟩, q⟩ := h
    refine ⟨_, (pss_one (ps_ret (pe_fld (pv 0) (by rfl)))), ?_⟩
    exact ⟨_, rfl, a, _, dx, _, _, rfl, ha, T.c_At, T.a_At_moment, rfl, q⟩
theorem ok_At_begins {P : Program} {w : World} {K : PySem.W.Frag} {mg : Str → Option Value} {base : Heap} (T : Env K mg) : Fc P w K mg base 1 (He.ma K (He.ga K "At") "begins") [] (sp_At_begins K ) := by
  obtain ⟨fd, D, F⟩ := fb_At_begins T
  exact F.all (D.bindsN fun _ _ _ _ _ _ us hl => match us, hl with | [_], _ => rfl)
end
section
theorem fb_Over_begins {P : Program} {w : World} {K : PySem.W.Frag} {mg : Str → Option Value} {base : Heap} (T : Env K mg) {d L : Nat} (hL : 40 ≤ L) (r_Over_begins : Fc P w K mg base L (He.ma K (He.ga K "Over") "begins") [] (sp_Over_begins K d)) : ∃ fd, FunD K "begins" "Over.begins" (defArgs s_Over_begins) (defBody s_Over_begins) (defScope s_Over_begins) [] [] (He.ma K (He.ga K "Over") "begins") fd ∧ Fb P w K mg base (L + 1) (He.ma K (He.ga K "Over") "begins") fd ["self"] (sp_Over_begins K (d + 1)) := by
  obtain ⟨fd, F⟩ := T.f_Over_begins
  refine ⟨fd, F, fb_of F sc_Over_begins (fun vs H Q E h => ?_) (fun cdv A outer s H vs Q E hr h => ?_)⟩
  · obtain ⟨a, ps, m, s, rfl, _⟩ := h
    rfl
  · obtain ⟨a, ps, m, s_, rfl, hO, hn, hok, q⟩ := h
    refine ⟨_, (pss_one (ps_ret (pe_orE (c_meth0 (pe_ix ix_tup (pe_fld (pv 0) (by rfl)) pe_int (fun _ _ => rfl)) T.c_At T.m_At_begins (ok_At_begins T) (hr.mono (by omega)) takes0) (c_meth0 (pe_ix ix_tup (pe_fld (pv 0) (by rfl)) pe_int (fun _ _ => rfl)) T.c_Over T.m_Over_begins r_Over_begins (hr.mono (by omega)) takes0)))), ?_⟩
    have hnL := ov_nest hn
    obtain ⟨o1, o2, _, _, _, _, o7⟩ := ov_facts hok
    have nn := momsL_ne o7 o1
    unfold Tr.moms at q
    obtain ⟨dx, kp, as, ha, hk, hA⟩ := (by unfold ShAt at hO; exact hO : ∃ dx kp as, H a = some (.ins (OverC K) dx (overF kp m s_)) ∧ H kp = some (.tup (as.map V.ref)) ∧ ShsAt K H ps as)
    rw [overN_head nn m (by omega)] at q
    cases ps with
    | nil => exact absurd rfl o1
    | cons t ts =>
      rw [momsL_head o7] at q
      unfold ShsAt at hA
      obtain ⟨b, r, rfl, hS, _⟩ := hA
      have aF : atI ((b :: r).map V.ref) 0 = some (.ref b) := atI_nat (j := 0) rfl
      have ok := okL_mem o7 (List.mem_cons_self (a := t) (l := ts))
      have tn := Nat.le_trans (nestL_mem (List.mem_cons_self (a := t) (l := ts))) hnL
      cases t with
      | «at» n =>
        unfold ShAt at hS
        obtain ⟨dy, h2⟩ := id hS
        exact .inl ⟨_, rfl, a, _, dx, _, _, rfl, ha, T.c_Over, T.a_Over_kept, rfl, kp, _, _, _, rfl, rfl, sq_tup hk, aF, b, dy, _, rfl, h2, rfl, b, n, rfl, hS, by unfold Tr.moms at q; exact q⟩
      | ov ps' m' s' =>
        obtain ⟨dy, kp', as', h2, _⟩ := (by unfold ShAt at hS; exact hS : ∃ dx kp as, H b = some (.ins (OverC K) dx (overF kp m' s')) ∧ H kp = some (.tup (as.map V.ref)) ∧ ShsAt K H ps' as)
        exact .inr ⟨_, rfl, a, _, dx, _, _, rfl, ha, T.c_Over, T.a_Over_kept, rfl, kp, _, _, _, rfl, rfl, sq_tup hk, aF, b, dy, _, rfl, h2, rfl, b, ps', m', s', rfl, hS, tn, ok, q⟩
theorem ok_Over_begins {P : Program} {w : World} {K : PySem.W.Frag} {mg : Str → Option Value} {base : Heap} (T : Env K mg) {d L : Nat} (hL : 40 ≤ L) (r_Over_begins : Fc P w K mg base L (He.ma K (He.ga K "Over") "begins") [] (sp_Over_begins K d)) : Fc P w K mg base (L + 1) (He.ma K (He.ga K "Over") "begins") [] (sp_Over_begins K (d + 1)) := by
  obtain ⟨fd, D, F⟩ := fb_Over_begins T hL r_Over_begins
  exact F.all (D.bindsN fun _ _ _ _ _ _ us hl => match us, hl with | [_], _ => rfl)
theorem all_Over_begins {P : Program} {w : World} {K : PySem.W.Frag} {mg : Str → Option Value} {base : Heap} (T : Env K mg) : ∀ d, Fc P w K mg base (40 + 1 * d) (He.ma K (He.ga K "Over") "begins") [] (sp_Over_begins K d)
  | 0 => fc_no fun vs H Q E h => by
    obtain ⟨a, ps, m, s, _, _, h, _⟩ := h
    unfold Tr.nest at h
    omega
  | d + 1 => ok_Over_begins T (Nat.le_add_right 40 _) (all_Over_begins T d)
end
section
theorem sh_ends {K : PySem.W.Frag} {W : WX} {ta : TE} {σ : L2.St} {H : Hp} {Q : VK} {t : Tr} {a : Addr} {d : Nat} (hS : ShAt K H t a) (hok : t.ok) (hn : t.nest ≤ d) (hta : ∀ R : VK, R (.ref a) H → ta σ H R) (q : Q (.int ((t.moms.getLastD 0 : Nat) : Int)) H) : tOrE (tMt (He.ga K "At") "ends" (sp_At_ends K) W ta tNil) (tMt (He.ga K "Over") "ends" (sp_Over_ends K d) W ta tNil) σ H Q := by
  cases t with
  | «at» n =>
    unfold ShAt at hS
    obtain ⟨dy, h2⟩ := id hS
    unfold Tr.moms at q
    exact .inl (hta _ ⟨a, dy, _, rfl, h2, rfl, a, n, rfl, hS, q⟩)
  | ov ps' m' s' =>
    obtain ⟨dy, kp', as', h2, _⟩ := (by unfold ShAt at hS; exact hS : ∃ dx kp as, H a = some (.ins (OverC K) dx (overF kp m' s')) ∧ H kp = some (.tup (as.map V.ref)) ∧ ShsAt K H ps' as)
    exact .inr (hta _ ⟨a, dy, _, rfl, h2, rfl, a, ps', m', s', rfl, hS, hn, hok, q⟩)
theorem sh_begins {K : PySem.W.Frag} {W : WX} {ta : TE} {σ : L2.St} {H : Hp} {Q : VK} {t : Tr} {a : Addr} {d : Nat} (hS : ShAt K H t a) (hok : t.ok) (hn : t.nest ≤ d) (hta : ∀ R : VK, R (.ref a) H → ta σ H R) (q : Q (.int ((t.moms.headD 0 : Nat) : Int)) H) : tOrE (tMt (He.ga K "At") "begins" (sp_At_begins K) W ta tNil) (tMt (He.ga K "Over") "begins" (sp_Over_begins K d) W ta tNil) σ H Q := by
  cases t with
  | «at» n =>
    unfold ShAt at hS
    obtain ⟨dy, h2⟩ := id hS
    unfold Tr.moms at q
    exact .inl (hta _ ⟨a, dy, _, rfl, h2, rfl, a, n, rfl, hS, q⟩)
  | ov ps' m' s' =>
    obtain ⟨dy, kp', as', h2, _⟩ := (by unfold ShAt at hS; exact hS : ∃ dx kp as, H a = some (.ins (OverC K) dx (overF kp m' s')) ∧ H kp = some (.tup (as.map V.ref)) ∧ ShsAt K H ps' as)
    exact .inr (hta _ ⟨a, dy, _, rfl, h2, rfl, a, ps', m', s', rfl, hS, hn, hok, q⟩)
def sp_all_rising (K : PySem.W.Frag) : Sp := fun vs H Q _ => ∃ (p : Addr) (as : List Addr) (ts : List Tr), vs = [.ref p] ∧ H p = some (.tup (as.map V.ref)) ∧ ShsAt K H ts as ∧ nestL ts ≤ 9 ∧ okL_ ts ∧ ts.length ≤ 20000 ∧ ∀ H', Ex H H' → Q (.bl (risB ts)) H'
theorem fb_all_rising {P : Program} {w : World} {K : PySem.W.Frag} {mg : Str → Option Value} {base : Heap} (T : Env K mg) : ∃ fd, FunD K "all_rising" "all_rising" (defArgs s_all_rising) (defBody s_all_rising) (defScope s_all_rising) [] [] (He.ga K "all_rising") fd ∧ Fb P w K mg base 60 (He.ga K "all_rising") fd ["parts"] (sp_all_rising K) := by
  obtain ⟨fd, F⟩ := T.f_all_rising
  refine ⟨fd, F, fb_of F sc_all_rising (fun vs H Q E h => ?_) (fun cdv A outer s H vs Q E hr h => ?_)⟩
  · obtain ⟨p, as, ts, rfl, _⟩ := h
    rfl
  · obtain ⟨p, as, ts, rfl, hp, hA, hn, hok, hl, q⟩ := h
    refine ⟨_, (pss_one (ps_ret (pe_callB (cr_all rfl) (by rfl) T.n_all (by decide +kernel) (pa_cons (pe_lc (own := [("one", 1), ("other", 2)]) (by rfl) sc_all_rising.nd (RZ.pi_zipA (by rfl) T.n_zip (pa_cons (pv 0) (pa_cons (pe_slice sl_tupA (pv 0) (po_some pe_int) po_none) pa_nil))) (blkOk_by (own := [("one", 1), ("other", 2)]) (N := ["parts", "one", "other"]) (sc := defScope s_all_rising) (by decide +kernel)) (fun _ _ _ _ _ => (pg_tupK K (n := 2) rfl (pgs_cons (pg_name (i := 1) sc_all_rising.nd rfl (Or.inl rfl)) (pgs_cons (pg_name (i := 2) sc_all_rising.nd rfl (Or.inl rfl)) pgs_nil)))) (fun _ _ _ _ _ => pts_nil) (fun _ _ _ _ _ => (pe_cmpR op_lt (pe_orE (c_meth0 (pv 1) T.c_At T.m_At_ends (ok_At_ends T) (hr.mono (by decide)) takes0) (c_meth0 (pv 1) T.c_Over T.m_Over_ends (all_Over_ends T 9) (hr.mono (by decide)) takes0)) (pe_orE (c_meth0 (pv 2) T.c_At T.m_At_begins (ok_At_begins T) (hr.mono (by decide)) takes0) (c_meth0 (pv 2) T.c_Over T.m_Over_begins (all_Over_begins T 9) (hr.mono (by decide)) takes0)) (nomark _)))) pa_nil)))), ?_⟩
    refine ⟨_, rfl, _, rfl, _, rfl, ?_⟩
    dsimp only [tNoPart]
    refine slA_of (sq_tup hp) fun b2 H4 X4 hb2 => ?_
    rw [cut1] at hb2
    have ed : (as.map V.ref).drop 1 = (as.drop 1).map V.ref := by rw [List.map_drop]
    rw [ed] at hb2
    have hA4 := hA.mono X4
    have hl1 := hA.len
    have hz1 : (as.zip ts).map (fun p => V.ref p.1) = as.map V.ref := by
      show (as.zip ts).map (V.ref ∘ Prod.fst) = _
      rw [← List.map_map, List.map_fst_zip (by omega)]
    have hz1d : ((as.zip ts).drop 1).map (fun p => V.ref p.1) = (as.drop 1).map V.ref := by rw [List.map_drop, List.map_drop, hz1]
    have hz2 : (as.zip ts).map Prod.snd = ts := List.map_snd_zip (by omega)
    have zl : (as.zip ts).length ≤ 20000 := by rw [List.length_zip]; omega
    have hp4 : H4 p = some (.tup ((as.zip ts).map fun p => V.ref p.1)) := by rw [hz1]; exact X4 _ _ hp
    rw [← hz1d] at hb2
    refine ⟨p, b2, (as.zip ts).map (fun p => V.ref p.1), ((as.zip ts).drop 1).map (fun p => V.ref p.1), rfl, .inr ⟨sq_tup hp4, hb2, fun D nD => lc_zip (as.zip ts) ((as.zip ts).drop 1) (fun p => V.ref p.1) (fun p => V.ref p.1) (walk_zipT rfl) (by rw [List.length_map, List.length_map]) (fun x y => some (.bl (decide (x.2.moms.getLastD 0 < y.2.moms.headD 0)))) (fun H' => Ex H4 H') (fun H' z e => ex_mut e nD) (.refl _) (by omega) (fun H' e => ⟨sq_tup (e _ _ hp4), ex_sqt e hb2⟩) (fun i x y u H5 acc N hx hy X5 nu hD la k => ?_) fun H5 X5 d5 => ?_⟩⟩
    · have hD2 := fun o => ex_new (o := o) nu _ _ hD
      have Z := X5.trans (ex_new (o := .tup [.ref x.1, .ref y.1]) nu)
      rw [List.getElem?_drop] at hy
      obtain ⟨hx1, hx2⟩ := List.getElem?_zip_eq_some.mp hx
      obtain ⟨hy1, hy2⟩ := List.getElem?_zip_eq_some.mp hy
      have gx : ShAt K H4 x.2 x.1 := by
        obtain ⟨t, ht, h⟩ := hA4.get hx1
        rw [hx2] at ht
        cases ht
        exact h
      have gy : ShAt K H4 y.2 y.1 := by
        obtain ⟨t, ht, h⟩ := hA4.get hy1
        rw [hy2] at ht
        cases ht
        exact h
      have mx := List.mem_of_getElem? hx2
      have my := List.mem_of_getElem? hy2
      refine ⟨u, _, rfl, sq_tup upd_same, rfl, _, _, rfl, _, _, rfl, rfl, rfl, ?_⟩
      refine sh_ends (gx.mono Z) (okL_mem hok mx) (Nat.le_trans (nestL_mem mx) hn) (fun R r => ⟨_, rfl, r⟩) ?_
      refine sh_begins (gy.mono Z) (okL_mem hok my) (Nat.le_trans (nestL_mem my) hn) (fun R r => ⟨_, rfl, r⟩) ?_
      refine ⟨_, _, rfl, rfl, acc, hD2 _, la, ?_⟩
      have ei : decide (((x.2.moms.getLastD 0 : Nat) : Int) < ((y.2.moms.headD 0 : Nat) : Int)) = decide (x.2.moms.getLastD 0 < y.2.moms.headD 0) := decide_eq_decide.mpr ⟨fun z => by omega, fun z => by omega⟩
      show N (upd (upd H5 u (.tup [.ref x.1, .ref y.1])) D (.lst (acc ++ [.bl (decide (((x.2.moms.getLastD 0 : Nat) : Int) < ((y.2.moms.headD 0 : Nat) : Int)))])))
      rw [ei]
      exact k _ Z (hD2 _)
    · have ef : ((as.zip ts).zip ((as.zip ts).drop 1)).filterMap (fun p => some (V.bl (decide (p.1.2.moms.getLastD 0 < p.2.2.moms.headD 0)))) = ((ts.zip (ts.drop 1)).map fun p => decide (p.1.moms.getLastD 0 < p.2.moms.headD 0)).map V.bl := by
        rw [List.filterMap_eq_map', List.map_map]
        conv => rhs; rw [← hz2, ← List.map_drop, List.zip_map, List.map_map]
        rfl
      rw [ef] at d5
      refine ⟨D, _, rfl, sq_lst d5, ?_⟩
      rw [List.all_map]
      exact q _ (X4.trans X5)
theorem ok_all_rising {P : Program} {w : World} {K : PySem.W.Frag} {mg : Str → Option Value} {base : Heap} (T : Env K mg) : Fc P w K mg base 60 (He.ga K "all_rising") [] (sp_all_rising K ) := by
  obtain ⟨fd, D, F⟩ := fb_all_rising T
  exact F.all (D.bindsN fun _ _ _ _ _ _ us hl => match us, hl with | [_], _ => rfl)
end
section
/-- at p a list or a tuple -/
def SqA (H : Hp) (p : Addr) (xs : List V) : Prop := H p = some (.lst xs) ∨ H p = some (.tup xs)
def sp_shorts_in (K : PySem.W.Frag) : Sp := fun vs H Q E => ∃ (p : Addr) (as : List Addr) (ts : List Tr), vs = [.ref p] ∧ SqA H p (as.map V.ref) ∧ ShsAt K H ts as ∧ nestL ts ≤ 9 ∧ okL_ ts ∧ ts.length ≤ 20000 ∧ (risB ts = true → ∀ t H', Ex H H' → H' t = some (.tup (as.map V.ref)) → Q (.ref t) H') ∧ (risB ts = false → ∀ H', Ex H H' → E (.ref (He.ga K "NoPiece")) none H')
theorem fb_shorts_in {P : Program} {w : World} {K : PySem.W.Frag} {mg : Str → Option Value} {base : Heap} (T : Env K mg) : ∃ fd, FunD K "shorts_in" "shorts_in" (defArgs s_shorts_in) (defBody s_shorts_in) (defScope s_shorts_in) [] [] (He.ga K "shorts_in") fd ∧ Fb P w K mg base 61 (He.ga K "shorts_in") fd ["parts"] (sp_shorts_in K) := by
  obtain ⟨fd, F⟩ := T.f_shorts_in
  refine ⟨fd, F, fb_of F sc_shorts_in (fun vs H Q E h => ?_) (fun cdv A outer s H vs Q E hr h => ?_)⟩
  · obtain ⟨p, as, ts, rfl, _⟩ := h
    rfl
  · obtain ⟨p, as, ts, rfl, hp, hA, hn, hok, hl, q, qe⟩ := h
    refine ⟨_, (pss_cons (ps_if (pt_not (pt_val (pe_callB call_isiT (by rfl) T.n_isinstance (by decide +kernel) (pa_cons (pv 0) (pa_cons (pe_tup (pa_cons (pe_bltn (v := .ty "list") (by rfl) T.n_list (by decide +kernel) rfl) (pa_cons (pe_bltn (v := .ty "tuple") (by rfl) T.n_tuple (by decide +kernel) rfl) pa_nil))) pa_nil)))))
      (pss_one (ps_raise rfl (takes_of rfl rfl rfl rfl) (pmk_own PySem.F.excBase_ValueError T.x_NoPiece.x T.g_NoPiece T.x_NoPiece.kp (raises_own T.x_NoPiece.sub T.x_NoPiece.ty) rfl)))
      pss_nil)
      (pss_cons (ps_set (i := 1) sc_shorts_in.nd rfl (Or.inl rfl) (pe_callTy call_tuple_of (by rfl) T.n_tuple (by decide +kernel) (pa_cons (pv 0) pa_nil)))
      (pss_cons (ps_if (PW.pt (pw_or (pt_not (pt_val (pe_callB (cr_all rfl) (by rfl) T.n_all (by decide +kernel) (pa_cons (pe_lc (own := [("one", 2)]) (by rfl) sc_shorts_in.nd (pi_tup (pv 1)) (blkOk_by (own := [("one", 2)]) (N := ["parts", "found", "one"]) (sc := defScope s_shorts_in) (by decide +kernel)) (fun _ _ _ _ _ => (pg_name (i := 2) sc_shorts_in.nd rfl (Or.inl rfl))) (fun _ _ _ _ _ => pts_nil) (fun _ _ _ _ _ => (pe_callB (call_isiK K) (by rfl) T.n_isinstance (by decide +kernel) (pa_cons (pv 2) (pa_cons (pe_glob (v := .ref _) (by rfl) T.g_Short rfl) pa_nil))))) pa_nil)))) (pw_or1 (pt_not (pt_val (c_call (ok_all_rising T) (hr.mono (by decide)) T.g_all_rising T.k_all_rising (takes_of rfl rfl rfl rfl) (pa_cons (pv 1) pa_nil)))))))
      (pss_one (ps_raise rfl (takes_of rfl rfl rfl rfl) (pmk_own PySem.F.excBase_ValueError T.x_NoPiece.x T.g_NoPiece T.x_NoPiece.kp (raises_own T.x_NoPiece.sub T.x_NoPiece.ty) rfl)))
      pss_nil)
      (pss_one (ps_ret (pv 1)))))), ?_⟩
    have hl1 := hA.len
    refine ⟨_, rfl, by show 2 ≤ sizeLine; decide, fun tp ntp => ?_⟩
    have X1 := ex_new (o := .tup [.ty "list", .ty "tuple"]) ntp
    have ty : ∃ t, TyX K (upd H tp (.tup [.ty "list", .ty "tuple"])) (.ref p) t ∧ PySem.W.kitAny K t [.type "list", .type "tuple"] = some true := by
      rcases hp with h | h
      · exact ⟨_, .base (.lst (X1 _ _ h)), kitAny_cons (b := true) (kit_ty (by decide +kernel)) (fun z => nomatch z) (fun _ => rfl)⟩
      · exact ⟨_, .base (.tup (X1 _ _ h)), kitAny_cons (b := false) (kit_ty (by decide +kernel)) (fun _ => kitAny_cons (b := true) (kit_ty (by decide +kernel)) (fun z => nomatch z) (fun _ => rfl)) (by decide)⟩
    obtain ⟨t, ty, kt⟩ := ty
    refine ⟨.ref p, tp, _, t, _, true, rfl, upd_same, .cons (.ty "list") (.cons (.ty "tuple") .nil), ty, kt, true, rfl, iteF ?_⟩
    generalize upd H tp (.tup [.ty "list", .ty "tuple"]) = H1 at X1 ty ⊢
    refine ⟨_, rfl, p, as.map V.ref, rfl, ?_⟩
    have rest : ∀ t2 H2, Ex H1 H2 → H2 t2 = some (.tup (as.map V.ref)) → (tSeq (tIfS (tOr (tNot (tB (tCB (rAll K) (tCons (tLc (iTup K (tVar 1)) (gName 2) tYes (tCB (rIsi K) (tCons (tVar 2) (tCons (tC (V.ref (He.ga K "Short"))) tNil))) (List.map (fun x => x.snd) [(Str.ofString "one", 2)])) tNil)))) (tNot (tB (tFc (sp_all_rising K) (fun cls d x H => E cls d H) (tCons (tVar 1) tNil))))) (fun x σ H => (fun cls d H' => E cls d H') (Value.ref (He.ga K "NoPiece")) none H) tNext) (tRet (tVar 1))) { nx := fun _ H' => Q .non H', rt := Q } [some (.ref p), some (.ref t2), none] H2 := fun t2 H2 X2 h2 => by
      have X02 := X1.trans X2
      have hA2 := hA.mono X02
      refine ⟨_, rfl, t2, rfl, ⟨_, sq_tup h2⟩, fun A nA => lc_on as V.ref L2.walk_tup (fun _ => some (.bl true)) (fun H' => Ex H2 H') (fun H' z e => ex_mut e nA) (.refl _) (by omega) (fun H' e => sq_tup (e _ _ h2)) (fun i x H3 acc N hx X3 hD la k => ?_) fun H3 X3 d3 => ?_⟩
      · obtain ⟨t, ht, hS⟩ := hA2.get hx
        have hS3 := hS.mono X3
        cases t with
        | «at» n =>
          unfold ShAt at hS3
          obtain ⟨dx, h1⟩ := hS3
          exact ⟨rfl, _, rfl, .ref x, .ref (He.ga K "Short"), _, _, true, rfl, .own _, ty_ins T.i_At T.c_At h1, T.kit_At_Short, acc, hD, la, k H3 X3 hD⟩
        | ov ps m s =>
          unfold ShAt at hS3
          obtain ⟨dx, kp, as', h1, _⟩ := hS3
          exact ⟨rfl, _, rfl, .ref x, .ref (He.ga K "Short"), _, _, true, rfl, .own _, ty_ins T.i_Over T.c_Over h1, T.kit_Over_Short, acc, hD, la, k H3 X3 hD⟩
      · have ef : as.filterMap (fun _ => some (V.bl true)) = (List.replicate as.length true).map V.bl := by
          rw [List.map_replicate, ← List.map_const', List.filterMap_eq_map']
        rw [ef] at d3
        refine ⟨A, _, rfl, sq_lst d3, ?_⟩
        rw [all_repT]
        refine ⟨true, rfl, iteF ?_⟩
        refine ⟨_, rfl, t2, as, ts, rfl, X3 _ _ h2, hA2.mono X3, hn, hok, hl, fun H4 X4 => ⟨_, rfl, ?_⟩⟩
        cases hr2 : risB ts with
        | true =>
          refine iteF ?_
          exact ⟨_, rfl, q hr2 t2 H4 (X02.trans (X3.trans X4)) ((X3.trans X4) _ _ h2)⟩
        | false => exact iteT (qe hr2 H4 (X02.trans (X3.trans X4)))
    rcases hp with h | h
    · exact .inl ⟨sq_lst (X1 _ _ h), fun t2 nt2 => rest t2 _ (ex_new nt2) upd_same⟩
    · exact .inr ⟨sq_tup (X1 _ _ h), rest p _ (.refl _) (X1 _ _ h)⟩
theorem ok_shorts_in {P : Program} {w : World} {K : PySem.W.Frag} {mg : Str → Option Value} {base : Heap} (T : Env K mg) : Fc P w K mg base 61 (He.ga K "shorts_in") [] (sp_shorts_in K ) := by
  obtain ⟨fd, D, F⟩ := fb_shorts_in T
  exact F.all (D.bindsN fun _ _ _ _ _ _ us hl => match us, hl with | [_], _ => rfl)
end
section
def sp_At_means_many (K : PySem.W.Frag) : Sp := fun vs H Q _ => ∃ a n, vs = [.ref a] ∧ AtAt K H a n ∧ Q (.int 1) H
theorem fb_At_means_many {P : Program} {w : World} {K : PySem.W.Frag} {mg : Str → Option Value} {base : Heap} (T : Env K mg) : ∃ fd, FunD K "means_many" "At.means_many" (defArgs s_At_means_many) (defBody s_At_means_many) (defScope s_At_means_many) [] [] (He.ma K (He.ga K "At") "means_many") fd ∧ Fb P w K mg base 1 (He.ma K (He.ga K "At") "means_many") fd ["self"] (sp_At_means_many K) := by
  obtain ⟨fd, F⟩ := T.f_At_means_many
  refine ⟨fd, F, fb_of F sc_At_means_many (fun vs H Q E h => ?_) (fun cdv A outer s H vs Q E hr h => ?_)⟩
  · obtain ⟨a, n, rfl, _⟩ := h
    rfl
  · obtain ⟨a, n, rfl, ⟨dx, ha⟩, q⟩ := h
    refine ⟨_, (pss_one (ps_ret pe_int)), ?_⟩
    exact q
theorem ok_At_means_many {P : Program} {w : World} {K : PySem.W.Frag} {mg : Str → Option Value} {base : Heap} (T : Env K mg) : Fc P w K mg base 1 (He.ma K (He.ga K "At") "means_many") [] (sp_At_means_many K ) := by
  obtain ⟨fd, D, F⟩ := fb_At_means_many T
  exact F.all (D.bindsN fun _ _ _ _ _ _ us hl => match us, hl with | [_], _ => rfl)
end
section
theorem range_opt {α : Type} (ts : List α) (f : α → V) : (List.range ts.length).filterMap (fun i => (ts[i]?).map f) = ts.map f := by
  induction ts with
  | nil => rfl
  | cons t r ih =>
    rw [List.length_cons, List.range_succ_eq_map, List.filterMap_cons, List.filterMap_map]
    show f t :: List.filterMap (fun i => (r[i]?).map f) (List.range r.length) = f t :: r.map f
    rw [ih]
theorem sum_many : ∀ ts : List Tr, (ts.map fun t => ((t.moms.length : Nat) : Int)).sum = (((momsL ts).length : Nat) : Int)
  | [] => rfl
  | t :: r => by
    rw [List.map_cons, List.sum_cons, sum_many r]
    have e : momsL (t :: r) = t.moms ++ momsL r := by simp [momsL]
    rw [e, List.length_append]
    omega
def sp_row_many (K : PySem.W.Frag) (d : Nat) : Sp := fun vs H Q _ => ∃ (p : Addr) (as : List Addr) (ts : List Tr), vs = [.ref p] ∧ H p = some (.tup (as.map V.ref)) ∧ ShsAt K H ts as ∧ nestL ts ≤ d ∧ okL_ ts ∧ ts.length ≤ 20000 ∧ ∀ H', Ex H H' → Q (.int (((momsL ts).length : Nat) : Int)) H'
theorem fb_row_many {P : Program} {w : World} {K : PySem.W.Frag} {mg : Str → Option Value} {base : Heap} (T : Env K mg) {d L : Nat} (hL : 40 ≤ L) (r_Over_means_many : Fc P w K mg base L (He.ma K (He.ga K "Over") "means_many") [] (sp_Over_means_many K d)) : ∃ fd, FunD K "row_many" "row_many" (defArgs s_row_many) (defBody s_row_many) (defScope s_row_many) [] [] (He.ga K "row_many") fd ∧ Fb P w K mg base (L + 1) (He.ga K "row_many") fd ["parts"] (sp_row_many K (d)) := by
  obtain ⟨fd, F⟩ := T.f_row_many
  refine ⟨fd, F, fb_of F sc_row_many (fun vs H Q E h => ?_) (fun cdv A outer s H vs Q E hr h => ?_)⟩
  · obtain ⟨p, as, ts, rfl, _⟩ := h
    rfl
  · obtain ⟨p, as, ts, rfl, hp, hA, hn, hok, hl, q⟩ := h
    refine ⟨_, (pss_one (ps_ret (pe_callB (cr_sum rfl) (by rfl) T.n_sum (by decide +kernel) (pa_cons (pe_lc (own := [("one", 1)]) (by rfl) sc_row_many.nd (pi_tup (pv 0)) (blkOk_by (own := [("one", 1)]) (N := ["parts", "one"]) (sc := defScope s_row_many) (by decide +kernel)) (fun _ _ _ _ _ => (pg_name (i := 1) sc_row_many.nd rfl (Or.inl rfl))) (fun _ _ _ _ _ => pts_nil) (fun _ _ _ _ _ => (pe_orE (c_meth0 (pv 1) T.c_At T.m_At_means_many (ok_At_means_many T) (hr.mono (by omega)) takes0) (c_meth0 (pv 1) T.c_Over T.m_Over_means_many r_Over_means_many (hr.mono (by omega)) takes0)))) pa_nil)))), ?_⟩
    have hl1 := hA.len
    have hl2 := len_moms hok
    refine ⟨_, rfl, p, rfl, ⟨_, sq_tup hp⟩, fun A nA => lc_fm L2.walk_tup (fun i => (ts[i]?).map fun t => .int ((t.moms.length : Nat) : Int)) (fun H' => Ex H H') (fun H' z e => ex_mut e nA) (.refl _) (by rw [List.length_map]; omega) (fun H' e => sq_tup (e _ _ hp)) (fun i x H2 H3 acc N hi e hD la y k => ?_) fun H3 X3 d3 => ?_⟩
    · obtain ⟨rfl, y⟩ := y
      rw [List.getElem?_map] at y
      obtain ⟨a, ha, rfl⟩ := Option.map_eq_some_iff.mp y
      obtain ⟨t, ht, hS⟩ := hA.get ha
      have htm := List.mem_of_getElem? ht
      have hS2 := hS.mono e
      have k2 := fun H4 (X4 : Ex H3 H4) => k H4 (e.trans X4) (X4 _ _ hD)
      rw [ht] at k2
      have ok := okL_mem hok htm
      cases t with
      | «at» n =>
        unfold ShAt at hS2
        obtain ⟨dx, h2⟩ := id hS2
        exact ⟨rfl, .inl ⟨_, rfl, a, dx, _, rfl, h2, rfl, a, n, rfl, hS2, acc, hD, la, k2 H3 (.refl _)⟩⟩
      | ov ps m s =>
        obtain ⟨dx, kp, as', h2, _⟩ := (by unfold ShAt at hS2; exact hS2 : ∃ dx kp as, H3 a = some (.ins (OverC K) dx (overF kp m s)) ∧ H3 kp = some (.tup (as.map V.ref)) ∧ ShsAt K H3 ps as)
        obtain ⟨_, _, _, _, o5', _, o7⟩ := ov_facts ok
        have o5 : ps.length ≤ 20000 := by omega
        refine ⟨rfl, .inr ⟨_, rfl, a, dx, _, rfl, h2, rfl, a, ps, m, s, rfl, hS2, Nat.le_trans (nestL_mem htm) hn, o7, o5, fun H4 X4 => ⟨acc, X4 _ _ hD, la, ?_⟩⟩⟩
        have k3 : N (upd H4 A (.lst (acc ++ [.int (((Tr.ov ps m s).moms.length : Nat) : Int)]))) := k2 H4 X4
        rw [show (Tr.ov ps m s).moms.length = m * (momsL ps).length from by unfold Tr.moms; exact overN_len _ _ _] at k3
        exact k3
    · rw [List.length_map, hl1, range_opt ts (fun t => V.int ((t.moms.length : Nat) : Int))] at d3
      have e1 : ts.map (fun t => V.int ((t.moms.length : Nat) : Int)) = (ts.map fun t => ((t.moms.length : Nat) : Int)).map V.int := by
        rw [List.map_map]
        rfl
      rw [e1] at d3
      refine ⟨A, _, rfl, sq_lst d3, ?_⟩
      rw [sum_many]
      exact q _ X3
theorem ok_row_many {P : Program} {w : World} {K : PySem.W.Frag} {mg : Str → Option Value} {base : Heap} (T : Env K mg) {d L : Nat} (hL : 40 ≤ L) (r_Over_means_many : Fc P w K mg base L (He.ma K (He.ga K "Over") "means_many") [] (sp_Over_means_many K d)) : Fc P w K mg base (L + 1) (He.ga K "row_many") [] (sp_row_many K (d)) := by
  obtain ⟨fd, D, F⟩ := fb_row_many T hL r_Over_means_many
  exact F.all (D.bindsN fun _ _ _ _ _ _ us hl => match us, hl with | [_], _ => rfl)
end
section
def sp_At_moments (K : PySem.W.Frag) : Sp := fun vs H Q _ => ∃ a n, vs = [.ref a] ∧ AtAt K H a n ∧ ∀ p, H p = none → Q (.ref p) (upd H p (.lst [.int (n : Nat)]))
theorem fb_At_moments {P : Program} {w : World} {K : PySem.W.Frag} {mg : Str → Option Value} {base : Heap} (T : Env K mg) : ∃ fd, FunD K "moments" "At.moments" (defArgs s_At_moments) (defBody s_At_moments) (defScope s_At_moments) [] [] (He.ma K (He.ga K "At") "moments") fd ∧ Fb P w K mg base 1 (He.ma K (He.ga K "At") "moments") fd ["self"] (sp_At_moments K) := by
  obtain ⟨fd, F⟩ := T.f_At_moments
  refine ⟨fd, F, fb_of F sc_At_moments (fun vs H Q E h => ?_) (fun cdv A outer s H vs Q E hr h => ?_)⟩
  · obtain ⟨a, n, rfl, _⟩ := h
    rfl
  · obtain ⟨a, n, rfl, ⟨dx, ha⟩, q⟩ := h
    refine ⟨_, (pss_one (ps_ret (pe_lst (pa_cons (pe_fld (pv 0) (by rfl)) pa_nil)))), ?_⟩
    exact ⟨_, rfl, a, _, dx, _, _, rfl, ha, T.c_At, T.a_At_moment, rfl, by show 1 ≤ sizeLine; decide, q⟩
theorem ok_At_moments {P : Program} {w : World} {K : PySem.W.Frag} {mg : Str → Option Value} {base : Heap} (T : Env K mg) : Fc P w K mg base 1 (He.ma K (He.ga K "At") "moments") [] (sp_At_moments K ) := by
  obtain ⟨fd, D, F⟩ := fb_At_moments T
  exact F.all (D.bindsN fun _ _ _ _ _ _ us hl => match us, hl with | [_], _ => rfl)
end
section
def sp_row_moments (K : PySem.W.Frag) (d : Nat) : Sp := fun vs H Q _ => ∃ (p : Addr) (as : List Addr) (ts : List Tr), vs = [.ref p] ∧ H p = some (.tup (as.map V.ref)) ∧ ShsAt K H ts as ∧ nestL ts ≤ d ∧ okL_ ts ∧ (momsL ts).length ≤ 1440 ∧ ∀ t H', Ex H H' → H t = none → H' t = some (.lst (natV (momsL ts))) → Q (.ref t) H'
theorem fb_row_moments {P : Program} {w : World} {K : PySem.W.Frag} {mg : Str → Option Value} {base : Heap} (T : Env K mg) {d L : Nat} (hL : 40 ≤ L) (r_Over_moments : Fc P w K mg base L (He.ma K (He.ga K "Over") "moments") [] (sp_Over_moments K d)) : ∃ fd, FunD K "row_moments" "row_moments" (defArgs s_row_moments) (defBody s_row_moments) (defScope s_row_moments) [] [] (He.ga K "row_moments") fd ∧ Fb P w K mg base (L + 1) (He.ga K "row_moments") fd ["parts"] (sp_row_moments K (d)) := by
  obtain ⟨fd, F⟩ := T.f_row_moments
  refine ⟨fd, F, fb_of F sc_row_moments (fun vs H Q E h => ?_) (fun cdv A outer s H vs Q E hr h => ?_)⟩
  · obtain ⟨p, as, ts, rfl, _⟩ := h
    rfl
  · obtain ⟨p, as, ts, rfl, hp, hA, hn, hok, hl, q⟩ := h
    refine ⟨_, (pss_cons (ps_set (i := 1) sc_row_moments.nd rfl (Or.inl rfl) (pe_lst pa_nil))
      (pss_cons (ps_for (passes_of rfl) rfl (pi_tup (pv 0)) (pg_name (i := 2) sc_row_moments.nd rfl (Or.inl rfl))
      (pss_one (ps_expr (pe_bm PySem.F.plainAttrs_list PySem.F.slot_list_extend PySem.F.type_list_extend mt_extend (pv 1) (pa_cons (pe_orE (c_meth0 (pv 2) T.c_At T.m_At_moments (ok_At_moments T) (hr.mono (by omega)) takes0) (c_meth0 (pv 2) T.c_Over T.m_Over_moments r_Over_moments (hr.mono (by omega)) takes0)) pa_nil)))))
      (pss_one (ps_ret (pv 1))))), ?_⟩
    refine ⟨by show 0 ≤ sizeLine; decide, fun f nf => ?_⟩
    have X0 := ex_new (o := .lst []) nf
    have hl1 := hA.len
    have pf : p ≠ f := ne_of_none hp nf
    refine ⟨_, rfl, p, rfl, ⟨_, sq_tup (X0 _ _ hp)⟩, for_on as V.ref L2.walk_tup (fun i σ H' => Oth f H H' ∧ ∃ v2, σ = [some (.ref p), some (.ref f), v2] ∧ H' f = some (.lst (natV (momsL (ts.take i))))) ⟨ex_oth X0, _, rfl, upd_same⟩ (fun i σ H' z => sq_tup (z.1 _ _ pf hp)) ?_ ?_⟩
    · rintro i a σ H2 hx ⟨O2, v2, rfl, hf⟩
      obtain ⟨t, ht, hS⟩ := hA.get hx
      have htm := List.mem_of_getElem? ht
      have X2 : Ex H H2 := fun b o e => O2 b o (ne_of_none e nf) e
      have eT := momsL_take ht
      have bT := momsL_take_len ts (i + 1)
      rw [eT, List.length_append] at bT
      have hS2 := hS.mono X2
      have fin : ∀ (u : Addr) (H3 : Hp), Ex H2 H3 → H3 u = some (.lst (natV t.moms)) → rExtend (.ref f) [.ref u] H3 (fun _ H' => Oth f H H' ∧ ∃ v2', [some (V.ref p), some (V.ref f), some (V.ref a)] = [some (.ref p), some (.ref f), v2'] ∧ H' f = some (.lst (natV (momsL (ts.take (i + 1)))))) := fun u H3 X3 hu => by
        refine ⟨f, u, _, _, rfl, rfl, X3 _ _ hf, hu, sz_le (by rw [natV_len, natV_len]; omega), (O2.trans (ex_oth X3)).upd, _, rfl, ?_⟩
        rw [upd_same, eT]
        unfold natV
        rw [List.map_append]
      refine ⟨_, rfl, .inl ⟨rfl, _, sq_lst hf⟩, ?_⟩
      cases t with
      | «at» n =>
        unfold ShAt at hS2
        obtain ⟨dx, h2⟩ := id hS2
        exact .inl ⟨_, rfl, a, dx, _, rfl, h2, rfl, a, n, rfl, hS2, fun u nu => fin u _ (ex_new nu) (by rw [upd_same]; unfold Tr.moms; rfl)⟩
      | ov ps m s =>
        obtain ⟨dx, kp, as', h2, _⟩ := (by unfold ShAt at hS2; exact hS2 : ∃ dx kp as, H2 a = some (.ins (OverC K) dx (overF kp m s)) ∧ H2 kp = some (.tup (as.map V.ref)) ∧ ShsAt K H2 ps as)
        exact .inr ⟨_, rfl, a, dx, _, rfl, h2, rfl, a, ps, m, s, rfl, hS2, Nat.le_trans (nestL_mem htm) hn, okL_mem hok htm, fun u H3 X3 nu hu => fin u H3 X3 hu⟩
    · rintro σ H2 ⟨O2, v2, rfl, hf⟩
      rw [List.take_of_length_le (by omega)] at hf
      exact ⟨_, rfl, q f H2 (fun b o e => O2 b o (ne_of_none e nf) e) nf hf⟩
theorem ok_row_moments {P : Program} {w : World} {K : PySem.W.Frag} {mg : Str → Option Value} {base : Heap} (T : Env K mg) {d L : Nat} (hL : 40 ≤ L) (r_Over_moments : Fc P w K mg base L (He.ma K (He.ga K "Over") "moments") [] (sp_Over_moments K d)) : Fc P w K mg base (L + 1) (He.ga K "row_moments") [] (sp_row_moments K (d)) := by
  obtain ⟨fd, D, F⟩ := fb_row_moments T hL r_Over_moments
  exact F.all (D.bindsN fun _ _ _ _ _ _ us hl => match us, hl with | [_], _ => rfl)
end
section
theorem fb_Over_means_many {P : Program} {w : World} {K : PySem.W.Frag} {mg : Str → Option Value} {base : Heap} (T : Env K mg) {d L : Nat} (hL : 40 ≤ L) (r_Over_means_many : Fc P w K mg base L (He.ma K (He.ga K "Over") "means_many") [] (sp_Over_means_many K d)) : ∃ fd, FunD K "means_many" "Over.means_many" (defArgs s_Over_means_many) (defBody s_Over_means_many) (defScope s_Over_means_many) [] [] (He.ma K (He.ga K "Over") "means_many") fd ∧ Fb P w K mg base (L + 2) (He.ma K (He.ga K "Over") "means_many") fd ["self"] (sp_Over_means_many K (d + 1)) := by
  obtain ⟨fd, F⟩ := T.f_Over_means_many
  refine ⟨fd, F, fb_of F sc_Over_means_many (fun vs H Q E h => ?_) (fun cdv A outer s H vs Q E hr h => ?_)⟩
  · obtain ⟨a, ps, m, s, rfl, _⟩ := h
    rfl
  · obtain ⟨a, ps, m, s_, rfl, hO, hn, hok, hl, q⟩ := h
    refine ⟨_, (pss_one (ps_ret (pe_op op_mul (pe_fld (pv 0) (by rfl)) (c_call (ok_row_many T hL r_Over_means_many) (hr.mono (by omega)) T.g_row_many T.k_row_many takes0 (pa_cons (pe_fld (pv 0) (by rfl)) pa_nil))))), ?_⟩
    have hfew := momsL_few hok
    have hnL := ov_nest hn
    obtain ⟨dx, kp, as, ha, hk, hA⟩ := (by unfold ShAt at hO; exact hO : ∃ dx kp as, H a = some (.ins (OverC K) dx (overF kp m s_)) ∧ H kp = some (.tup (as.map V.ref)) ∧ ShsAt K H ps as)
    refine ⟨_, rfl, a, _, dx, _, _, rfl, ha, T.c_Over, T.a_Over_many, rfl, _, rfl, a, _, dx, _, _, rfl, ha, T.c_Over, T.a_Over_kept, rfl, kp, as, ps, rfl, hk, hA, hnL, hok, hl, fun H1 X1 => ⟨_, _, rfl, rfl, .inr ⟨by omega, by omega⟩, ?_⟩⟩
    have e : ((m : Nat) : Int) * (((momsL ps).length : Nat) : Int) = ((m * (momsL ps).length : Nat) : Int) := by simp
    show Q (.int (((m : Nat) : Int) * (((momsL ps).length : Nat) : Int))) H1
    rw [e]
    exact q H1 X1
theorem ok_Over_means_many {P : Program} {w : World} {K : PySem.W.Frag} {mg : Str → Option Value} {base : Heap} (T : Env K mg) {d L : Nat} (hL : 40 ≤ L) (r_Over_means_many : Fc P w K mg base L (He.ma K (He.ga K "Over") "means_many") [] (sp_Over_means_many K d)) : Fc P w K mg base (L + 2) (He.ma K (He.ga K "Over") "means_many") [] (sp_Over_means_many K (d + 1)) := by
  obtain ⟨fd, D, F⟩ := fb_Over_means_many T hL r_Over_means_many
  exact F.all (D.bindsN fun _ _ _ _ _ _ us hl => match us, hl with | [_], _ => rfl)
theorem all_Over_means_many {P : Program} {w : World} {K : PySem.W.Frag} {mg : Str → Option Value} {base : Heap} (T : Env K mg) : ∀ d, Fc P w K mg base (40 + 2 * d) (He.ma K (He.ga K "Over") "means_many") [] (sp_Over_means_many K d)
  | 0 => fc_no fun vs H Q E h => by
    obtain ⟨a, ps, m, s, _, _, h, _⟩ := h
    unfold Tr.nest at h
    omega
  | d + 1 => ok_Over_means_many T (Nat.le_add_right 40 _) (all_Over_means_many T d)
end
section
theorem fb_Over_moments {P : Program} {w : World} {K : PySem.W.Frag} {mg : Str → Option Value} {base : Heap} (T : Env K mg) {d L : Nat} (hL : 40 ≤ L) (r_Over_moments : Fc P w K mg base L (He.ma K (He.ga K "Over") "moments") [] (sp_Over_moments K d)) : ∃ fd, FunD K "moments" "Over.moments" (defArgs s_Over_moments) (defBody s_Over_moments) (defScope s_Over_moments) [] [] (He.ma K (He.ga K "Over") "moments") fd ∧ Fb P w K mg base (L + 2) (He.ma K (He.ga K "Over") "moments") fd ["self"] (sp_Over_moments K (d + 1)) := by
  obtain ⟨fd, F⟩ := T.f_Over_moments
  refine ⟨fd, F, fb_of F sc_Over_moments (fun vs H Q E h => ?_) (fun cdv A outer s H vs Q E hr h => ?_)⟩
  · obtain ⟨a, ps, m, s, rfl, _⟩ := h
    rfl
  · obtain ⟨a, ps, m, s_, rfl, hO, hn, hok, q⟩ := h
    refine ⟨_, (pss_cons (ps_set (i := 1) sc_Over_moments.nd rfl (Or.inl rfl) (c_call (ok_row_moments T hL r_Over_moments) (hr.mono (by omega)) T.g_row_moments T.k_row_moments takes0 (pa_cons (pe_fld (pv 0) (by rfl)) pa_nil)))
      (pss_cons (ps_set (i := 2) sc_Over_moments.nd rfl (Or.inl rfl) (pe_lst pa_nil))
      (pss_cons (ps_for (passes_of rfl) rfl (pi_range1 (by rfl) T.n_range (pa_cons (pe_fld (pv 0) (by rfl)) pa_nil)) (pg_name (i := 3) sc_Over_moments.nd rfl (Or.inr rfl))
      (pss_one (ps_expr (pe_bm PySem.F.plainAttrs_list PySem.F.slot_list_extend PySem.F.type_list_extend mt_extend (pv 2) (pa_cons (pe_lc (own := [("moment", 4)]) (by rfl) sc_Over_moments.nd (pi_list (pv 1)) (blkOk_by (own := [("moment", 4)]) (N := ["self", "own", "found", "time", "moment"]) (sc := defScope s_Over_moments) (by decide +kernel)) (fun _ _ _ _ _ => (pg_name (i := 4) sc_Over_moments.nd rfl (Or.inl rfl))) (fun _ _ _ _ _ => pts_nil) (fun _ _ _ _ _ => (pe_op op_add (pv 4) (pe_op op_mul (pv 3) (pe_fldK K (pv 0) (by rfl)))))) pa_nil)))))
      (pss_one (ps_ret (pv 2)))))), ?_⟩
    obtain ⟨_, m2, hm, hml, hl, hpl, hokL⟩ := ov_facts hok
    have hnL := ov_nest hn
    unfold Tr.moms at q
    unfold ShAt at hO
    obtain ⟨dx, kp, as, ha, hk, hA⟩ := hO
    generalize hns : momsL ps = ns at *
    refine ⟨_, rfl, a, _, dx, _, _, rfl, ha, T.c_Over, T.a_Over_kept, rfl, kp, as, ps, rfl, hk, hA, hnL, hokL, by rw [hns]; exact hl, fun w H1 X1 nw hw => ?_⟩
    rw [hns] at hw
    refine ⟨by show 0 ≤ sizeLine; decide, fun f nf => ?_⟩
    have nf0 := ex_fresh X1 nf
    have X2 := X1.trans (ex_new (o := .lst []) nf)
    have wf : w ≠ f := ne_of_none hw nf
    have af : a ≠ f := ne_of_none ha nf0
    have ha2 := X2 _ _ ha
    have hw2 := ex_new (o := .lst []) nf _ _ hw
    have hf2 : upd H1 f (.lst []) f = some (.lst []) := upd_same
    generalize upd H1 f (.lst []) = H2 at X2 ha2 hw2 hf2 ⊢
    refine ⟨_, rfl, a, _, dx, _, _, rfl, ha2, T.c_Over, T.a_Over_many, rfl, _, rfl, by omega, by omega, for_range (fun i σ H' => Oth f H2 H' ∧ ∃ v3 v4, σ = [some (.ref a), some (.ref w), some (.ref f), v3, v4] ∧ H' f = some (.lst (natV (overN ns i s_)))) ⟨Oth.refl _ _, _, _, rfl, hf2⟩ ?_ ?_⟩
    · rintro i σ H3 hi ⟨O3, v3, v4, rfl, hf3⟩
      have hi2 : i < m := by omega
      have hw3 := O3 _ _ wf hw2
      have ha3 := O3 _ _ af ha2
      have ll : (overN ns i s_).length = i * ns.length := overN_len ns i s_
      have l2 : i * ns.length ≤ m * ns.length := Nat.mul_le_mul_right _ (by omega)
      refine ⟨_, rfl, .inl ⟨rfl, _, sq_lst hf3⟩, _, rfl, w, rfl, ⟨_, sq_lst hw3⟩, fun A nA => lc_on ns (fun n : Nat => V.int n) L2.walk_list (fun n => some (.int ((n + i * s_ : Nat) : Int))) (fun H' => Ex H3 H') (fun H' z e => ex_mut e nA) (.refl _) (by omega) (fun H' e => sq_lst (e _ _ hw3)) (fun j n H4 acc N hn X4 hD la k => ?_) fun H4 X4 d4 => ?_⟩
      · refine ⟨rfl, _, rfl, _, rfl, _, rfl, a, _, dx, _, _, rfl, X4 _ _ ha3, T.c_Over, T.a_Over_step, rfl, _, _, rfl, rfl, .inl ⟨by omega, by omega⟩, _, _, rfl, rfl, acc, hD, la, ?_⟩
        have e : ((n : Nat) : Int) + (0 + ((i : Nat) : Int)) * ((s_ : Nat) : Int) = ((n + i * s_ : Nat) : Int) := by simp
        show N (upd H4 A (.lst (acc ++ [.int (((n : Nat) : Int) + (0 + ((i : Nat) : Int)) * ((s_ : Nat) : Int))])))
        rw [e]
        exact k H4 X4 hD
      · have ed : ns.filterMap (fun n => some (V.int ((n + i * s_ : Nat) : Int))) = natV (ns.map fun n => n + i * s_) := by
          unfold natV
          rw [List.filterMap_eq_map', List.map_map]
          rfl
        rw [ed] at d4
        refine ⟨f, A, _, _, rfl, rfl, X4 _ _ hf3, d4, sz_le (by rw [natV_len, natV_len, List.length_map, ll]; omega), (O3.trans (ex_oth X4)).upd, _, _, rfl, ?_⟩
        rw [upd_same, overN_succ]
        unfold natV
        rw [List.map_append]
    · rintro σ H3 ⟨O3, v3, v4, rfl, hf3⟩
      rw [show ((m : Nat) : Int).toNat = m by omega] at hf3
      exact ⟨_, rfl, q f H3 (Oth.ex X2 nf0 O3) nf0 hf3⟩
theorem ok_Over_moments {P : Program} {w : World} {K : PySem.W.Frag} {mg : Str → Option Value} {base : Heap} (T : Env K mg) {d L : Nat} (hL : 40 ≤ L) (r_Over_moments : Fc P w K mg base L (He.ma K (He.ga K "Over") "moments") [] (sp_Over_moments K d)) : Fc P w K mg base (L + 2) (He.ma K (He.ga K "Over") "moments") [] (sp_Over_moments K (d + 1)) := by
  obtain ⟨fd, D, F⟩ := fb_Over_moments T hL r_Over_moments
  exact F.all (D.bindsN fun _ _ _ _ _ _ us hl => match us, hl with | [_], _ => rfl)
theorem all_Over_moments {P : Program} {w : World} {K : PySem.W.Frag} {mg : Str → Option Value} {base : Heap} (T : Env K mg) : ∀ d, Fc P w K mg base (40 + 2 * d) (He.ma K (He.ga K "Over") "moments") [] (sp_Over_moments K d)
  | 0 => fc_no fun vs H Q E h => by
    obtain ⟨a, ps, m, s, _, _, h, _⟩ := h
    unfold Tr.nest at h
    omega
  | d + 1 => ok_Over_moments T (Nat.le_add_right 40 _) (all_Over_moments T d)
end
section
abbrev SpreadC (K : PySem.W.Frag) : Addr := He.ga K "Spread"
def sprF (kp hd : Addr) : List (Str × V) := [("kept", .ref kp), ("held", .ref hd)]
/-- at a a spread of these shorts -/
def SprAt (K : PySem.W.Frag) (H : Hp) (a : Addr) (ts : List Tr) : Prop := ∃ dx kp hd as, H a = some (.ins (SpreadC K) dx (sprF kp hd)) ∧ H kp = some (.tup (as.map V.ref)) ∧ H hd = some (.lst (natV (momsL ts))) ∧ ShsAt K H ts as
theorem SprAt.mono {K : PySem.W.Frag} {H H' : Hp} {a : Addr} {ts : List Tr} (h : SprAt K H a ts) (e : Ex H H') : SprAt K H' a ts := let ⟨dx, kp, hd, as, h1, h2, h3, h4⟩ := h; ⟨dx, kp, hd, as, e _ _ h1, e _ _ h2, e _ _ h3, h4.mono e⟩
theorem sprF_inj {a b c d : Addr} (h : sprF a b = sprF c d) : a = c ∧ b = d := by
  unfold sprF at h
  simpa using h
theorem ins_inj {C dx dy : Addr} {fs gs : List (Str × V)} (h : some (HO.ins C dx fs) = some (HO.ins C dy gs)) : dx = dy ∧ fs = gs := by
  cases h
  exact ⟨rfl, rfl⟩
/-- the list that a spread holds stands at a place that N tells -/
def HeldN (K : PySem.W.Frag) (N : Addr → Prop) (H : Hp) (a : Addr) : Prop := ∀ dx kp hd, H a = some (.ins (SpreadC K) dx (sprF kp hd)) → N hd
theorem HeldN.ex {K : PySem.W.Frag} {N : Addr → Prop} {H H' : Hp} {a : Addr} {ts : List Tr} (h : HeldN K N H a) (s : SprAt K H a ts) (e : ∀ o, H a = some o → H' a = some o) : HeldN K N H' a := fun dx kp hd z => by
  obtain ⟨dx2, kp2, hd2, as2, h2, _⟩ := s
  obtain ⟨_, e5⟩ := ins_inj ((e _ h2).symm.trans z)
  obtain ⟨e6, e7⟩ := sprF_inj e5
  rw [← e7]
  exact h _ _ _ h2
theorem SprAt.put {K : PySem.W.Frag} {N : Addr → Prop} {H : Hp} {a f : Addr} {ts : List Tr} {xs ys : List V} (s : SprAt K H a ts) (h : HeldN K N H a) (n : ∀ b, N b → b ≠ f) (hf : H f = some (.lst xs)) : SprAt K (upd H f (.lst ys)) a ts ∧ HeldN K N (upd H f (.lst ys)) a := by
  have keep : ∀ b o, H b = some o → (∀ zs, o ≠ .lst zs) → upd H f (.lst ys) b = some o := fun b o hb ho => by
    rw [upd_ne (fun z => by rw [z, hf] at hb; cases hb; exact ho _ rfl)]
    exact hb
  obtain ⟨dx, kp, hd, as, h1, h2, h3, h4⟩ := id s
  refine ⟨⟨dx, kp, hd, as, keep _ _ h1 (fun _ z => nomatch z), keep _ _ h2 (fun _ z => nomatch z), ?_, h4.oth ((Oth.refl f H).upd) fun ob ho => ?_⟩, h.ex s fun o ho => ?_⟩
  · rw [upd_ne (n _ (h _ _ _ h1))]
    exact h3
  · rw [hf] at ho
    cases ho
    exact ⟨_, rfl⟩
  · rw [h1] at ho
    cases ho
    exact keep _ _ h1 (fun _ z => nomatch z)
def sprB (ts : List Tr) : Bool := risB ts && decide ((momsL ts).length ≤ 1440)
def sp_Spread_init (K : PySem.W.Frag) : Sp := fun vs H Q E => ∃ (a dx p : Addr) (as : List Addr) (ts : List Tr) (H0 : Hp), vs = [.ref a, .ref p] ∧ H a = some (.ins (SpreadC K) dx []) ∧ H0 a = none ∧ Ex H0 H ∧ SqA H0 p (as.map V.ref) ∧ ShsAt K H0 ts as ∧ nestL ts ≤ 8 ∧ okL_ ts ∧ ts.length ≤ 20000 ∧ ts.length ≤ 20000 ∧ (sprB ts = true → ∀ H', Oth a H H' → SprAt K H' a ts → HeldN K (fun b => H0 b = none) H' a → Q .non H') ∧ (sprB ts = false → ∀ H', Oth a H H' → E (.ref (He.ga K "NoPiece")) none H')
theorem fb_Spread_init {P : Program} {w : World} {K : PySem.W.Frag} {mg : Str → Option Value} {base : Heap} (T : Env K mg) : ∃ fd, FunD K "__init__" "Spread.__init__" (defArgs s_Spread_init) (defBody s_Spread_init) (defScope s_Spread_init) [] [] (He.ma K (He.ga K "Spread") "__init__") fd ∧ Fb P w K mg base 64 (He.ma K (He.ga K "Spread") "__init__") fd ["self", "parts"] (sp_Spread_init K) := by
  obtain ⟨fd, F⟩ := T.f_Spread_init
  refine ⟨fd, F, fb_of F sc_Spread_init (fun vs H Q E h => ?_) (fun cdv A outer s H vs Q E hr h => ?_)⟩
  · obtain ⟨a, dx, p, as, ts, H0, rfl, _⟩ := h
    rfl
  · obtain ⟨a, dx, p, as, ts, H0, rfl, ha, na0, X0, hp, hA, hn, hok, hlm, hlt, q, qe⟩ := h
    refine ⟨_, (pss_cons (ps_fld (pv 0) (c_call (ok_shorts_in T) (hr.mono (by decide)) T.g_shorts_in T.k_shorts_in (takes_of rfl rfl rfl rfl) (pa_cons (pv 1) pa_nil)) rfl)
      (pss_cons (ps_if (pt_cmpR op_gt (c_call (ok_row_many T (Nat.le_add_right 40 _) (all_Over_means_many T 9)) (hr.mono (by decide)) T.g_row_many T.k_row_many (takes_of rfl rfl rfl rfl) (pa_cons (pe_fld (pv 0) (by rfl)) pa_nil)) (pe_k T.v_MOST_MOMENTS) (nomark _))
      (pss_one (ps_raise rfl (takes_of rfl rfl rfl rfl) (pmk_own PySem.F.excBase_ValueError T.x_NoPiece.x T.g_NoPiece T.x_NoPiece.kp (raises_own T.x_NoPiece.sub T.x_NoPiece.ty) rfl)))
      pss_nil)
      (pss_one (ps_fld (pv 0) (c_call (ok_row_moments T (Nat.le_add_right 40 _) (all_Over_moments T 9)) (hr.mono (by decide)) T.g_row_moments T.k_row_moments (takes_of rfl rfl rfl rfl) (pa_cons (pe_fld (pv 0) (by rfl)) pa_nil)) rfl)))), ?_⟩
    have hpH : SqA H p (as.map V.ref) := hp.imp (fun h => X0 _ _ h) (fun h => X0 _ _ h)
    refine ⟨_, rfl, p, as, ts, rfl, hpH, hA.mono X0, by omega, hok, hlt, fun hr2 t H1 X1 ht => ?_, fun hr2 H1 X1 => qe (by unfold sprB; rw [hr2]; rfl) H1 (ex_oth X1)⟩
    refine ⟨_, rfl, a, _, dx, [], rfl, X1 _ _ ha, T.c_Spread, T.a_Spread_kept, by decide, ?_⟩
    have ta : t ≠ a := fun z => by rw [z, X1 _ _ ha] at ht; cases ht
    have O1 : Oth a H (upd H1 a (.ins (SpreadC K) dx (putF "kept" (.ref t) []))) := (ex_oth X1).upd
    have h2 : upd H1 a (.ins (SpreadC K) dx (putF "kept" (.ref t) [])) a = some (.ins (SpreadC K) dx [("kept", .ref t)]) := upd_same
    have ht2 : upd H1 a (.ins (SpreadC K) dx (putF "kept" (.ref t) [])) t = some (.tup (as.map V.ref)) := by rw [upd_ne ta]; exact ht
    generalize upd H1 a (.ins (SpreadC K) dx (putF "kept" (.ref t) [])) = H2 at O1 h2 ht2 ⊢
    have X02 : Ex H0 H2 := Oth.ex X0 na0 O1
    have hA2 : ShsAt K H2 ts as := hA.mono X02
    refine ⟨_, rfl, a, _, dx, _, _, rfl, h2, T.c_Spread, T.a_Spread_kept, rfl, t, as, ts, rfl, ht2, hA2, by omega, hok, hlm, fun H3 X3 => ⟨_, _, rfl, rfl, _, rfl, ?_⟩⟩
    by_cases c : (momsL ts).length ≤ 1440
    · rw [decide_eq_false (show ¬ (1440 : Int) < (((momsL ts).length : Nat) : Int) by omega)]
      refine iteF ?_
      refine ⟨_, rfl, a, _, dx, _, _, rfl, X3 _ _ h2, T.c_Spread, T.a_Spread_kept, rfl, t, as, ts, rfl, X3 _ _ ht2, hA2.mono X3, by omega, hok, c, fun hd H4 X4 nhd hhd => ?_⟩
      have X34 := X3.trans X4
      have hda : hd ≠ a := fun z => by rw [z, X34 _ _ h2] at hhd; cases hhd
      refine ⟨_, rfl, a, _, dx, _, rfl, X34 _ _ h2, T.c_Spread, T.a_Spread_held, Nat.le_of_ble_eq_true rfl, ?_⟩
      have O4 : Oth a H (upd H4 a (.ins (SpreadC K) dx (sprF t hd))) := (O1.trans (ex_oth X34)).upd
      refine q (by unfold sprB; rw [hr2, decide_eq_true c]; rfl) _ O4 ⟨dx, t, hd, as, upd_same, by rw [upd_ne ta]; exact X34 _ _ ht2, by rw [upd_ne hda]; exact hhd, hA.mono (Oth.ex X0 na0 O4)⟩ fun dx' kp' hd' e => ?_
      rw [upd_same] at e
      rw [← (sprF_inj (ins_inj e).2).2]
      exact ex_fresh (X02.trans X3) nhd
    · rw [decide_eq_true (show (1440 : Int) < (((momsL ts).length : Nat) : Int) by omega)]
      exact iteT (qe (by unfold sprB; rw [decide_eq_false c, Bool.and_false]) H3 (O1.trans (ex_oth X3)))
theorem spread_newH {K : PySem.W.Frag} {H : Hp} {x dx p : Addr} {as : List Addr} {ts : List Tr} {Q : VK} {E : XK} (nx : H x = none) (nd : H dx = none) (ne : dx ≠ x) (hp : SqA H p (as.map V.ref)) (hA : ShsAt K H ts as) (hn : nestL ts ≤ 8) (hok : okL_ ts) (hb : sprB ts = true) (q : ∀ H', Ex H H' → SprAt K H' x ts → HeldN K (fun b => H b = none) H' x → Q .non H') :
    sp_Spread_init K [.ref x, .ref p] (upd (upd H dx (.own x)) x (.ins (SpreadC K) dx [])) Q E := by
  have X1 := ex_made (o1 := .own x) (o2 := .ins (SpreadC K) dx []) nx nd ne
  have hl : (momsL ts).length ≤ 1440 := of_decide_eq_true (Bool.and_eq_true_iff.mp hb).2
  have h2 := len_moms hok
  refine ⟨x, dx, p, as, ts, H, rfl, upd_same, nx, X1, hp, hA, hn, hok, by omega, by omega, fun _ H' k d e => ?_, fun z => by rw [hb] at z; cases z⟩
  exact q H' (fun b o e => k b o (ne_of_none e nx) (X1 _ _ e)) d e
theorem ok_Spread_init {P : Program} {w : World} {K : PySem.W.Frag} {mg : Str → Option Value} {base : Heap} (T : Env K mg) : Fc P w K mg base 64 (He.ma K (He.ga K "Spread") "__init__") [] (sp_Spread_init K ) := by
  obtain ⟨fd, D, F⟩ := fb_Spread_init T
  exact F.all (D.bindsN fun _ _ _ _ _ _ us hl => match us, hl with | [_, _], _ => rfl)
end
section
abbrev GoingC (K : PySem.W.Frag) : Addr := He.ga K "Going"
def goF (n : Nat) (kp : Addr) : List (Str × V) := [("moment", .int (n : Nat)), ("notes", .ref kp)]
/-- at a a Going of a moment and notes -/
def GoAt (K : PySem.W.Frag) (H : Hp) (a : Addr) (n : Nat) (ws : List Str) : Prop := ∃ dx kp, H a = some (.ins (GoingC K) dx (goF n kp)) ∧ H kp = some (.tup (ws.map V.str)) ∧ Nms ws ∧ ws.length ≤ 1000
theorem GoAt.mono {K : PySem.W.Frag} {H H' : Hp} {a : Addr} {n : Nat} {ws : List Str} (h : GoAt K H a n ws) (e : Ex H H') : GoAt K H' a n ws := let ⟨dx, kp, h1, h2, h3⟩ := h; ⟨dx, kp, e _ _ h1, e _ _ h2, h3⟩
end
section
def sp_Going_init (K : PySem.W.Frag) : Sp := fun vs H Q E => ∃ (a dx : Addr) (x y : V) (H0 : Hp), vs = [.ref a, x, y] ∧ H a = some (.ins (GoingC K) dx []) ∧ H0 a = none ∧ Ex H0 H ∧ Cl K H x ∧ (isM x = false → E (.ref (He.ga K "NoTime")) none H) ∧
  (∀ n : Nat, x = .int (n : Nat) → ∃ r, NtX K H0 y r ∧ (∀ ws, r = some ws → ∀ H', Ex H0 H' → GoAt K H' a n ws → Q .non H') ∧ (r = none → ∀ H', Ex H0 H' → E (.ref (He.ga K "NoCard")) none H'))
theorem fb_Going_init {P : Program} {w : World} {K : PySem.W.Frag} {mg : Str → Option Value} {base : Heap} (T : Env K mg) : ∃ fd, FunD K "__init__" "Going.__init__" (defArgs s_Going_init) (defBody s_Going_init) (defScope s_Going_init) [.non] [] (He.ma K (He.ga K "Going") "__init__") fd ∧ Fb P w K mg base 4 (He.ma K (He.ga K "Going") "__init__") fd ["self", "moment", "notes"] (sp_Going_init K) := by
  obtain ⟨fd, F⟩ := T.f_Going_init
  refine ⟨fd, F, fb_of F sc_Going_init (fun vs H Q E h => ?_) (fun cdv A outer s H vs Q E hr h => ?_)⟩
  · obtain ⟨a, dx, x, y, H0, rfl, _⟩ := h
    rfl
  · obtain ⟨a, dx, x, y, H0, rfl, ha, na0, X0, cl, qt, qn⟩ := h
    refine ⟨_, (pss_cons (ps_expr (c_call (ok_want_moment T) (hr.mono (by decide)) T.g_want_moment T.k_want_moment (takes_of rfl rfl rfl rfl) (pa_cons (pv 1) pa_nil)))
      (pss_cons (ps_fld (pv 0) (pv 1) rfl)
      (pss_one (ps_fld (pv 0) (c_call (ok_notes_of T) (hr.mono (by decide)) T.g_notes_of T.k_notes_of (takes_of rfl rfl rfl rfl) (pa_cons (pv 2) pa_nil)) rfl)))), ?_⟩
    refine ⟨_, rfl, x, rfl, cl, fun hm => ?_, qt⟩
    obtain ⟨n, rfl⟩ : ∃ n : Nat, x = .int (n : Nat) := by
      cases x with
      | int i => exact ⟨i.toNat, by rw [Int.toNat_of_nonneg (of_decide_eq_true hm)]⟩
      | _ => cases hm
    obtain ⟨r, hN, q, qe⟩ := qn n rfl
    refine ⟨_, rfl, _, rfl, _, _, _, _, rfl, ha, T.c_Going, T.a_Going_moment, (by decide), _, rfl, ?_⟩
    have O1 : Oth a H (upd H a (HO.ins (GoingC K) dx (putF "moment" (V.int (n : Nat)) []))) := (Oth.refl a H).upd
    have h1 : upd H a (HO.ins (GoingC K) dx (putF "moment" (V.int (n : Nat)) [])) a = some (.ins (GoingC K) dx [("moment", .int (n : Nat))]) := upd_same
    generalize upd H a (HO.ins (GoingC K) dx (putF "moment" (V.int (n : Nat)) [])) = H1 at O1 h1 ⊢
    have X1 : Ex H0 H1 := Oth.ex X0 na0 O1
    refine ⟨y, r, rfl, hN.mono X1, fun ws er p H2 X2 np hp => ⟨_, rfl, a, _, dx, _, rfl, X2 _ _ h1, T.c_Going, T.a_Going_notes, Nat.le_of_ble_eq_true rfl, ?_⟩, fun er H2 X2 => qe er H2 (X1.trans X2)⟩
    have pa : p ≠ a := fun z => by rw [z, h1] at np; cases np
    subst er
    exact q ws rfl _ (Oth.ex (X1.trans X2) na0 (Oth.refl a H2).upd) ⟨dx, p, upd_same, by rw [upd_ne pa]; exact hp, nt_nms hN⟩
theorem go_new {K : PySem.W.Frag} {H : Hp} {x dx : Addr} {n : Nat} {y : V} {ws : List Str} {Q : VK} {E : XK} (nx : H x = none) (nd : H dx = none) (ne : dx ≠ x) (hN : NtX K H y (some ws)) (q : ∀ H', Ex H H' → GoAt K H' x n ws → Q .non H') :
    sp_Going_init K [.ref x, .int (n : Nat), y] (upd (upd H dx (.own x)) x (.ins (GoingC K) dx [])) Q E := by
  have X1 := ex_made (o1 := .own x) (o2 := .ins (GoingC K) dx []) nx nd ne
  refine ⟨x, dx, _, y, H, rfl, upd_same, nx, X1, cl_int _, fun z => ?_, fun m e => ?_⟩
  · have z' : decide (0 ≤ ((n : Nat) : Int)) = false := z
    rw [decide_eq_true (by omega)] at z'
    cases z'
  · injection e with e
    obtain rfl : n = m := by omega
    exact ⟨some ws, hN, fun us e H' X g => by cases e; exact q H' X g, fun e => nomatch e⟩
theorem ok_Going_init {P : Program} {w : World} {K : PySem.W.Frag} {mg : Str → Option Value} {base : Heap} (T : Env K mg) : Fc P w K mg base 4 (He.ma K (He.ga K "Going") "__init__") [] (fun vs H Q E => vs.length = 3 + ([] : List Str).length ∧ sp_Going_init K  (pick [.inl 0, .inl 1, .inl 2] vs [.non]) H Q E) := by
  obtain ⟨fd, D, F⟩ := fb_Going_init T
  exact Fb.shape D F 3 [] (fun us its => pick [.inl 0, .inl 1, .inl 2] us its) (by decide) (fun r1 r2 => pick_vals _ r1 r2) (fun T kV doc pm an cdv ct us ws its h1 h2 h3 => match us, ws, its, h1, h2, h3 with | [_, _, _], [], [_], _, _, _ => ⟨_, rfl, rfl⟩)
end
section
inductive CardD where
  | once (ts : List Tr) (ws : List Str)
  | every (D : DaysD) (ts : List Tr) (ws : List Str)
  | join (cs : List CardD)
  | less (c d : CardD)
  | swap (c : CardD) (D : DaysD) (d : CardD)
  | later (c : CardD) (m : Nat)
  | noted (c : CardD) (z : Str)
  | as_ (z : Str)
def CardD.inner : CardD → List CardD
  | .join cs => cs
  | .less c d => [c, d]
  | .swap c _ d => [c, d]
  | .later c _ => [c]
  | .noted c _ => [c]
  | _ => []
mutual
/-- how many cards it has in it -/
def CardD.wt : CardD → Nat
  | .join cs => 1 + wtL cs
  | .less c d => 1 + (c.wt + d.wt)
  | .swap c _ d => 1 + (c.wt + d.wt)
  | .later c _ => 1 + c.wt
  | .noted c _ => 1 + c.wt
  | .once _ _ => 1
  | .every _ _ _ => 1
  | .as_ _ => 1
def wtL : List CardD → Nat
  | [] => 0
  | c :: cs => c.wt + wtL cs
end
theorem CardD.wt_eq (c : CardD) : c.wt = 1 + wtL c.inner := by
  cases c <;> simp [CardD.wt, CardD.inner, wtL]
theorem CardD.wt_pos (c : CardD) : 1 ≤ c.wt := by
  rw [c.wt_eq]
  omega
theorem wtL_mem {c : CardD} : ∀ {cs : List CardD}, c ∈ cs → c.wt ≤ wtL cs
  | x :: r, h => by
    show _ ≤ x.wt + wtL r
    rcases List.mem_cons.mp h with rfl | h
    · omega
    · have := wtL_mem h
      omega
theorem wtL_len : ∀ cs : List CardD, cs.length ≤ wtL cs
  | [] => Nat.le_refl _
  | c :: cs => by
    show cs.length + 1 ≤ c.wt + wtL cs
    have := wtL_len cs
    have := c.wt_pos
    omega
theorem wtL_snoc (c : CardD) : ∀ cs : List CardD, wtL (cs ++ [c]) = wtL cs + c.wt
  | [] => by
    show c.wt + 0 = 0 + c.wt
    omega
  | x :: r => by
    show x.wt + wtL (r ++ [c]) = x.wt + wtL r + c.wt
    rw [wtL_snoc c r]
    omega
theorem wtL_take : ∀ (i : Nat) (cs : List CardD), wtL (cs.take i) ≤ wtL cs
  | 0, cs => Nat.zero_le _
  | i + 1, [] => Nat.le_refl _
  | i + 1, x :: r => by
    show x.wt + wtL (r.take i) ≤ x.wt + wtL r
    have := wtL_take i r
    omega
theorem inner_wt {c d : CardD} (h : d ∈ c.inner) : d.wt < c.wt := by
  have := wtL_mem h
  rw [c.wt_eq]
  omega
/-- the notes of two goings as those of one -/
def togN (f : Option (List Str)) (w : List Str) : List Str := match f with
  | none => w
  | some u => srtS (dst [] (u ++ w))
mutual
/-- the name of the first As -/
def CardD.fst : CardD → Option Str
  | .as_ z => some z
  | .join cs => fstL cs
  | .less c d => (match c.fst with | some z => some z | none => d.fst)
  | .swap c _ d => (match c.fst with | some z => some z | none => d.fst)
  | .later c _ => c.fst
  | .noted c _ => c.fst
  | .once _ _ => none
  | .every _ _ _ => none
def fstL : List CardD → Option Str
  | [] => none
  | c :: cs => (match c.fst with | some z => some z | none => fstL cs)
end
mutual
/-- the notes of the going at a moment -/
def CardD.nts : CardD → Nat → Option (List Str)
  | .once ts ws, n => if n ∈ momsL ts then some ws else none
  | .every D ts ws, n => if n % 1440 ∈ momsL ts then (if dHas D (n / 1440) then some ws else none) else none
  | .join cs, n => ntsL cs none n
  | .less c d, n => (match d.nts n with | none => c.nts n | some _ => none)
  | .swap c D d, n => if dHas D (n / 1440) then d.nts n else c.nts n
  | .later c m, n => if m ≤ n then c.nts (n - m) else none
  | .noted c z, n => (match c.nts n with | none => none | some w => some (togN (some w) [z]))
  | .as_ _, _ => none
def ntsL : List CardD → Option (List Str) → Nat → Option (List Str)
  | [], f, _ => f
  | c :: cs, f, n => (match c.nts n with | none => ntsL cs f n | some w => ntsL cs (some (togN f w)) n)
end
theorem fstL_cons (c : CardD) (cs : List CardD) : fstL (c :: cs) = (match c.fst with | some z => some z | none => fstL cs) := by
  first
  | rfl
  | (rw [fstL]; done)
  | (rw [fstL]; cases c.fst <;> rfl)
  | (simp only [fstL]; done)
  | (simp only [fstL]; cases c.fst <;> rfl)
theorem ntsL_cons (c : CardD) (cs : List CardD) (f : Option (List Str)) (n : Nat) : ntsL (c :: cs) f n = (match c.nts n with | none => ntsL cs f n | some w => ntsL cs (some (togN f w)) n) := by
  first
  | rfl
  | (rw [ntsL]; done)
  | (rw [ntsL]; cases c.nts n <;> rfl)
  | (simp only [ntsL]; done)
  | (simp only [ntsL]; cases c.nts n <;> rfl)
def CardD.isAs : CardD → Bool
  | .as_ _ => true
  | _ => false
theorem CardD.fst_eq (c : CardD) (h : c.isAs = false) : c.fst = fstL c.inner := by
  cases c with
  | less c d =>
    simp only [CardD.fst, CardD.inner, fstL]
    cases c.fst with
    | some z => rfl
    | none => cases d.fst <;> rfl
  | swap c D d =>
    simp only [CardD.fst, CardD.inner, fstL]
    cases c.fst with
    | some z => rfl
    | none => cases d.fst <;> rfl
  | later c m =>
    simp only [CardD.fst, CardD.inner, fstL]
    cases c.fst <;> rfl
  | noted c z =>
    simp only [CardD.fst, CardD.inner, fstL]
    cases c.fst <;> rfl
  | as_ z => cases h
  | _ => simp [CardD.fst, CardD.inner, fstL]
/-- the moments of a spread as a dict's keys -/
def ownK (ms : List Nat) : List (Key × V) := ms.map fun (n : Nat) => (Sum.inl (n : Int), V.bl true)
theorem ownK_get (n : Nat) : ∀ ms : List Nat, valV (ownK ms) (Sum.inl (n : Int)) = if n ∈ ms then some (V.bl true) else none
  | [] => rfl
  | m :: ms => by
    show valV ((Sum.inl ((m : Nat) : Int), V.bl true) :: ownK ms) _ = _
    by_cases h : m = n
    · subst h
      rw [valV_pos rfl, if_pos List.mem_cons_self]
    · rw [valV_neg (fun z => h (by injection z with z; omega)), ownK_get n ms]
      by_cases c : n ∈ ms
      · rw [if_pos c, if_pos (List.mem_cons_of_mem _ c)]
      · rw [if_neg c, if_neg fun z => (List.mem_cons.mp z).elim (fun e => h e.symm) c]
theorem ownK_merge : ∀ (ms xs : List Nat), (xs ++ ms).Nodup → mergeK (ownK xs) (ownK ms) = ownK (xs ++ ms)
  | [], xs, _ => by
    rw [List.append_nil]
    rfl
  | m :: ms, xs, h => by
    show mergeK (putK (ownK xs) (Sum.inl ((m : Nat) : Int)) (V.bl true)) (ownK ms) = _
    have hm : m ∉ xs := fun z => (List.nodup_append.mp h).2.2 m z m List.mem_cons_self rfl
    rw [putK_new _ (by rw [ownK_get, if_neg hm])]
    have e : ownK xs ++ [(Sum.inl ((m : Nat) : Int), V.bl true)] = ownK (xs ++ [m]) := by
      unfold ownK
      rw [List.map_append]
      rfl
    rw [e, ownK_merge ms (xs ++ [m]) (by rw [List.append_assoc]; exact h), List.append_assoc]
    rfl
end
section
abbrev CardC (K : PySem.W.Frag) : Addr := He.ga K "Card"
def cdF (h : Addr) (w : Nat) (fs : List (Str × V)) : List (Str × V) := ("held", .ref h) :: ("weight", .int (w : Nat)) :: fs
mutual
/-- at a this card -/
def CardAt (K : PySem.W.Frag) (H : Hp) : CardD → Addr → Prop
  | .once ts ws, a => ∃ dx h s nt ow, H a = some (.ins (He.ga K "Once") dx (cdF h 1 [("spread", .ref s), ("notes", .ref nt), ("own", .ref ow)])) ∧ H h = some (.lst []) ∧ SprAt K H s ts ∧ H nt = some (.tup (ws.map V.str)) ∧ H ow = some (.dK (ownK (momsL ts)))
  | .every D ts ws, a => ∃ dx h r s nt ow, H a = some (.ins (He.ga K "Every") dx (cdF h 1 [("days", .ref r), ("spread", .ref s), ("notes", .ref nt), ("own", .ref ow)])) ∧ H h = some (.lst []) ∧ DaysAt K H r D ∧ SprAt K H s ts ∧ H nt = some (.tup (ws.map V.str)) ∧ H ow = some (.dK (ownK (momsL ts)))
  | .join cs, a => ∃ dx h as, H a = some (.ins (He.ga K "Join") dx (cdF h (1 + wtL cs) [])) ∧ H h = some (.lst (as.map V.ref)) ∧ CardsAt K H cs as
  | .less c d, a => ∃ dx h b e, H a = some (.ins (He.ga K "Less") dx (cdF h (1 + (c.wt + d.wt)) [])) ∧ H h = some (.lst [.ref b, .ref e]) ∧ CardAt K H c b ∧ CardAt K H d e
  | .swap c D d, a => ∃ dx h b e r, H a = some (.ins (He.ga K "Swap") dx (cdF h (1 + (c.wt + d.wt)) [("days", .ref r)])) ∧ H h = some (.lst [.ref b, .ref e]) ∧ CardAt K H c b ∧ CardAt K H d e ∧ DaysAt K H r D
  | .later c m, a => ∃ dx h b, H a = some (.ins (He.ga K "Later") dx (cdF h (1 + c.wt) [("minutes", .int (m : Nat))])) ∧ H h = some (.lst [.ref b]) ∧ CardAt K H c b
  | .noted c z, a => ∃ dx h b, H a = some (.ins (He.ga K "Noted") dx (cdF h (1 + c.wt) [("note", .str z)])) ∧ H h = some (.lst [.ref b]) ∧ CardAt K H c b
  | .as_ z, a => ∃ dx h, H a = some (.ins (He.ga K "As") dx (cdF h 1 [("name", .str z)])) ∧ H h = some (.lst [])
def CardsAt (K : PySem.W.Frag) (H : Hp) : List CardD → List Addr → Prop
  | [], as => as = []
  | c :: cs, as => ∃ a r, as = a :: r ∧ CardAt K H c a ∧ CardsAt K H cs r
end
mutual
theorem CardAt.mono {K : PySem.W.Frag} {H H' : Hp} (e : Ex H H') : ∀ {c : CardD} {a : Addr}, CardAt K H c a → CardAt K H' c a
  | .once ts ws, a, h => by
    unfold CardAt at h ⊢
    obtain ⟨dx, hd, s, nt, ow, h1, h2, h3, h4, h5⟩ := h
    exact ⟨dx, hd, s, nt, ow, e _ _ h1, e _ _ h2, h3.mono e, e _ _ h4, e _ _ h5⟩
  | .every D ts ws, a, h => by
    unfold CardAt at h ⊢
    obtain ⟨dx, hd, r, s, nt, ow, h1, h2, h0, h3, h4, h5⟩ := h
    exact ⟨dx, hd, r, s, nt, ow, e _ _ h1, e _ _ h2, h0.mono e, h3.mono e, e _ _ h4, e _ _ h5⟩
  | .join cs, a, h => by
    unfold CardAt at h ⊢
    obtain ⟨dx, hd, as, h1, h2, h3⟩ := h
    exact ⟨dx, hd, as, e _ _ h1, e _ _ h2, CardsAt.mono e h3⟩
  | .less c d, a, h => by
    unfold CardAt at h ⊢
    obtain ⟨dx, hd, b, x, h1, h2, h3, h4⟩ := h
    exact ⟨dx, hd, b, x, e _ _ h1, e _ _ h2, CardAt.mono e h3, CardAt.mono e h4⟩
  | .swap c D d, a, h => by
    unfold CardAt at h ⊢
    obtain ⟨dx, hd, b, x, r, h1, h2, h3, h4, h5⟩ := h
    exact ⟨dx, hd, b, x, r, e _ _ h1, e _ _ h2, CardAt.mono e h3, CardAt.mono e h4, h5.mono e⟩
  | .later c m, a, h => by
    unfold CardAt at h ⊢
    obtain ⟨dx, hd, b, h1, h2, h3⟩ := h
    exact ⟨dx, hd, b, e _ _ h1, e _ _ h2, CardAt.mono e h3⟩
  | .noted c z, a, h => by
    unfold CardAt at h ⊢
    obtain ⟨dx, hd, b, h1, h2, h3⟩ := h
    exact ⟨dx, hd, b, e _ _ h1, e _ _ h2, CardAt.mono e h3⟩
  | .as_ z, a, h => by
    unfold CardAt at h ⊢
    obtain ⟨dx, hd, h1, h2⟩ := h
    exact ⟨dx, hd, e _ _ h1, e _ _ h2⟩
theorem CardsAt.mono {K : PySem.W.Frag} {H H' : Hp} (e : Ex H H') : ∀ {cs : List CardD} {as : List Addr}, CardsAt K H cs as → CardsAt K H' cs as
  | [], as, h => by
    unfold CardsAt at h ⊢
    exact h
  | c :: cs, as, h => by
    unfold CardsAt at h ⊢
    obtain ⟨a, r, h1, h2, h3⟩ := h
    exact ⟨a, r, h1, CardAt.mono e h2, CardsAt.mono e h3⟩
end
theorem CardsAt.one {K : PySem.W.Frag} {H : Hp} {c : CardD} {a : Addr} (h : CardAt K H c a) : CardsAt K H [c] [a] := by
  unfold CardsAt
  exact ⟨a, [], rfl, h, by unfold CardsAt; rfl⟩
theorem CardsAt.cons {K : PySem.W.Frag} {H : Hp} {c : CardD} {a : Addr} {cs : List CardD} {as : List Addr} (h : CardAt K H c a) (t : CardsAt K H cs as) : CardsAt K H (c :: cs) (a :: as) := by
  unfold CardsAt
  exact ⟨a, as, rfl, h, t⟩
theorem CardsAt.app {K : PySem.W.Frag} {H : Hp} : ∀ {cs ds : List CardD} {as bs : List Addr}, CardsAt K H cs as → CardsAt K H ds bs → CardsAt K H (cs ++ ds) (as ++ bs)
  | [], ds, as, bs, h, t => by
    unfold CardsAt at h
    rw [h]
    exact t
  | c :: cs, ds, as, bs, h, t => by
    unfold CardsAt at h
    obtain ⟨a, r, rfl, h1, h2⟩ := h
    exact .cons h1 (CardsAt.app h2 t)
theorem CardsAt.len {K : PySem.W.Frag} {H : Hp} : ∀ {cs : List CardD} {as : List Addr}, CardsAt K H cs as → as.length = cs.length
  | [], as, h => by
    unfold CardsAt at h
    rw [h]
    rfl
  | c :: cs, as, h => by
    unfold CardsAt at h
    obtain ⟨a, r, rfl, _, h3⟩ := h
    rw [List.length_cons, List.length_cons, h3.len]
theorem CardsAt.get {K : PySem.W.Frag} {H : Hp} : ∀ {cs : List CardD} {as : List Addr} {i : Nat} {a : Addr}, CardsAt K H cs as → as[i]? = some a → ∃ c, cs[i]? = some c ∧ CardAt K H c a
  | [], as, i, a, h, e => by
    unfold CardsAt at h
    rw [h] at e
    cases e
  | c :: cs, as, i, a, h, e => by
    unfold CardsAt at h
    obtain ⟨b, r, rfl, h2, h3⟩ := h
    cases i with
    | zero =>
      cases e
      exact ⟨c, rfl, h2⟩
    | succ i => exact h3.get e
/-- what the head says of a card's class -/
structure CdC (K : PySem.W.Frag) (C : Addr) (b : Bool) : Prop where
  cls : Cls K C
  ins : InsC K C
  held : NoAttr K C "held"
  weight : NoAttr K C "weight"
  inner : Meth K C "inner" (He.ma K (CardC K) "inner")
  isCard : PySem.W.kitOne K (.ref C) (.ref (CardC K)) = some true
  isAs : PySem.W.kitOne K (.ref C) (.ref (He.ga K "As")) = some b
def cdCls (K : PySem.W.Frag) : CardD → Addr
  | .once _ _ => He.ga K "Once"
  | .every _ _ _ => He.ga K "Every"
  | .join _ => He.ga K "Join"
  | .less _ _ => He.ga K "Less"
  | .swap _ _ _ => He.ga K "Swap"
  | .later _ _ => He.ga K "Later"
  | .noted _ _ => He.ga K "Noted"
  | .as_ _ => He.ga K "As"
theorem card_gen {K : PySem.W.Frag} {mg : Str → Option Value} (T : Env K mg) {H : Hp} {a : Addr} : ∀ {c : CardD}, CardAt K H c a → ∃ dx hd as fs, H a = some (.ins (cdCls K c) dx (cdF hd c.wt fs)) ∧ H hd = some (.lst (as.map V.ref)) ∧ CardsAt K H c.inner as ∧ CdC K (cdCls K c) c.isAs ∧
    (cdF hd c.wt fs).lookup (Str.ofString "inner") = none ∧ (cdF hd c.wt fs).lookup (Str.ofString "notes_at") = none ∧ (cdF hd c.wt fs).lookup (Str.ofString "moments_within") = none ∧ (cdF hd c.wt fs).lookup (Str.ofString "size") = none
  | .once ts ws, h => by
    unfold CardAt at h
    obtain ⟨dx, hd, s, nt, ow, h1, h2, h3, h4, h5⟩ := h
    exact ⟨dx, hd, [], _, h1, h2, by unfold CardsAt; rfl, ⟨T.c_Once, T.i_Once, T.a_Once_held, T.a_Once_weight, T.e_Once_inner ▸ T.m_Once_inner, T.kit_Once_Card, T.kit_Once_As⟩, rfl, rfl, rfl, rfl⟩
  | .every D ts ws, h => by
    unfold CardAt at h
    obtain ⟨dx, hd, r, s, nt, ow, h1, h2, h0, h3, h4, h5⟩ := h
    exact ⟨dx, hd, [], _, h1, h2, by unfold CardsAt; rfl, ⟨T.c_Every, T.i_Every, T.a_Every_held, T.a_Every_weight, T.e_Every_inner ▸ T.m_Every_inner, T.kit_Every_Card, T.kit_Every_As⟩, rfl, rfl, rfl, rfl⟩
  | .join cs, h => by
    unfold CardAt at h
    obtain ⟨dx, hd, as, h1, h2, h3⟩ := h
    exact ⟨dx, hd, as, _, h1, h2, h3, ⟨T.c_Join, T.i_Join, T.a_Join_held, T.a_Join_weight, T.e_Join_inner ▸ T.m_Join_inner, T.kit_Join_Card, T.kit_Join_As⟩, rfl, rfl, rfl, rfl⟩
  | .less c d, h => by
    unfold CardAt at h
    obtain ⟨dx, hd, b, e, h1, h2, h3, h4⟩ := h
    exact ⟨dx, hd, [b, e], _, h1, h2, by unfold CardsAt; exact ⟨b, [e], rfl, h3, by unfold CardsAt; exact ⟨e, [], rfl, h4, by unfold CardsAt; rfl⟩⟩, ⟨T.c_Less, T.i_Less, T.a_Less_held, T.a_Less_weight, T.e_Less_inner ▸ T.m_Less_inner, T.kit_Less_Card, T.kit_Less_As⟩, rfl, rfl, rfl, rfl⟩
  | .swap c D d, h => by
    unfold CardAt at h
    obtain ⟨dx, hd, b, e, r, h1, h2, h3, h4, h5⟩ := h
    exact ⟨dx, hd, [b, e], _, h1, h2, by unfold CardsAt; exact ⟨b, [e], rfl, h3, by unfold CardsAt; exact ⟨e, [], rfl, h4, by unfold CardsAt; rfl⟩⟩, ⟨T.c_Swap, T.i_Swap, T.a_Swap_held, T.a_Swap_weight, T.e_Swap_inner ▸ T.m_Swap_inner, T.kit_Swap_Card, T.kit_Swap_As⟩, rfl, rfl, rfl, rfl⟩
  | .later c m, h => by
    unfold CardAt at h
    obtain ⟨dx, hd, b, h1, h2, h3⟩ := h
    exact ⟨dx, hd, [b], _, h1, h2, by unfold CardsAt; exact ⟨b, [], rfl, h3, by unfold CardsAt; rfl⟩, ⟨T.c_Later, T.i_Later, T.a_Later_held, T.a_Later_weight, T.e_Later_inner ▸ T.m_Later_inner, T.kit_Later_Card, T.kit_Later_As⟩, rfl, rfl, rfl, rfl⟩
  | .noted c z, h => by
    unfold CardAt at h
    obtain ⟨dx, hd, b, h1, h2, h3⟩ := h
    exact ⟨dx, hd, [b], _, h1, h2, by unfold CardsAt; exact ⟨b, [], rfl, h3, by unfold CardsAt; rfl⟩, ⟨T.c_Noted, T.i_Noted, T.a_Noted_held, T.a_Noted_weight, T.e_Noted_inner ▸ T.m_Noted_inner, T.kit_Noted_Card, T.kit_Noted_As⟩, rfl, rfl, rfl, rfl⟩
  | .as_ z, h => by
    unfold CardAt at h
    obtain ⟨dx, hd, h1, h2⟩ := h
    exact ⟨dx, hd, [], _, h1, h2, by unfold CardsAt; rfl, ⟨T.c_As, T.i_As, T.a_As_held, T.a_As_weight, T.e_As_inner ▸ T.m_As_inner, T.kit_As_Card, T.kit_As_As⟩, rfl, rfl, rfl, rfl⟩
/-- the list that a card holds stands at a place that N tells, its spread is x -/
def CdN (N : Addr → Prop) (x : V) (H : Hp) (a : Addr) : Prop := ∀ C dx hd w fs, H a = some (.ins C dx (cdF hd w fs)) → N hd ∧ fs.lookup (Str.ofString "spread") = some x
theorem cdN_of {N : Addr → Prop} {x : V} {H : Hp} {a C dx hd : Addr} {w : Nat} {fs : List (Str × V)} (h : H a = some (.ins C dx (cdF hd w fs))) (n : N hd) (l : fs.lookup (Str.ofString "spread") = some x) : CdN N x H a := fun C' dx' hd' w' fs' e => by
  rw [h] at e
  unfold cdF at e
  simp only [Option.some.injEq, HO.ins.injEq, List.cons.injEq, Prod.mk.injEq, V.ref.injEq, true_and] at e
  obtain ⟨_, _, e1, _, e2⟩ := e
  rw [← e1, ← e2]
  exact ⟨n, l⟩
mutual
/-- what is known of a card's parts -/
def CardD.ok : CardD → Prop
  | .once ts ws => Nms ws ∧ ws.Nodup ∧ ws.length ≤ 16 ∧ (momsL ts).length ≤ 1440
  | .every D ts ws => D.ok ∧ Nms ws ∧ ws.Nodup ∧ ws.length ≤ 16 ∧ (momsL ts).length ≤ 1440
  | .join cs => okCs cs ∧ wtL cs < 60 ∧ cs ≠ []
  | .less c d => c.ok ∧ d.ok
  | .swap c D d => c.ok ∧ D.ok ∧ d.ok
  | .later c m => c.ok ∧ m ≤ 10080
  | .noted c z => c.ok ∧ nmN z.cps.toList = true ∧ c.wt < 60
  | .as_ z => nmN z.cps.toList = true
def okCs : List CardD → Prop
  | [] => True
  | c :: cs => c.ok ∧ okCs cs
end
theorem okCs_mem : ∀ {cs : List CardD} {c : CardD}, okCs cs → c ∈ cs → c.ok
  | x :: r, c, h, m => by
    unfold okCs at h
    rcases List.mem_cons.mp m with rfl | m
    · exact h.1
    · exact okCs_mem h.2 m
/-- the notes of a going, or None -/
def NtAt (H : Hp) (x : V) : Option (List Str) → Prop
  | none => x = .non
  | some ws => ∃ p, x = .ref p ∧ H p = some (.tup (ws.map V.str))
theorem NtAt.mono {H H' : Hp} {x : V} {r : Option (List Str)} (h : NtAt H x r) (e : Ex H H') : NtAt H' x r := by
  cases r with
  | none => exact h
  | some ws =>
    obtain ⟨p, h1, h2⟩ := h
    exact ⟨p, h1, e _ _ h2⟩
theorem tog_ok {f : Option (List Str)} {w : List Str} {m k : Nat} (hf : ∀ u, f = some u → Nms u ∧ u.Nodup ∧ u.length ≤ m) (hw : Nms w ∧ w.Nodup ∧ w.length ≤ k) : Nms (togN f w) ∧ (togN f w).Nodup ∧ (togN f w).length ≤ m + k := by
  cases f with
  | none => exact ⟨hw.1, hw.2.1, by have := hw.2.2; show w.length ≤ _; omega⟩
  | some u =>
    obtain ⟨a1, a2, a3⟩ := hf u rfl
    have p := srtS_perm (dst [] (u ++ w))
    show Nms (srtS (dst [] (u ++ w))) ∧ (srtS (dst [] (u ++ w))).Nodup ∧ (srtS (dst [] (u ++ w))).length ≤ _
    refine ⟨fun z hz => ?_, p.nodup_iff.mpr (dst_nodup _ _ List.nodup_nil), ?_⟩
    · rcases (mem_dst _ _).mp (p.mem_iff.mp hz) with h | h
      · cases h
      · rcases List.mem_append.mp h with h | h
        · exact a1 z h
        · exact hw.1 z h
    · rw [p.length_eq]
      have := dst_len (u ++ w) []
      rw [List.length_append] at this
      have := hw.2.2
      simp only [List.length_nil] at *
      omega
mutual
theorem CardD.nts_ok : ∀ (c : CardD) (n : Nat) (ws : List Str), c.ok → c.nts n = some ws → Nms ws ∧ ws.Nodup ∧ ws.length ≤ 16 * c.wt
  | .once ts us, n, ws, h, e => by
    unfold CardD.ok at h
    unfold CardD.nts at e
    split at e
    · cases e
      exact ⟨h.1, h.2.1, by unfold CardD.wt; omega⟩
    · cases e
  | .every D ts us, n, ws, h, e => by
    unfold CardD.ok at h
    unfold CardD.nts at e
    split at e
    · split at e
      · cases e
        exact ⟨h.2.1, h.2.2.1, by unfold CardD.wt; omega⟩
      · cases e
    · cases e
  | .join cs, n, ws, h, e => by
    unfold CardD.ok at h
    unfold CardD.nts at e
    have z := ntsL_ok cs none n ws 0 h.1 nofun e
    unfold CardD.wt
    exact ⟨z.1, z.2.1, by omega⟩
  | .less c d, n, ws, h, e => by
    unfold CardD.ok at h
    unfold CardD.nts at e
    unfold CardD.wt
    split at e
    · have z := CardD.nts_ok c n ws h.1 e
      exact ⟨z.1, z.2.1, by omega⟩
    · cases e
  | .swap c D d, n, ws, h, e => by
    unfold CardD.ok at h
    unfold CardD.nts at e
    unfold CardD.wt
    split at e
    · have z := CardD.nts_ok d n ws h.2.2 e
      exact ⟨z.1, z.2.1, by omega⟩
    · have z := CardD.nts_ok c n ws h.1 e
      exact ⟨z.1, z.2.1, by omega⟩
  | .later c m, n, ws, h, e => by
    unfold CardD.ok at h
    unfold CardD.nts at e
    unfold CardD.wt
    split at e
    · have z := CardD.nts_ok c _ ws h.1 e
      exact ⟨z.1, z.2.1, by omega⟩
    · cases e
  | .noted c z, n, ws, h, e => by
    unfold CardD.ok at h
    unfold CardD.nts at e
    unfold CardD.wt
    split at e
    · cases e
    · rename_i w hw
      cases e
      have y := CardD.nts_ok c n w h.1 hw
      have t := tog_ok (f := some w) (w := [z]) (m := 16 * c.wt) (k := 1) (fun u e => by cases e; exact y) ⟨fun x hx => by rw [List.mem_singleton.mp hx]; exact h.2.1, List.pairwise_singleton _ _, Nat.le_refl _⟩
      exact ⟨t.1, t.2.1, by omega⟩
  | .as_ z, n, ws, h, e => by
    unfold CardD.nts at e
    cases e
theorem ntsL_ok : ∀ (cs : List CardD) (f : Option (List Str)) (n : Nat) (ws : List Str) (m : Nat), okCs cs → (∀ u, f = some u → Nms u ∧ u.Nodup ∧ u.length ≤ 16 * m) → ntsL cs f n = some ws → Nms ws ∧ ws.Nodup ∧ ws.length ≤ 16 * (m + wtL cs)
  | [], f, n, ws, m, _, hf, e => by
    unfold ntsL at e
    have z := hf ws e
    exact ⟨z.1, z.2.1, by unfold wtL; omega⟩
  | c :: cs, f, n, ws, m, h, hf, e => by
    unfold okCs at h
    unfold ntsL at e
    unfold wtL
    split at e
    · have z := ntsL_ok cs f n ws m h.2 hf e
      exact ⟨z.1, z.2.1, by omega⟩
    · rename_i w hw
      have y := CardD.nts_ok c n w h.1 hw
      have z := ntsL_ok cs _ n ws (m + c.wt) h.2 (fun u e => by cases e; have t := tog_ok hf y; exact ⟨t.1, t.2.1, by omega⟩) e
      exact ⟨z.1, z.2.1, by omega⟩
end
end
section
def sp_Card_inner (K : PySem.W.Frag) : Sp := fun vs H Q _ => ∃ (a C dx hd : Addr) (fs : List (Str × V)) (w : Nat) (xs : List V), vs = [.ref a] ∧ H a = some (.ins C dx (cdF hd w fs)) ∧ Cls K C ∧ NoAttr K C "held" ∧ H hd = some (.lst xs) ∧ ∀ p, H p = none → Q (.ref p) (upd H p (.lst xs))
theorem fb_Card_inner {P : Program} {w : World} {K : PySem.W.Frag} {mg : Str → Option Value} {base : Heap} (T : Env K mg) : ∃ fd, FunD K "inner" "Card.inner" (defArgs s_Card_inner) (defBody s_Card_inner) (defScope s_Card_inner) [] [] (He.ma K (He.ga K "Card") "inner") fd ∧ Fb P w K mg base 1 (He.ma K (He.ga K "Card") "inner") fd ["self"] (sp_Card_inner K) := by
  obtain ⟨fd, F⟩ := T.f_Card_inner
  refine ⟨fd, F, fb_of F sc_Card_inner (fun vs H Q E h => ?_) (fun cdv A outer s H vs Q E hr h => ?_)⟩
  · obtain ⟨a, C, dx, hd, fs, w, xs, rfl, _⟩ := h
    rfl
  · obtain ⟨a, C, dx, hd, fs, w, xs, rfl, ha, c, na, hh, q⟩ := h
    refine ⟨_, (pss_one (ps_ret (pe_callTy call_list_of (by rfl) T.n_list (by decide +kernel) (pa_cons (pe_fld (pv 0) (by rfl)) pa_nil)))), ?_⟩
    refine ⟨_, rfl, a, C, dx, _, _, rfl, ha, c, na, rfl, hd, xs, rfl, .inl (sq_lst hh), q⟩
theorem ok_Card_inner {P : Program} {w : World} {K : PySem.W.Frag} {mg : Str → Option Value} {base : Heap} (T : Env K mg) : Fc P w K mg base 1 (He.ma K (He.ga K "Card") "inner") [] (sp_Card_inner K ) := by
  obtain ⟨fd, D, F⟩ := fb_Card_inner T
  exact F.all (D.bindsN fun _ _ _ _ _ _ us hl => match us, hl with | [_], _ => rfl)
end
section
def sp_notes_together (K : PySem.W.Frag) : Sp := fun vs H Q _ => ∃ (x : V) (f : Option (List Str)) (p : Addr) (us : List Str), vs = [x, .ref p] ∧ NtAt H x f ∧ (∀ u, f = some u → u.length ≤ 1000) ∧ H p = some (.tup (us.map V.str)) ∧ us.length ≤ 1000 ∧ ∀ y H', Ex H H' → NtAt H' y (some (togN f us)) → Q y H'
theorem fb_notes_together {P : Program} {w : World} {K : PySem.W.Frag} {mg : Str → Option Value} {base : Heap} (T : Env K mg) : ∃ fd, FunD K "notes_together" "notes_together" (defArgs s_notes_together) (defBody s_notes_together) (defScope s_notes_together) [] [] (He.ga K "notes_together") fd ∧ Fb P w K mg base 1 (He.ga K "notes_together") fd ["one", "other"] (sp_notes_together K) := by
  obtain ⟨fd, F⟩ := T.f_notes_together
  refine ⟨fd, F, fb_of F sc_notes_together (fun vs H Q E h => ?_) (fun cdv A outer s H vs Q E hr h => ?_)⟩
  · obtain ⟨x, f, p, us, rfl, _⟩ := h
    rfl
  · obtain ⟨x, f, p, us, rfl, hx, hf, hp, lu, q⟩ := h
    refine ⟨_, (pss_cons (ps_if (pt_cmpR op_isN (pv 0) pe_non (nomark _))
      (pss_one (ps_ret (pv 1)))
      pss_nil)
      (pss_one (ps_ret (pe_callTy call_tuple_of (by rfl) T.n_tuple (by decide +kernel) (pa_cons (pe_callB (cr_sortedST rfl) (by rfl) T.n_sorted (by decide +kernel) (pa_cons (pe_callTy (cr_setT K rfl) (by rfl) T.n_set (by decide +kernel) (pa_cons (pe_op op_catA (pv 0) (pv 1)) pa_nil)) pa_nil)) pa_nil))))), ?_⟩
    cases f with
    | none =>
      obtain rfl : x = .non := hx
      exact ⟨_, rfl, rfl, _, rfl, iteT ⟨_, rfl, q _ H (.refl _) ⟨p, rfl, hp⟩⟩⟩
    | some u =>
      obtain ⟨r, rfl, hr2⟩ := hx
      have lf := hf u rfl
      refine ⟨_, rfl, rfl, _, rfl, iteF ?_⟩
      refine ⟨_, rfl, _, rfl, catA_of (sq_tup hr2) (sq_tup hp) (by rw [List.length_map, List.length_map, sizeLine_eq]; omega) fun t H1 X1 ht => ?_⟩
      rw [← List.map_append] at ht
      refine ⟨t, u ++ us, rfl, .inr ht, by rw [List.length_append]; omega, fun s ns => ?_⟩
      have Xs := ex_new (o := SetTO P w s (dst [] (u ++ us))) ns
      refine ⟨s, dst [] (u ++ us), rfl, upd_same, dst_nodup _ _ List.nodup_nil, fun l nl => ?_⟩
      have Xl := ex_new (o := HO.lst ((srtS (dst [] (u ++ us))).map V.str)) nl
      refine ⟨l, _, rfl, .inl ⟨sq_lst upd_same, fun t2 nt => ?_⟩⟩
      exact q _ _ (((X1.trans Xs).trans Xl).trans (ex_new nt)) ⟨t2, rfl, upd_same⟩
theorem ok_notes_together {P : Program} {w : World} {K : PySem.W.Frag} {mg : Str → Option Value} {base : Heap} (T : Env K mg) : Fc P w K mg base 1 (He.ga K "notes_together") [] (sp_notes_together K ) := by
  obtain ⟨fd, D, F⟩ := fb_notes_together T
  exact F.all (D.bindsN fun _ _ _ _ _ _ us hl => match us, hl with | [_, _], _ => rfl)
end
section
def sp_At_nested (K : PySem.W.Frag) : Sp := fun vs H Q _ => ∃ a n, vs = [.ref a] ∧ AtAt K H a n ∧ Q (.int 0) H
theorem fb_At_nested {P : Program} {w : World} {K : PySem.W.Frag} {mg : Str → Option Value} {base : Heap} (T : Env K mg) : ∃ fd, FunD K "nested" "At.nested" (defArgs s_At_nested) (defBody s_At_nested) (defScope s_At_nested) [] [] (He.ma K (He.ga K "At") "nested") fd ∧ Fb P w K mg base 1 (He.ma K (He.ga K "At") "nested") fd ["self"] (sp_At_nested K) := by
  obtain ⟨fd, F⟩ := T.f_At_nested
  refine ⟨fd, F, fb_of F sc_At_nested (fun vs H Q E h => ?_) (fun cdv A outer s H vs Q E hr h => ?_)⟩
  · obtain ⟨a, n, rfl, _⟩ := h
    rfl
  · obtain ⟨a, n, rfl, ⟨dx, ha⟩, q⟩ := h
    refine ⟨_, (pss_one (ps_ret pe_int)), ?_⟩
    exact q
theorem ok_At_nested {P : Program} {w : World} {K : PySem.W.Frag} {mg : Str → Option Value} {base : Heap} (T : Env K mg) : Fc P w K mg base 1 (He.ma K (He.ga K "At") "nested") [] (sp_At_nested K ) := by
  obtain ⟨fd, D, F⟩ := fb_At_nested T
  exact F.all (D.bindsN fun _ _ _ _ _ _ us hl => match us, hl with | [_], _ => rfl)
end
section
theorem fb_Over_nested {P : Program} {w : World} {K : PySem.W.Frag} {mg : Str → Option Value} {base : Heap} (T : Env K mg) {d L : Nat} (hL : 40 ≤ L) (r_Over_nested : Fc P w K mg base L (He.ma K (He.ga K "Over") "nested") [] (sp_Over_nested K d)) : ∃ fd, FunD K "nested" "Over.nested" (defArgs s_Over_nested) (defBody s_Over_nested) (defScope s_Over_nested) [] [] (He.ma K (He.ga K "Over") "nested") fd ∧ Fb P w K mg base (L + 1) (He.ma K (He.ga K "Over") "nested") fd ["self"] (sp_Over_nested K (d + 1)) := by
  obtain ⟨fd, F⟩ := T.f_Over_nested
  refine ⟨fd, F, fb_of F sc_Over_nested (fun vs H Q E h => ?_) (fun cdv A outer s H vs Q E hr h => ?_)⟩
  · obtain ⟨a, ps, m, s, rfl, _⟩ := h
    rfl
  · obtain ⟨a, ps, m, s_, rfl, hO, hn, h0, hok, hl, q⟩ := h
    refine ⟨_, (pss_one (ps_ret (pe_op op_add pe_int (pe_callB (cr_max rfl) (by rfl) T.n_max (by decide +kernel) (pa_cons (pe_lc (own := [("one", 1)]) (by rfl) sc_Over_nested.nd (pi_tup (pe_fld (pv 0) (by rfl))) (blkOk_by (own := [("one", 1)]) (N := ["self", "one"]) (sc := defScope s_Over_nested) (by decide +kernel)) (fun _ _ _ _ _ => (pg_name (i := 1) sc_Over_nested.nd rfl (Or.inl rfl))) (fun _ _ _ _ _ => pts_nil) (fun _ _ _ _ _ => (pe_orE (c_meth0 (pv 1) T.c_At T.m_At_nested (ok_At_nested T) (hr.mono (by omega)) takes0) (c_meth0 (pv 1) T.c_Over T.m_Over_nested r_Over_nested (hr.mono (by omega)) takes0)))) pa_nil))))), ?_⟩
    have hnL := ov_nest hn
    obtain ⟨dx, kp, as, ha, hk, hA⟩ := (by unfold ShAt at hO; exact hO : ∃ dx kp as, H a = some (.ins (OverC K) dx (overF kp m s_)) ∧ H kp = some (.tup (as.map V.ref)) ∧ ShsAt K H ps as)
    have hl1 := hA.len
    have hl2 := len_moms hok
    refine ⟨_, rfl, a, _, dx, _, _, rfl, ha, T.c_Over, T.a_Over_kept, rfl, kp, rfl, ⟨_, sq_tup hk⟩, fun A nA => lc_fm L2.walk_tup (fun i => (ps[i]?).map fun t => .int ((t.nest : Nat) : Int)) (fun H' => Ex H H') (fun H' z e => ex_mut e nA) (.refl _) (by rw [List.length_map]; omega) (fun H' e => sq_tup (e _ _ hk)) (fun i x H2 H3 acc N hi e hD la y k => ?_) fun H3 X3 d3 => ?_⟩
    · obtain ⟨rfl, y⟩ := y
      rw [List.getElem?_map] at y
      obtain ⟨b, hb, rfl⟩ := Option.map_eq_some_iff.mp y
      obtain ⟨t, ht, hS⟩ := hA.get hb
      have htm := List.mem_of_getElem? ht
      have hS2 := hS.mono e
      have k2 := fun H4 (X4 : Ex H3 H4) => k H4 (e.trans X4) (X4 _ _ hD)
      rw [ht] at k2
      have ok := okL_mem hok htm
      cases t with
      | «at» n =>
        unfold ShAt at hS2
        obtain ⟨dy, h2⟩ := id hS2
        exact ⟨rfl, .inl ⟨_, rfl, b, dy, _, rfl, h2, rfl, b, n, rfl, hS2, acc, hD, la, k2 H3 (.refl _)⟩⟩
      | ov ps' m' s' =>
        obtain ⟨dy, kp', as', h2, _⟩ := (by unfold ShAt at hS2; exact hS2 : ∃ dx kp as, H3 b = some (.ins (OverC K) dx (overF kp m' s')) ∧ H3 kp = some (.tup (as.map V.ref)) ∧ ShsAt K H3 ps' as)
        obtain ⟨o1, _, _, _, o5', _, o7⟩ := ov_facts ok
        have o5 : ps'.length ≤ 20000 := by omega
        exact ⟨rfl, .inr ⟨_, rfl, b, dy, _, rfl, h2, rfl, b, ps', m', s', rfl, hS2, Nat.le_trans (nestL_mem htm) hnL, o1, o7, o5, fun H4 X4 => ⟨acc, X4 _ _ hD, la, k2 H4 X4⟩⟩⟩
    · rw [List.length_map, hl1, range_opt ps (fun t => V.int ((t.nest : Nat) : Int))] at d3
      have e1 : ps.map (fun t => V.int ((t.nest : Nat) : Int)) = (ps.map fun t => ((t.nest : Nat) : Int)).map V.int := by
        rw [List.map_map]
        rfl
      rw [e1] at d3
      refine ⟨A, _, rfl, sq_lst d3, by rw [List.length_map]; exact List.length_pos_iff.mpr h0, fun mx hm hall => ⟨_, _, rfl, rfl, ?_⟩⟩
      have em : mx = ((nestL ps : Nat) : Int) := by
        obtain ⟨t, ht, e⟩ := List.mem_map.mp hm
        have h1 := nestL_mem ht
        obtain ⟨t2, ht2, e2⟩ := nestL_max h0
        have h2 := hall _ (List.mem_map.mpr ⟨t2, ht2, rfl⟩)
        omega
      have e : (1 : Int) + mx = (((Tr.ov ps m s_).nest : Nat) : Int) := by
        unfold Tr.nest
        omega
      show Q (.int (1 + mx)) H3
      rw [e]
      exact q H3 X3
theorem ok_Over_nested {P : Program} {w : World} {K : PySem.W.Frag} {mg : Str → Option Value} {base : Heap} (T : Env K mg) {d L : Nat} (hL : 40 ≤ L) (r_Over_nested : Fc P w K mg base L (He.ma K (He.ga K "Over") "nested") [] (sp_Over_nested K d)) : Fc P w K mg base (L + 1) (He.ma K (He.ga K "Over") "nested") [] (sp_Over_nested K (d + 1)) := by
  obtain ⟨fd, D, F⟩ := fb_Over_nested T hL r_Over_nested
  exact F.all (D.bindsN fun _ _ _ _ _ _ us hl => match us, hl with | [_], _ => rfl)
theorem all_Over_nested {P : Program} {w : World} {K : PySem.W.Frag} {mg : Str → Option Value} {base : Heap} (T : Env K mg) : ∀ d, Fc P w K mg base (40 + 1 * d) (He.ma K (He.ga K "Over") "nested") [] (sp_Over_nested K d)
  | 0 => fc_no fun vs H Q E h => by
    obtain ⟨a, ps, m, s, _, _, h, _⟩ := h
    unfold Tr.nest at h
    omega
  | d + 1 => ok_Over_nested T (Nat.le_add_right 40 _) (all_Over_nested T d)
end
section
theorem isN_nat_of {n : Int} {x : V} (h0 : 0 ≤ n) (h : isN n x = true) : ∃ m : Nat, x = .int (m : Nat) ∧ n ≤ (m : Int) := by
  unfold isN at h
  obtain ⟨_, h2⟩ := Bool.and_eq_true_iff.mp h
  cases x with
  | int i =>
    have h3 : n ≤ i := of_decide_eq_true h2
    obtain ⟨m, rfl⟩ := Int.eq_ofNat_of_zero_le (Int.le_trans h0 h3)
    exact ⟨m, rfl, h3⟩
  | _ => cases h2
/-- whether an Over may be made -/
def ovB (ts : List Tr) (xm xs : V) : Bool := risB ts && (decide (ts ≠ []) && (isN 2 xm && (isN 1 xs && (match xm, xs with
  | .int m, .int s => decide (((momsL ts).getLastD 0 : Int) < s + ((momsL ts).headD 0 : Int)) && (decide (m * ((momsL ts).length : Int) ≤ 1440) && decide (nestL ts ≤ 7))
  | _, _ => false))))
def sp_Over_init (K : PySem.W.Frag) : Sp := fun vs H Q E => ∃ (a dx p : Addr) (as : List Addr) (ts : List Tr) (xm xs : V) (H0 : Hp), vs = [.ref a, .ref p, xm, xs] ∧ H a = some (.ins (OverC K) dx []) ∧ H0 a = none ∧ Ex H0 H ∧ SqA H0 p (as.map V.ref) ∧ ShsAt K H0 ts as ∧ nestL ts ≤ 8 ∧ okL_ ts ∧ ts.length ≤ 20000 ∧ ts.length ≤ 20000 ∧ Cl K H0 xm ∧ Cl K H0 xs ∧ (∀ m s : Nat, ovB ts xm xs = true → xm = .int (m : Nat) → xs = .int (s : Nat) → ∀ H', Oth a H H' → ShAt K H' (.ov ts m s) a → Q .non H') ∧ (ovB ts xm xs = false → ∀ H', Oth a H H' → E (.ref (He.ga K "NoPiece")) none H')
theorem fb_Over_init {P : Program} {w : World} {K : PySem.W.Frag} {mg : Str → Option Value} {base : Heap} (T : Env K mg) : ∃ fd, FunD K "__init__" "Over.__init__" (defArgs s_Over_init) (defBody s_Over_init) (defScope s_Over_init) [.int (2), .int (60)] [] (He.ma K (He.ga K "Over") "__init__") fd ∧ Fb P w K mg base 64 (He.ma K (He.ga K "Over") "__init__") fd ["self", "parts", "many", "step"] (sp_Over_init K) := by
  obtain ⟨fd, F⟩ := T.f_Over_init
  refine ⟨fd, F, fb_of F sc_Over_init (fun vs H Q E h => ?_) (fun cdv A outer s H vs Q E hr h => ?_)⟩
  · obtain ⟨a, dx, p, as, ts, xm, xs, H0, rfl, _⟩ := h
    rfl
  · obtain ⟨a, dx, p, as, ts, xm, xs, H0, rfl, ha, na0, X0, hp, hA, hn, hok, hlm, hlt, cm, cs, q, qe⟩ := h
    refine ⟨_, (pss_cons (ps_fld (pv 0) (c_call (ok_shorts_in T) (hr.mono (by decide)) T.g_shorts_in T.k_shorts_in (takes_of rfl rfl rfl rfl) (pa_cons (pv 1) pa_nil)) rfl)
      (pss_cons (ps_if (PW.pt (pw_or (pt_cmpR op_eq (pe_callB call_len (by rfl) T.n_len (by decide +kernel) (pa_cons (pe_fld (pv 0) (by rfl)) pa_nil)) pe_int (nomark _)) (pw_or (pt_not (pt_val (c_call (ok_is_number T) (hr.mono (by decide)) T.g_is_number T.k_is_number (takes_of rfl rfl rfl rfl) (pa_cons (pv 2) (pa_cons pe_int pa_nil))))) (pw_or1 (pt_not (pt_val (c_call (ok_is_number T) (hr.mono (by decide)) T.g_is_number T.k_is_number (takes_of rfl rfl rfl rfl) (pa_cons (pv 3) (pa_cons pe_int pa_nil)))))))))
      (pss_one (ps_raise rfl (takes_of rfl rfl rfl rfl) (pmk_own PySem.F.excBase_ValueError T.x_NoPiece.x T.g_NoPiece T.x_NoPiece.kp (raises_own T.x_NoPiece.sub T.x_NoPiece.ty) rfl)))
      pss_nil)
      (pss_cons (ps_if (pt_cmpR op_le (pv 3) (pe_op op_sub (pe_orE (c_meth0 (pe_ix ix_tup (pe_fld (pv 0) (by rfl)) (pe_un un_neg pe_int) (fun _ _ => rfl)) T.c_At T.m_At_ends (ok_At_ends T) (hr.mono (by decide)) (takes_of rfl rfl rfl rfl)) (c_meth0 (pe_ix ix_tup (pe_fld (pv 0) (by rfl)) (pe_un un_neg pe_int) (fun _ _ => rfl)) T.c_Over T.m_Over_ends (all_Over_ends T 9) (hr.mono (by decide)) (takes_of rfl rfl rfl rfl))) (pe_orE (c_meth0 (pe_ix ix_tup (pe_fld (pv 0) (by rfl)) pe_int (fun _ _ => rfl)) T.c_At T.m_At_begins (ok_At_begins T) (hr.mono (by decide)) (takes_of rfl rfl rfl rfl)) (c_meth0 (pe_ix ix_tup (pe_fld (pv 0) (by rfl)) pe_int (fun _ _ => rfl)) T.c_Over T.m_Over_begins (all_Over_begins T 9) (hr.mono (by decide)) (takes_of rfl rfl rfl rfl)))) (nomark _))
      (pss_one (ps_raise rfl (takes_of rfl rfl rfl rfl) (pmk_own PySem.F.excBase_ValueError T.x_NoPiece.x T.g_NoPiece T.x_NoPiece.kp (raises_own T.x_NoPiece.sub T.x_NoPiece.ty) rfl)))
      pss_nil)
      (pss_cons (ps_fld (pv 0) (pv 2) rfl)
      (pss_cons (ps_fld (pv 0) (pv 3) rfl)
      (pss_one (ps_if (PW.pt (pw_or (pt_cmpR op_gt (c_meth0 (pv 0) T.c_Over T.m_Over_means_many (all_Over_means_many T 9) (hr.mono (by decide)) (takes_of rfl rfl rfl rfl)) (pe_k T.v_MOST_MOMENTS) (nomark _)) (pw_or1 (pt_cmpR op_gt (c_meth0 (pv 0) T.c_Over T.m_Over_nested (all_Over_nested T 9) (hr.mono (by decide)) (takes_of rfl rfl rfl rfl)) (pe_k T.v_MOST_NESTED) (nomark _)))))
      (pss_one (ps_raise rfl (takes_of rfl rfl rfl rfl) (pmk_own PySem.F.excBase_ValueError T.x_NoPiece.x T.g_NoPiece T.x_NoPiece.kp (raises_own T.x_NoPiece.sub T.x_NoPiece.ty) rfl)))
      pss_nil))))))), ?_⟩
    have hl1 := hA.len
    have hpH : SqA H p (as.map V.ref) := hp.imp (fun h => X0 _ _ h) (fun h => X0 _ _ h)
    refine ⟨_, rfl, p, as, ts, rfl, hpH, hA.mono X0, by omega, hok, hlt, fun hr2 t H1 X1 ht => ?_, fun hr2 H1 X1 => qe (by unfold ovB; rw [hr2]; rfl) H1 (ex_oth X1)⟩
    refine ⟨_, rfl, a, _, dx, [], rfl, X1 _ _ ha, T.c_Over, T.a_Over_kept, by decide, ?_⟩
    have ta : t ≠ a := fun z => by rw [z, X1 _ _ ha] at ht; cases ht
    have O1 : Oth a H (upd H1 a (.ins (OverC K) dx (putF "kept" (.ref t) []))) := (ex_oth X1).upd
    have h2 : upd H1 a (.ins (OverC K) dx (putF "kept" (.ref t) [])) a = some (.ins (OverC K) dx [("kept", .ref t)]) := upd_same
    have ht2 : upd H1 a (.ins (OverC K) dx (putF "kept" (.ref t) [])) t = some (.tup (as.map V.ref)) := by rw [upd_ne ta]; exact ht
    generalize upd H1 a (.ins (OverC K) dx (putF "kept" (.ref t) [])) = H2 at O1 h2 ht2 ⊢
    have X02 : Ex H0 H2 := Oth.ex X0 na0 O1
    have hA2 : ShsAt K H2 ts as := hA.mono X02
    refine ⟨_, rfl, a, _, dx, _, _, rfl, h2, T.c_Over, T.a_Over_kept, rfl, _, as.length, rfl, .inr ⟨_, sq_tup ht2, (List.length_map _).symm⟩, rfl, _, rfl, ?_⟩
    by_cases h0 : ts = []
    · rw [decide_eq_true (show V.int ((as.length : Nat) : Int) = V.int 0 by rw [hl1, h0]; rfl)]
      refine iteT ?_
      refine qe ?_ H2 O1
      unfold ovB
      rw [hr2, decide_eq_false (fun z => z h0)]
      rfl
    have pos : 0 < ts.length := List.length_pos_iff.mpr h0
    rw [decide_eq_false (show ¬ V.int ((as.length : Nat) : Int) = V.int 0 from fun z => by injection z with z; omega)]
    refine iteF ?_
    refine ⟨_, rfl, xm, 2, rfl, cm.mono X02, _, rfl, ?_⟩
    cases hm2 : isN 2 xm with
    | false =>
      refine iteT ?_
      refine qe ?_ H2 O1
      unfold ovB
      rw [hr2, decide_eq_true h0, hm2]
      rfl
    | true =>
    refine iteF ?_
    refine ⟨_, rfl, xs, 1, rfl, cs.mono X02, _, rfl, ?_⟩
    cases hs2 : isN 1 xs with
    | false =>
      refine iteT ?_
      refine qe ?_ H2 O1
      unfold ovB
      rw [hr2, decide_eq_true h0, hm2, hs2]
      rfl
    | true =>
    refine iteF ?_
    obtain ⟨m, rfl, hm⟩ := isN_nat_of (by decide) hm2
    obtain ⟨s_, rfl, hs1⟩ := isN_nat_of (by decide) hs2
    have eB : ovB ts (.int (m : Nat)) (.int (s_ : Nat)) = (decide (((momsL ts).getLastD 0 : Int) < ((s_ : Nat) : Int) + ((momsL ts).headD 0 : Int)) && (decide (((m : Nat) : Int) * ((momsL ts).length : Int) ≤ 1440) && decide (nestL ts ≤ 7))) := by
      unfold ovB
      rw [hr2, decide_eq_true h0, hm2, hs2]
      rfl
    have nn := momsL_ne hok h0
    obtain ⟨zf, rf, tf, rt, eas, ets, hSf⟩ : ∃ z r t u, as = z :: r ∧ ts = t :: u ∧ ShAt K H2 t z := by
      cases ts with
      | nil => exact absurd rfl h0
      | cons t u =>
        unfold ShsAt at hA2
        obtain ⟨z, r, e, h1, _⟩ := hA2
        exact ⟨z, r, t, u, e, rfl, h1⟩
    have as0 : as ≠ [] := fun z => by rw [z] at eas; cases eas
    obtain ⟨zl, gl, aL⟩ := last_ref as0
    obtain ⟨tl, htl, hSl⟩ := hA2.get gl
    have ep : ts = ts.dropLast ++ [tl] := by
      have e := (List.dropLast_concat_getLast h0).symm
      have e2 : ts.getLast h0 = tl := by
        rw [List.getLast_eq_getElem]
        rw [hl1] at htl
        obtain ⟨_, e⟩ := List.getElem?_eq_some_iff.mp htl
        exact e
      rw [e2] at e
      exact e
    have eL : (momsL ts).getLastD 0 = tl.moms.getLastD 0 := by
      have o7 := hok
      rw [ep] at o7 ⊢
      exact momsL_last o7
    have eF : (momsL ts).headD 0 = tf.moms.headD 0 := by
      have o7 := hok
      rw [ets] at o7 ⊢
      exact momsL_head o7
    have mf : tf ∈ ts := by rw [ets]; exact List.mem_cons_self
    have ml := List.mem_of_getElem? htl
    have aF : atI (as.map V.ref) 0 = some (.ref zf) := by rw [eas]; exact atI_nat (j := 0) rfl
    refine ⟨_, rfl, ?_⟩
    refine sh_ends hSl (okL_mem hok ml) (Nat.le_trans (nestL_mem ml) (by omega)) (fun R r => ⟨_, rfl, a, _, dx, _, _, rfl, h2, T.c_Over, T.a_Over_kept, rfl, _, rfl, t, _, _, _, rfl, rfl, sq_tup ht2, aL, r⟩) ?_
    refine sh_begins hSf (okL_mem hok mf) (Nat.le_trans (nestL_mem mf) (by omega)) (fun R r => ⟨_, rfl, a, _, dx, _, _, rfl, h2, T.c_Over, T.a_Over_kept, rfl, t, _, _, _, rfl, rfl, sq_tup ht2, aF, r⟩) ?_
    refine ⟨_, _, rfl, rfl, _, _, rfl, rfl, _, rfl, ?_⟩
    rw [← eL, ← eF]
    by_cases c1 : ((momsL ts).getLastD 0 : Int) < ((s_ : Nat) : Int) + ((momsL ts).headD 0 : Int)
    · rw [decide_eq_false (show ¬ ((s_ : Nat) : Int) ≤ (((momsL ts).getLastD 0 : Nat) : Int) - (((momsL ts).headD 0 : Nat) : Int) by omega)]
      refine iteF ?_
      refine ⟨_, rfl, _, rfl, a, _, dx, _, rfl, h2, T.c_Over, T.a_Over_many, Nat.le_of_ble_eq_true rfl, ?_⟩
      refine ⟨_, rfl, _, rfl, a, _, dx, _, rfl, upd_same, T.c_Over, T.a_Over_step, Nat.le_of_ble_eq_true rfl, ?_⟩
      rw [upd_upd]
      rw [show putF "step" (V.int (s_ : Nat)) (putF "many" (V.int (m : Nat)) [("kept", V.ref t)]) = overF t m s_ from rfl]
      have O3 : Oth a H (upd H2 a (.ins (OverC K) dx (overF t m s_))) := O1.upd
      have X03 : Ex H0 (upd H2 a (.ins (OverC K) dx (overF t m s_))) := Oth.ex X0 na0 O3
      have h3 : upd H2 a (.ins (OverC K) dx (overF t m s_)) a = some (.ins (OverC K) dx (overF t m s_)) := upd_same
      have hO : ShAt K (upd H2 a (.ins (OverC K) dx (overF t m s_))) (.ov ts m s_) a := by
        unfold ShAt
        exact ⟨dx, t, as, h3, by rw [upd_ne ta]; exact ht2, hA.mono X03⟩
      generalize upd H2 a (.ins (OverC K) dx (overF t m s_)) = H3 at O3 X03 hO h3 ⊢
      have hn9 : (Tr.ov ts m s_).nest ≤ 9 := by
        unfold Tr.nest
        omega
      refine ⟨_, rfl, a, dx, _, rfl, h3, rfl, a, ts, m, s_, rfl, hO, hn9, hok, hlm, fun H4 X4 => ⟨_, _, rfl, rfl, _, rfl, ?_⟩⟩
      have em : ((m * (momsL ts).length : Nat) : Int) = ((m : Nat) : Int) * ((momsL ts).length : Int) := by simp
      by_cases c2 : ((m : Nat) : Int) * ((momsL ts).length : Int) ≤ 1440
      · rw [decide_eq_false (show ¬ (1440 : Int) < ((m * (momsL ts).length : Nat) : Int) by omega)]
        refine iteF ?_
        refine ⟨_, rfl, a, dx, _, rfl, X4 _ _ h3, rfl, a, ts, m, s_, rfl, hO.mono X4, hn9, h0, hok, hlm, fun H5 X5 => ⟨_, _, rfl, rfl, _, rfl, ?_⟩⟩
        have O5 := O3.trans (ex_oth (X4.trans X5))
        by_cases c3 : nestL ts ≤ 7
        · rw [decide_eq_false (show ¬ (8 : Int) < (((Tr.ov ts m s_).nest : Nat) : Int) by unfold Tr.nest; omega)]
          refine iteF ?_
          exact q m s_ (by rw [eB, decide_eq_true c1, decide_eq_true c2, decide_eq_true c3]; rfl) rfl rfl H5 O5 (hO.mono (X4.trans X5))
        · rw [decide_eq_true (show (8 : Int) < (((Tr.ov ts m s_).nest : Nat) : Int) by unfold Tr.nest; omega)]
          refine iteT ?_
          exact qe (by rw [eB, decide_eq_false c3, Bool.and_false, Bool.and_false]) H5 O5
      · rw [decide_eq_true (show (1440 : Int) < ((m * (momsL ts).length : Nat) : Int) by omega)]
        exact iteT (qe (by rw [eB, decide_eq_false c2, Bool.false_and, Bool.and_false]) H4 (O3.trans (ex_oth X4)))
    · rw [decide_eq_true (show ((s_ : Nat) : Int) ≤ (((momsL ts).getLastD 0 : Nat) : Int) - (((momsL ts).headD 0 : Nat) : Int) by omega)]
      refine iteT ?_
      exact qe (by rw [eB, decide_eq_false c1]; rfl) H2 O1
theorem ovB_of {ts : List Tr} {m s : Nat} (h : (Tr.ov ts m s).ok) (hn : (Tr.ov ts m s).nest ≤ 8) : ovB ts (.int (m : Nat)) (.int (s : Nat)) = true := by
  unfold Tr.ok at h
  obtain ⟨h1, h2, h3, h4, h5, h6, h7⟩ := h
  unfold Tr.nest at hn
  have e4 : ((m : Nat) : Int) * ((momsL ts).length : Int) ≤ 1440 := by
    have : ((m * (momsL ts).length : Nat) : Int) ≤ 1440 := by omega
    rw [Int.natCast_mul] at this
    exact this
  unfold ovB
  rw [ris_of h7 h6, decide_eq_true h1, show isN 2 (.int (m : Nat)) = true from isN_nat (m := 2) h2, show isN 1 (.int (s : Nat)) = true from isN_nat (m := 1) h3]
  show (decide _ && (decide _ && decide _)) = true
  rw [decide_eq_true (by omega), decide_eq_true e4, decide_eq_true (by omega)]
  rfl
theorem over_newT {K : PySem.W.Frag} {H : Hp} {x dx p : Addr} {as : List Addr} {ts : List Tr} {m s : Nat} {Q : VK} {E : XK} (nx : H x = none) (nd : H dx = none) (ne : dx ≠ x) (hp : SqA H p (as.map V.ref)) (hA : ShsAt K H ts as) (hok : (Tr.ov ts m s).ok) (hn : (Tr.ov ts m s).nest ≤ 8) (q : ∀ H', Ex H H' → ShAt K H' (.ov ts m s) x → Q .non H') :
    sp_Over_init K [.ref x, .ref p, .int (m : Nat), .int (s : Nat)] (upd (upd H dx (.own x)) x (.ins (OverC K) dx [])) Q E := by
  have X1 := ex_made (o1 := .own x) (o2 := .ins (OverC K) dx []) nx nd ne
  have hb := ovB_of hok hn
  obtain ⟨o1, m2, hm, hml, hl2, hpl, hokL⟩ := ov_facts hok
  unfold Tr.nest at hn
  refine ⟨x, dx, p, as, ts, _, _, H, rfl, upd_same, nx, X1, hp, hA, by omega, hokL, by omega, by omega, cl_int _, cl_int _, fun m' s' _ em es H' k d => ?_, fun z => by rw [hb] at z; cases z⟩
  have e1 : m = m' := by injection em with em; omega
  have e2 : s = s' := by injection es with es; omega
  subst e1 e2
  exact q H' (fun b o e => k b o (ne_of_none e nx) (X1 _ _ e)) d
theorem ok_Over_init {P : Program} {w : World} {K : PySem.W.Frag} {mg : Str → Option Value} {base : Heap} (T : Env K mg) : Fc P w K mg base 64 (He.ma K (He.ga K "Over") "__init__") [] (fun vs H Q E => vs.length = 4 + ([] : List Str).length ∧ sp_Over_init K  (pick [.inl 0, .inl 1, .inl 2, .inl 3] vs [.int (2), .int (60)]) H Q E) := by
  obtain ⟨fd, D, F⟩ := fb_Over_init T
  exact Fb.shape D F 4 [] (fun us its => pick [.inl 0, .inl 1, .inl 2, .inl 3] us its) (by decide) (fun r1 r2 => pick_vals _ r1 r2) (fun T kV doc pm an cdv ct us ws its h1 h2 h3 => match us, ws, its, h1, h2, h3 with | [_, _, _, _], [], [_, _], _, _, _ => ⟨_, rfl, rfl⟩)
end
section
def sp_Spread_moments (K : PySem.W.Frag) : Sp := fun vs H Q _ => ∃ a ts, vs = [.ref a] ∧ SprAt K H a ts ∧ ∀ p, H p = none → Q (.ref p) (upd H p (.lst (natV (momsL ts))))
theorem fb_Spread_moments {P : Program} {w : World} {K : PySem.W.Frag} {mg : Str → Option Value} {base : Heap} (T : Env K mg) : ∃ fd, FunD K "moments" "Spread.moments" (defArgs s_Spread_moments) (defBody s_Spread_moments) (defScope s_Spread_moments) [] [] (He.ma K (He.ga K "Spread") "moments") fd ∧ Fb P w K mg base 1 (He.ma K (He.ga K "Spread") "moments") fd ["self"] (sp_Spread_moments K) := by
  obtain ⟨fd, F⟩ := T.f_Spread_moments
  refine ⟨fd, F, fb_of F sc_Spread_moments (fun vs H Q E h => ?_) (fun cdv A outer s H vs Q E hr h => ?_)⟩
  · obtain ⟨a, ts, rfl, _⟩ := h
    rfl
  · obtain ⟨a, ts, rfl, hO, q⟩ := h
    refine ⟨_, (pss_one (ps_ret (pe_callTy call_list_of (by rfl) T.n_list (by decide +kernel) (pa_cons (pe_fld (pv 0) (by rfl)) pa_nil)))), ?_⟩
    obtain ⟨dx, kp, hd, as, ha, hk, hh, hA⟩ := id hO
    exact ⟨_, rfl, a, _, dx, _, _, rfl, ha, T.c_Spread, T.a_Spread_held, rfl, hd, _, rfl, .inl (sq_lst hh), q⟩
theorem ok_Spread_moments {P : Program} {w : World} {K : PySem.W.Frag} {mg : Str → Option Value} {base : Heap} (T : Env K mg) : Fc P w K mg base 1 (He.ma K (He.ga K "Spread") "moments") [] (sp_Spread_moments K ) := by
  obtain ⟨fd, D, F⟩ := fb_Spread_moments T
  exact F.all (D.bindsN fun _ _ _ _ _ _ us hl => match us, hl with | [_], _ => rfl)
end
section
def sp_want (K : PySem.W.Frag) : Sp := fun vs H Q E => ∃ (b : Bool) (z : Str), vs = [.bl b, .str z] ∧ (b = true → Q .non H) ∧ (b = false → E (.ref (He.ga K "NoCard")) none H)
theorem fb_want {P : Program} {w : World} {K : PySem.W.Frag} {mg : Str → Option Value} {base : Heap} (T : Env K mg) : ∃ fd, FunD K "want" "want" (defArgs s_want) (defBody s_want) (defScope s_want) [] [] (He.ga K "want") fd ∧ Fb P w K mg base 1 (He.ga K "want") fd ["truth", "words"] (sp_want K) := by
  obtain ⟨fd, F⟩ := T.f_want
  refine ⟨fd, F, fb_of F sc_want (fun vs H Q E h => ?_) (fun cdv A outer s H vs Q E hr h => ?_)⟩
  · obtain ⟨b, z, rfl, _⟩ := h
    rfl
  · obtain ⟨b, z, rfl, q, qe⟩ := h
    refine ⟨_, (pss_one (ps_if (pt_not (pt_val (pv 0)))
      (pss_one (ps_raise rfl (takes_of rfl rfl rfl rfl) (pmk_ret rfl (pe_exc1 PySem.F.excBase_ValueError T.x_NoCard.x T.g_NoCard T.x_NoCard.kp rfl (pv 1)))))
      pss_nil)), ?_⟩
    refine ⟨_, rfl, b, rfl, ?_⟩
    cases b with
    | true => exact iteF (q rfl)
    | false =>
      refine iteT ⟨_, rfl, fun a na => ⟨a, _, rfl, upd_same, fr0_none na, raises_own T.x_NoCard.sub T.x_NoCard.ty, ?_⟩⟩
      rw [delH_new na]
      exact qe rfl
theorem ok_want {P : Program} {w : World} {K : PySem.W.Frag} {mg : Str → Option Value} {base : Heap} (T : Env K mg) : Fc P w K mg base 1 (He.ga K "want") [] (sp_want K ) := by
  obtain ⟨fd, D, F⟩ := fb_want T
  exact F.all (D.bindsN fun _ _ _ _ _ _ us hl => match us, hl with | [_, _], _ => rfl)
end
section
/-- a thing of which is told whether it is a card -/
def CdIs (K : PySem.W.Frag) (H : Hp) (x : V) (b : Bool) : Prop := ∃ t, TyX K H x t ∧ PySem.W.kitOne K t (.ref (CardC K)) = some b
theorem CdIs.mono {K : PySem.W.Frag} {H H' : Hp} {x : V} {b : Bool} (h : CdIs K H x b) (e : Ex H H') : CdIs K H' x b := let ⟨t, ty, k⟩ := h; ⟨t, tyX_mono e ty, k⟩
theorem wtL_sum : ∀ cs : List CardD, (cs.map fun c => ((c.wt : Nat) : Int)).sum = ((wtL cs : Nat) : Int)
  | [] => rfl
  | c :: cs => by
    rw [List.map_cons, List.sum_cons, wtL_sum cs]
    show _ = ((c.wt + wtL cs : Nat) : Int)
    omega
/-- what Card's __init__ makes of the instance at a -/
def sp_Card_init (K : PySem.W.Frag) : Sp := fun vs H Q E => ∃ (a C dx p : Addr) (xs : List V) (H0 : Hp) (bf : Nat → Bool), vs = [.ref a, .ref p] ∧ H a = some (.ins C dx []) ∧ H0 a = none ∧ Ex H0 H ∧ Cls K C ∧ NoAttr K C "held" ∧ NoAttr K C "weight" ∧ SqA H p xs ∧ xs.length ≤ 1000 ∧ (∀ i v, xs[i]? = some v → CdIs K H0 v (bf i)) ∧
  ((List.range xs.length).all bf = false → ∀ H', Ex H H' → E (.ref (He.ga K "NoCard")) none H') ∧
  ((List.range xs.length).all bf = true → ∃ (as : List Addr) (cs : List CardD), xs = as.map V.ref ∧ CardsAt K H0 cs as ∧
    (wtL cs < 60 → ∀ hd H', Oth a H H' → H0 hd = none → H' hd = some (.lst xs) → H' a = some (.ins C dx (cdF hd (1 + wtL cs) [])) → Q .non H') ∧
    (60 ≤ wtL cs → ∀ H', Oth a H H' → E (.ref (He.ga K "NoCard")) none H'))
theorem fb_Card_init {P : Program} {w : World} {K : PySem.W.Frag} {mg : Str → Option Value} {base : Heap} (T : Env K mg) : ∃ fd, FunD K "__init__" "Card.__init__" (defArgs s_Card_init) (defBody s_Card_init) (defScope s_Card_init) [] [] (He.ma K (He.ga K "Card") "__init__") fd ∧ Fb P w K mg base 2 (He.ma K (He.ga K "Card") "__init__") fd ["self", "held"] (sp_Card_init K) := by
  obtain ⟨fd, F⟩ := T.f_Card_init
  refine ⟨fd, F, fb_of F sc_Card_init (fun vs H Q E h => ?_) (fun cdv A outer s H vs Q E hr h => ?_)⟩
  · obtain ⟨a, C, dx, p, xs, H0, bf, rfl, _⟩ := h
    rfl
  · obtain ⟨a, C, dx, p, xs, H0, bf, rfl, ha, na0, X0, hC, aH, aW, hp, lx, hv, qb, qg⟩ := h
    refine ⟨_, (pss_cons (ps_expr (c_call (ok_want T) (hr.mono (by decide)) T.g_want T.k_want (takes_of rfl rfl rfl rfl) (pa_cons (pe_callB (cr_all rfl) (by rfl) T.n_all (by decide +kernel) (pa_cons (pe_lc (own := [("one", 2)]) (by rfl) sc_Card_init.nd (pi_seqB (pv 1) K) (blkOk_by (own := [("one", 2)]) (N := ["self", "held", "one"]) (sc := defScope s_Card_init) (by decide +kernel)) (fun _ _ _ _ _ => (pg_name (i := 2) sc_Card_init.nd rfl (Or.inl rfl))) (fun _ _ _ _ _ => pts_nil) (fun _ _ _ _ _ => (pe_callB (call_isiK K) (by rfl) T.n_isinstance (by decide +kernel) (pa_cons (pv 2) (pa_cons (pe_glob (v := .ref _) (by rfl) T.g_Card rfl) pa_nil))))) pa_nil)) (pa_cons pe_str pa_nil))))
      (pss_cons (ps_fld (pv 0) (pe_callTy call_list_of (by rfl) T.n_list (by decide +kernel) (pa_cons (pv 1) pa_nil)) rfl)
      (pss_cons (ps_fld (pv 0) (pe_op op_add pe_int (pe_callB (cr_sum rfl) (by rfl) T.n_sum (by decide +kernel) (pa_cons (pe_lc (own := [("one", 2)]) (by rfl) sc_Card_init.nd (pi_seqB (pv 1) K) (blkOk_by (own := [("one", 2)]) (N := ["self", "held", "one"]) (sc := defScope s_Card_init) (by decide +kernel)) (fun _ _ _ _ _ => (pg_name (i := 2) sc_Card_init.nd rfl (Or.inl rfl))) (fun _ _ _ _ _ => pts_nil) (fun _ _ _ _ _ => (pe_fldK K (pv 2) (by rfl)))) pa_nil))) rfl)
      (pss_one (ps_expr (c_call (ok_want T) (hr.mono (by decide)) T.g_want T.k_want (takes_of rfl rfl rfl rfl) (pa_cons (pe_cmpR op_le (pe_fld (pv 0) (by rfl)) (pe_k T.v_MOST_CARDS) (nomark _)) (pa_cons pe_str pa_nil)))))))), ?_⟩
    have sq : ∀ {H' : Hp}, Ex H H' → SqS K H' p xs := fun {H'} e => hp.elim (fun h => .inl (sq_lst (e _ _ h))) (fun h => .inr (sq_tup (e _ _ h)))
    refine ⟨_, rfl, p, xs, rfl, sq (.refl _), fun J G wk hG A nA => lc_fm wk (fun i => some (V.bl (bf i))) (fun H' => Ex H H') (fun H' l e => ex_mut e nA) (.refl _) (by omega) (fun H' e => hG H' (stays_ex e)) (fun i x H1 H2 acc N hi e hD la y k => ?_) (fun H1 e hD => ?_)⟩
    · obtain ⟨rfl, y⟩ := y
      obtain ⟨t, ty, kt⟩ := (hv i x y).mono (X0.trans e)
      exact ⟨rfl, _, rfl, x, _, t, _, bf i, rfl, .own _, ty, kt, acc, hD, la, k _ e hD⟩
    have eD : (List.range xs.length).filterMap (fun i => some (V.bl (bf i))) = ((List.range xs.length).map bf).map V.bl := by
      rw [List.map_map, ← List.filterMap_eq_map']
      rfl
    rw [eD] at hD
    refine ⟨A, _, rfl, sq_lst hD, ?_⟩
    rw [show ((List.range xs.length).map bf).all id = (List.range xs.length).all bf by rw [List.all_map]; rfl]
    refine ⟨_, _, rfl, fun hb => ?_, fun hb => qb hb H1 e⟩
    obtain ⟨as, cs, exs, hA, q, qe⟩ := qg hb
    refine ⟨_, rfl, p, xs, rfl, sq e, fun hd nd => ?_⟩
    refine ⟨_, rfl, a, C, dx, [], rfl, (ex_new nd _ _ (e _ _ ha)), hC, aH, by decide, ?_⟩
    have fh0 : H0 hd = none := ex_fresh (X0.trans e) nd
    have ha1 := e _ _ ha
    have dh : hd ≠ a := (ne_of_none ha1 nd).symm
    have O1 : Oth a H (upd (upd H1 hd (.lst xs)) a (.ins C dx (putF "held" (.ref hd) []))) := (ex_oth (e.trans (ex_new nd))).upd
    have h2 : upd (upd H1 hd (.lst xs)) a (.ins C dx (putF "held" (.ref hd) [])) a = some (.ins C dx [("held", .ref hd)]) := upd_same
    have hh2 : upd (upd H1 hd (.lst xs)) a (.ins C dx (putF "held" (.ref hd) [])) hd = some (.lst xs) := by rw [upd_ne dh]; exact upd_same
    generalize upd (upd H1 hd (.lst xs)) a (.ins C dx (putF "held" (.ref hd) [])) = H2 at O1 h2 hh2 ⊢
    have X02 : Ex H0 H2 := Oth.ex X0 na0 O1
    have pa : p ≠ a := fun z => by
      rcases hp with h | h
      · rw [z, ha] at h
        cases h
      · rw [z, ha] at h
        cases h
    have sq2 : ∀ {H' : Hp}, Ex H2 H' → SqS K H' p xs := fun {H'} e => hp.elim (fun h => .inl (sq_lst (e _ _ (O1 _ _ pa h)))) (fun h => .inr (sq_tup (e _ _ (O1 _ _ pa h))))
    have hA2 := hA.mono X02
    have lc := hA.len
    have ll : xs.length = cs.length := by rw [exs, List.length_map, lc]
    refine ⟨_, rfl, p, xs, rfl, sq2 (.refl _), fun J G wk hG A2 nA2 => lc_fm wk (fun i => (cs[i]?).bind fun c => some (V.int ((c.wt : Nat) : Int))) (fun H' => Ex H2 H') (fun H' l e => ex_mut e nA2) (.refl _) (by omega) (fun H' e => hG H' (stays_ex e)) (fun i x H1 H2 acc N hi e hD la y k => ?_) (fun H3 e3 hD3 => ?_)⟩
    · obtain ⟨rfl, y⟩ := y
      rw [exs, List.getElem?_map] at y
      obtain ⟨b, eb, rfl⟩ := Option.map_eq_some_iff.mp y
      obtain ⟨c, ec, hc⟩ := hA2.get eb
      obtain ⟨dy, hy, ys, fs, g1, _, _, g4, _⟩ := card_gen T (hc.mono e)
      rw [ec] at k
      exact ⟨rfl, _, rfl, b, _, dy, _, _, rfl, g1, g4.cls, g4.weight, rfl, acc, hD, la, k _ e hD⟩
    rw [ll, range_fm, List.filterMap_eq_map'] at hD3
    have eM : cs.map (fun c => V.int ((c.wt : Nat) : Int)) = (cs.map fun c => ((c.wt : Nat) : Int)).map V.int := by
      rw [List.map_map]
      rfl
    rw [eM] at hD3
    refine ⟨A2, _, rfl, sq_lst hD3, ?_⟩
    rw [wtL_sum]
    refine ⟨_, _, rfl, rfl, ?_⟩
    have ha3 := e3 _ _ h2
    refine ⟨_, rfl, a, C, dx, _, rfl, ha3, hC, aW, by show 1 < 1000; decide, ?_⟩
    have O4 : Oth a H (upd H3 a (.ins C dx (putF "weight" ((fun i j : Int => V.int (i + j)) 1 ((wtL cs : Nat) : Int)) [("held", .ref hd)]))) := (O1.trans (ex_oth e3)).upd
    have h4 : upd H3 a (.ins C dx (putF "weight" ((fun i j : Int => V.int (i + j)) 1 ((wtL cs : Nat) : Int)) [("held", .ref hd)])) a = some (.ins C dx (cdF hd (1 + wtL cs) [])) := upd_same.trans (by
      show some (HO.ins C dx [("held", V.ref hd), ("weight", V.int (1 + ((wtL cs : Nat) : Int)))]) = _
      rw [show (1 : Int) + ((wtL cs : Nat) : Int) = ((1 + wtL cs : Nat) : Int) by omega]
      rfl)
    have hh4 : upd H3 a (.ins C dx (putF "weight" ((fun i j : Int => V.int (i + j)) 1 ((wtL cs : Nat) : Int)) [("held", .ref hd)])) hd = some (.lst xs) := by rw [upd_ne dh]; exact e3 _ _ hh2
    generalize upd H3 a (.ins C dx (putF "weight" ((fun i j : Int => V.int (i + j)) 1 ((wtL cs : Nat) : Int)) [("held", .ref hd)])) = H4 at O4 h4 hh4 ⊢
    refine ⟨_, rfl, a, C, dx, _, _, rfl, h4, hC, aW, rfl, _, _, rfl, rfl, _, _, rfl, fun hb => ?_, fun hb => ?_⟩
    · have h60 := of_decide_eq_true hb
      exact q (by omega) hd H4 O4 fh0 hh4 h4
    · have h60 := of_decide_eq_false hb
      exact qe (by omega) H4 O4
theorem ok_Card_init {P : Program} {w : World} {K : PySem.W.Frag} {mg : Str → Option Value} {base : Heap} (T : Env K mg) : Fc P w K mg base 2 (He.ma K (He.ga K "Card") "__init__") [] (sp_Card_init K ) := by
  obtain ⟨fd, D, F⟩ := fb_Card_init T
  exact F.all (D.bindsN fun _ _ _ _ _ _ us hl => match us, hl with | [_, _], _ => rfl)
end
section
def sp_Card_size (K : PySem.W.Frag) : Sp := fun vs H Q _ => ∃ (a C dx hd : Addr) (fs : List (Str × V)) (w : Nat), vs = [.ref a] ∧ H a = some (.ins C dx (cdF hd w fs)) ∧ Cls K C ∧ NoAttr K C "weight" ∧ Q (.int (w : Nat)) H
theorem fb_Card_size {P : Program} {w : World} {K : PySem.W.Frag} {mg : Str → Option Value} {base : Heap} (T : Env K mg) : ∃ fd, FunD K "size" "Card.size" (defArgs s_Card_size) (defBody s_Card_size) (defScope s_Card_size) [] [] (He.ma K (He.ga K "Card") "size") fd ∧ Fb P w K mg base 1 (He.ma K (He.ga K "Card") "size") fd ["self"] (sp_Card_size K) := by
  obtain ⟨fd, F⟩ := T.f_Card_size
  refine ⟨fd, F, fb_of F sc_Card_size (fun vs H Q E h => ?_) (fun cdv A outer s H vs Q E hr h => ?_)⟩
  · obtain ⟨a, C, dx, hd, fs, w, rfl, _⟩ := h
    rfl
  · obtain ⟨a, C, dx, hd, fs, w, rfl, ha, c, na, q⟩ := h
    refine ⟨_, (pss_one (ps_ret (pe_fld (pv 0) (by rfl)))), ?_⟩
    exact ⟨_, rfl, a, C, dx, _, _, rfl, ha, c, na, rfl, q⟩
theorem ok_Card_size {P : Program} {w : World} {K : PySem.W.Frag} {mg : Str → Option Value} {base : Heap} (T : Env K mg) : Fc P w K mg base 1 (He.ma K (He.ga K "Card") "size") [] (sp_Card_size K ) := by
  obtain ⟨fd, D, F⟩ := fb_Card_size T
  exact F.all (D.bindsN fun _ _ _ _ _ _ us hl => match us, hl with | [_], _ => rfl)
end
section
def sp_Card_notes_at (K : PySem.W.Frag) : Sp := fun vs H Q _ => ∃ (a : Addr) (x : V), vs = [.ref a, x] ∧ Q .non H
def sp_Once_notes_at (K : PySem.W.Frag) : Sp := fun vs H Q _ => ∃ (a : Addr) (ts : List Tr) (ws : List Str) (n : Nat), vs = [.ref a, .int (n : Nat)] ∧ CardAt K H (.once ts ws) a ∧ ∀ x H', Ex H H' → NtAt H' x ((CardD.once ts ws).nts n) → Q x H'
def sp_Every_notes_at (K : PySem.W.Frag) : Sp := fun vs H Q _ => ∃ (a : Addr) (D : DaysD) (ts : List Tr) (ws : List Str) (n : Nat), vs = [.ref a, .int (n : Nat)] ∧ CardAt K H (.every D ts ws) a ∧ D.ok ∧ ∀ x H', Ex H H' → NtAt H' x ((CardD.every D ts ws).nts n) → Q x H'
def sp_Join_notes_at (K : PySem.W.Frag) (d : Nat) : Sp := fun vs H Q _ => ∃ (a : Addr) (cs : List CardD) (n : Nat), vs = [.ref a, .int (n : Nat)] ∧ CardAt K H (.join cs) a ∧ (CardD.join cs).wt ≤ d ∧ (CardD.join cs).ok ∧ ∀ x H', Ex H H' → NtAt H' x ((CardD.join cs).nts n) → Q x H'
def sp_Less_notes_at (K : PySem.W.Frag) (d : Nat) : Sp := fun vs H Q _ => ∃ (a : Addr) (c d0 : CardD) (n : Nat), vs = [.ref a, .int (n : Nat)] ∧ CardAt K H (.less c d0) a ∧ (CardD.less c d0).wt ≤ d ∧ (CardD.less c d0).ok ∧ ∀ x H', Ex H H' → NtAt H' x ((CardD.less c d0).nts n) → Q x H'
def sp_Swap_notes_at (K : PySem.W.Frag) (d : Nat) : Sp := fun vs H Q _ => ∃ (a : Addr) (c : CardD) (D : DaysD) (d0 : CardD) (n : Nat), vs = [.ref a, .int (n : Nat)] ∧ CardAt K H (.swap c D d0) a ∧ (CardD.swap c D d0).wt ≤ d ∧ (CardD.swap c D d0).ok ∧ ∀ x H', Ex H H' → NtAt H' x ((CardD.swap c D d0).nts n) → Q x H'
def sp_Later_notes_at (K : PySem.W.Frag) (d : Nat) : Sp := fun vs H Q _ => ∃ (a : Addr) (c : CardD) (m : Nat) (n : Nat), vs = [.ref a, .int (n : Nat)] ∧ CardAt K H (.later c m) a ∧ (CardD.later c m).wt ≤ d ∧ (CardD.later c m).ok ∧ ∀ x H', Ex H H' → NtAt H' x ((CardD.later c m).nts n) → Q x H'
def sp_Noted_notes_at (K : PySem.W.Frag) (d : Nat) : Sp := fun vs H Q _ => ∃ (a : Addr) (c : CardD) (z : Str) (n : Nat), vs = [.ref a, .int (n : Nat)] ∧ CardAt K H (.noted c z) a ∧ (CardD.noted c z).wt ≤ d ∧ (CardD.noted c z).ok ∧ ∀ x H', Ex H H' → NtAt H' x ((CardD.noted c z).nts n) → Q x H'
structure NtF (P : Program) (w : World) (K : PySem.W.Frag) (mg : Str → Option Value) (base : Heap) (k d : Nat) : Prop where
  card : Fc P w K mg base k (He.ma K (CardC K) "notes_at") [] (sp_Card_notes_at K)
  once : Fc P w K mg base k (He.ma K (He.ga K "Once") "notes_at") [] (sp_Once_notes_at K)
  every : Fc P w K mg base k (He.ma K (He.ga K "Every") "notes_at") [] (sp_Every_notes_at K)
  join : Fc P w K mg base k (He.ma K (He.ga K "Join") "notes_at") [] (sp_Join_notes_at K d)
  less : Fc P w K mg base k (He.ma K (He.ga K "Less") "notes_at") [] (sp_Less_notes_at K d)
  swap : Fc P w K mg base k (He.ma K (He.ga K "Swap") "notes_at") [] (sp_Swap_notes_at K d)
  later : Fc P w K mg base k (He.ma K (He.ga K "Later") "notes_at") [] (sp_Later_notes_at K d)
  noted : Fc P w K mg base k (He.ma K (He.ga K "Noted") "notes_at") [] (sp_Noted_notes_at K d)
/-- c.notes_at(n), whatever c's class is -/
theorem v_notes {P : Program} {w : World} {K : PySem.W.Frag} {mg : Str → Option Value} {base : Heap} (T : Env K mg) {k d : Nat} (F : NtF P w K mg base k d) {H : Hp} {a : Addr} : ∀ {c : CardD}, CardAt K H c a → ∃ C dx fs f, H a = some (.ins C dx fs) ∧ Cls K C ∧ Meth K C "notes_at" f ∧ fs.lookup (Str.ofString "notes_at") = none ∧
    ∃ sp, Fc P w K mg base k f [] sp ∧ ∀ H2 (n : Nat) Q E, CardAt K H2 c a → c.wt ≤ d → c.ok → (∀ x H', Ex H2 H' → NtAt H' x (c.nts n) → Q x H') → sp [.ref a, .int (n : Nat)] H2 Q E
  | .once ts ws, h => by
    unfold CardAt at h
    obtain ⟨dx, hd, s, nt, ow, h1, _⟩ := h
    exact ⟨_, dx, _, _, h1, T.c_Once, T.m_Once_notes_at, rfl, _, F.once, fun H2 n Q E hA _ _ q => ⟨a, ts, ws, n, rfl, hA, q⟩⟩
  | .every D ts ws, h => by
    unfold CardAt at h
    obtain ⟨dx, hd, r, s, nt, ow, h1, _⟩ := h
    exact ⟨_, dx, _, _, h1, T.c_Every, T.m_Every_notes_at, rfl, _, F.every, fun H2 n Q E hA _ hk q => ⟨a, D, ts, ws, n, rfl, hA, by unfold CardD.ok at hk; exact hk.1, q⟩⟩
  | .join cs, h => by
    unfold CardAt at h
    obtain ⟨dx, hd, as, h1, _⟩ := h
    exact ⟨_, dx, _, _, h1, T.c_Join, T.m_Join_notes_at, rfl, _, F.join, fun H2 n Q E hA hw hk q => ⟨a, cs, n, rfl, hA, hw, hk, q⟩⟩
  | .less c d0, h => by
    unfold CardAt at h
    obtain ⟨dx, hd, b, x, h1, _⟩ := h
    exact ⟨_, dx, _, _, h1, T.c_Less, T.m_Less_notes_at, rfl, _, F.less, fun H2 n Q E hA hw hk q => ⟨a, c, d0, n, rfl, hA, hw, hk, q⟩⟩
  | .swap c D d0, h => by
    unfold CardAt at h
    obtain ⟨dx, hd, b, x, r, h1, _⟩ := h
    exact ⟨_, dx, _, _, h1, T.c_Swap, T.m_Swap_notes_at, rfl, _, F.swap, fun H2 n Q E hA hw hk q => ⟨a, c, D, d0, n, rfl, hA, hw, hk, q⟩⟩
  | .later c m, h => by
    unfold CardAt at h
    obtain ⟨dx, hd, b, h1, _⟩ := h
    exact ⟨_, dx, _, _, h1, T.c_Later, T.m_Later_notes_at, rfl, _, F.later, fun H2 n Q E hA hw hk q => ⟨a, c, m, n, rfl, hA, hw, hk, q⟩⟩
  | .noted c z, h => by
    unfold CardAt at h
    obtain ⟨dx, hd, b, h1, _⟩ := h
    exact ⟨_, dx, _, _, h1, T.c_Noted, T.m_Noted_notes_at, rfl, _, F.noted, fun H2 n Q E hA hw hk q => ⟨a, c, z, n, rfl, hA, hw, hk, q⟩⟩
  | .as_ z, h => by
    unfold CardAt at h
    obtain ⟨dx, hd, h1, _⟩ := h
    exact ⟨_, dx, _, _, h1, T.c_As, T.e_As_notes_at ▸ T.m_As_notes_at, rfl, _, F.card, fun H2 n Q E hA _ _ q => ⟨a, _, rfl, q _ _ (.refl _) (by unfold CardD.nts; rfl)⟩⟩
end
section
theorem fb_Card_notes_at {P : Program} {w : World} {K : PySem.W.Frag} {mg : Str → Option Value} {base : Heap} (T : Env K mg) : ∃ fd, FunD K "notes_at" "Card.notes_at" (defArgs s_Card_notes_at) (defBody s_Card_notes_at) (defScope s_Card_notes_at) [] [] (He.ma K (He.ga K "Card") "notes_at") fd ∧ Fb P w K mg base 1 (He.ma K (He.ga K "Card") "notes_at") fd ["self", "moment"] (sp_Card_notes_at K) := by
  obtain ⟨fd, F⟩ := T.f_Card_notes_at
  refine ⟨fd, F, fb_of F sc_Card_notes_at (fun vs H Q E h => ?_) (fun cdv A outer s H vs Q E hr h => ?_)⟩
  · obtain ⟨a, x, rfl, _⟩ := h
    rfl
  · obtain ⟨a, x, rfl, q⟩ := h
    refine ⟨_, (pss_one (ps_ret pe_non)), ?_⟩
    exact q
theorem ok_Card_notes_at {P : Program} {w : World} {K : PySem.W.Frag} {mg : Str → Option Value} {base : Heap} (T : Env K mg) : Fc P w K mg base 1 (He.ma K (He.ga K "Card") "notes_at") [] (sp_Card_notes_at K ) := by
  obtain ⟨fd, D, F⟩ := fb_Card_notes_at T
  exact F.all (D.bindsN fun _ _ _ _ _ _ us hl => match us, hl with | [_, _], _ => rfl)
end
section
/-- tuples of moments and True -/
def Prs (G : Hp) (ps : List Addr) (ms : List Nat) : Prop := Paired (fun (p : Addr) (n : Nat) => G p = some (.tup [.int (n : Nat), .bl true])) ps ms
theorem prs_imp {G G' : Hp} (k : ∀ b o, (∀ ys, o ≠ .lst ys) → G b = some o → G' b = some o) {ps : List Addr} {ms : List Nat} (h : Prs G ps ms) : Prs G' ps ms := by
  unfold Prs at h ⊢
  induction h with
  | nil => exact .nil
  | cons h1 _ ih => exact .cons (k _ _ nofun h1) ih
theorem prs_len {G : Hp} {ps : List Addr} {ms : List Nat} (h : Prs G ps ms) : ps.length = ms.length := Paired.length h
theorem prs_own {K : PySem.W.Frag} {G : Hp} {ps : List Addr} {ms : List Nat} (h : Prs G ps ms) : Paired (fun (p : Addr) (kv : Key × V) => SqT K G p [kV kv.1, kv.2]) ps (ownK ms) := by
  unfold Prs at h
  induction h with
  | nil => exact .nil
  | cons h1 _ ih => exact .cons (sq_tup h1) ih
theorem lc_own {J : It} {Gd Qd : Hp → Prop} {G0 : Hp} {D : Addr} {ns : List Nat} {g : TG} {tt : TT} {te : TE} {vs : List Nat} {σ : L2.St} (nD : G0 D = none) (w : L2.Walk J (natV ns).length Gd (L2.YAt (natV ns))) (hG : ∀ H, Ex G0 H → Gd H) (hn : ns.length ≤ 2000)
    (hs : ∀ (n : Nat) (H : Hp) (acc : List V) (N : Hp → Prop), Ex G0 H → H D = some (.lst acc) → acc.length < sizeLine → (∀ x H4, Ex H H4 → H4 D = some (.lst acc) → H4 x = some (.tup [.int (n : Nat), .bl true]) → N (upd H4 D (.lst (acc ++ [.ref x])))) → L3.Turn g tt te vs σ D (.int (n : Nat)) H N)
    (hd : ∀ ps H, Ex G0 H → H D = some (.lst (ps.map V.ref)) → Prs H ps ns → Qd H) :
    ∃ W : Nat → Nat → Hp → Prop, (∃ m, W 0 m (upd G0 D (.lst []))) ∧ ∀ i m H, W i m H →
      (J.stop i H ∧ Qd H) ∨ (J.go i H ∧ ∃ Nx : Hp → Prop, (∀ H', Nx H' → ∃ m', m' < m ∧ W (i + 1) m' H') ∧ ∀ x H', J.yld i H x H' → L3.Turn g tt te vs σ D x H' Nx) := by
  refine lc_any w (fun i acc G => Ex G0 G ∧ (G D = none ∨ ∃ xs, G D = some (.lst xs)) ∧ ∃ ps, acc = ps.map V.ref ∧ Prs G ps (ns.take i)) (fun i acc G z e => ?_) ⟨.refl _, .inl nD, [], rfl, .nil⟩ (by rw [natV_len]; omega) (fun i acc G e => ?_) (fun i acc G e => hG _ e.1) (fun i x G G' acc N hi e hA la y k _ => ?_) (fun acc G e hA => ?_)
  · obtain ⟨e1, e2, ps, e3, e4⟩ := e
    refine ⟨ex_mut e1 nD, .inr ⟨z, upd_same⟩, ps, e3, prs_imp (fun b o ho hb => ?_) e4⟩
    rw [upd_ne (fun zb => by
      rw [zb] at hb
      rcases e2 with h2 | ⟨xs, h2⟩
      · rw [h2] at hb
        cases hb
      · rw [h2] at hb
        cases hb
        exact ho _ rfl)]
    exact hb
  · obtain ⟨_, _, ps, rfl, h1⟩ := e
    rw [List.length_map, prs_len h1, List.length_take]
    omega
  · obtain ⟨rfl, y⟩ := y
    obtain ⟨XG, _, ps, rfl, h1⟩ := e
    rw [natV_len] at hi
    have gi : ns[i]? = some ns[i] := List.getElem?_eq_getElem hi
    obtain rfl : x = .int ((ns[i] : Nat) : Int) := by
      unfold natV at y
      rw [List.getElem?_map, gi] at y
      exact (Option.some.inj y).symm
    refine hs _ _ _ _ XG hA la fun x H4 X4 hD4 hx => k _ H4 hD4 ⟨XG.trans X4, .inr ⟨_, hD4⟩, ps ++ [x], by rw [List.map_append]; rfl, ?_⟩
    rw [take_snoc gi]
    exact Paired.snoc (prs_imp (fun b o _ hb => X4 _ _ hb) h1) hx
  · obtain ⟨XG, _, ps, rfl, h1⟩ := e
    rw [natV_len, List.take_length] at h1
    exact hd ps G XG hA h1
end
section
/-- a Spread, or not -/
def SpIs (K : PySem.W.Frag) (H : Hp) (x : V) : Option (List Tr) → Prop
  | some ts => ∃ s, x = .ref s ∧ SprAt K H s ts ∧ (momsL ts).Nodup ∧ (momsL ts).length ≤ 1440
  | none => ∃ t, TyX K H x t ∧ PySem.W.kitOne K t (.ref (SpreadC K)) = some false
theorem SpIs.mono {K : PySem.W.Frag} {H H' : Hp} {x : V} {r : Option (List Tr)} (h : SpIs K H x r) (e : Ex H H') : SpIs K H' x r := by
  cases r with
  | none =>
    obtain ⟨t, ty, k⟩ := h
    exact ⟨t, tyX_mono e ty, k⟩
  | some ts =>
    obtain ⟨s, h1, h2, h3⟩ := h
    exact ⟨s, h1, h2.mono e, h3⟩
def sp_Once_init (K : PySem.W.Frag) : Sp := fun vs H Q E => ∃ (a dx : Addr) (x y : V) (H0 : Hp) (rs : Option (List Tr)) (rn : Option (List Str)), vs = [.ref a, x, y] ∧ H a = some (.ins (He.ga K "Once") dx []) ∧ H0 a = none ∧ Ex H0 H ∧ SpIs K H0 x rs ∧ (∀ ts, rs = some ts → NtX K H0 y rn) ∧
  (∀ ts ws, rs = some ts → rn = some ws → ∀ H', Oth a H H' → CardAt K H' (.once ts ws) a → CdN (fun b => H0 b = none) x H' a → Q .non H') ∧ (rs = none → ∀ H', Ex H H' → E (.ref (He.ga K "NoCard")) none H') ∧ (∀ ts, rs = some ts → rn = none → ∀ H', Oth a H H' → E (.ref (He.ga K "NoCard")) none H')
theorem fb_Once_init {P : Program} {w : World} {K : PySem.W.Frag} {mg : Str → Option Value} {base : Heap} (T : Env K mg) : ∃ fd, FunD K "__init__" "Once.__init__" (defArgs s_Once_init) (defBody s_Once_init) (defScope s_Once_init) [.non] [] (He.ma K (He.ga K "Once") "__init__") fd ∧ Fb P w K mg base 3 (He.ma K (He.ga K "Once") "__init__") fd ["self", "spread", "notes"] (sp_Once_init K) := by
  obtain ⟨fd, F⟩ := T.f_Once_init
  refine ⟨fd, F, fb_of F sc_Once_init (fun vs H Q E h => ?_) (fun cdv A outer s H vs Q E hr h => ?_)⟩
  · obtain ⟨a, dx, x, y, H0, rs, rn, rfl, _⟩ := h
    rfl
  · obtain ⟨a, dx, x, y, H0, rs, rn, rfl, ha, na0, X0, hS, hN, q, qe, qn⟩ := h
    refine ⟨_, (pss_cons (ps_expr (c_call (ok_want T) (hr.mono (by decide)) T.g_want T.k_want (takes_of rfl rfl rfl rfl) (pa_cons (pe_callB call_isi (by rfl) T.n_isinstance (by decide +kernel) (pa_cons (pv 1) (pa_cons (pe_glob (v := .ref _) (by rfl) T.g_Spread rfl) pa_nil))) (pa_cons pe_str pa_nil))))
      (pss_cons (ps_expr (c_clsm T.cm_Card (ok_Card_init T) (hr.mono (by decide)) T.g_Card (takes_of rfl rfl rfl rfl) (pa_cons (pv 0) (pa_cons (pe_lst pa_nil) pa_nil))))
      (pss_cons (ps_fld (pv 0) (pv 1) rfl)
      (pss_cons (ps_fld (pv 0) (c_call (ok_notes_of T) (hr.mono (by decide)) T.g_notes_of T.k_notes_of (takes_of rfl rfl rfl rfl) (pa_cons (pv 2) pa_nil)) rfl)
      (pss_one (ps_fld (pv 0) (pe_callTy (call_dictP rfl) (by rfl) T.n_dict (by decide +kernel) (pa_cons (pe_lc (own := [("moment", 3)]) (by rfl) sc_Once_init.nd (pi_list (c_meth0 (pv 1) T.c_Spread T.m_Spread_moments (ok_Spread_moments T) (hr.mono (by decide)) (takes_of rfl rfl rfl rfl))) (blkOk_by (own := [("moment", 3)]) (N := ["self", "spread", "notes", "moment"]) (sc := defScope s_Once_init) (by decide +kernel)) (fun _ _ _ _ _ => (pg_name (i := 3) sc_Once_init.nd rfl (Or.inl rfl))) (fun _ _ _ _ _ => pts_nil) (fun _ _ _ _ _ => (pe_tup (pa_cons (pv 3) (pa_cons pe_bl pa_nil))))) pa_nil)) rfl)))))), ?_⟩
    have hS1 := hS.mono X0
    obtain ⟨t, b, ty, kt, hb⟩ : ∃ t b, TyX K H x t ∧ PySem.W.kitOne K t (.ref (SpreadC K)) = some b ∧ (b = true → rs.isSome = true) ∧ (b = false → rs = none) := by
      cases rs with
      | none =>
        obtain ⟨t, ty, k⟩ := hS1
        exact ⟨t, false, ty, k, nofun, fun _ => rfl⟩
      | some ts =>
        obtain ⟨s, rfl, ⟨dx2, kp2, hd2, as2, h2, _⟩, _⟩ := hS1
        exact ⟨_, true, ty_ins T.i_Spread T.c_Spread h2, T.kit_Spread_Spread, fun _ => rfl, nofun⟩
    refine ⟨_, rfl, x, _, t, _, b, rfl, .own _, ty, kt, b, _, rfl, fun eb => ?_, fun eb => qe (hb.2 eb) H (.refl _)⟩
    obtain ⟨ts, rfl⟩ := Option.isSome_iff_exists.mp (hb.1 eb)
    obtain ⟨s, rfl, hs, hnd, hms⟩ := hS1
    clear hb kt ty
    refine ⟨_, rfl, by show 0 ≤ sizeLine; decide, fun p np => ?_⟩
    have Xp := ex_new (o := HO.lst []) np
    have hp : upd H p (.lst []) p = some (.lst []) := upd_same
    have ha1 := Xp _ _ ha
    generalize upd H p (.lst []) = H1 at Xp hp ha1 ⊢
    refine ⟨a, _, dx, p, [], H0, fun _ => true, rfl, ha1, na0, X0.trans Xp, T.c_Once, T.a_Once_held, T.a_Once_weight, .inl hp, by decide, nofun, nofun, fun _ => ⟨[], [], rfl, by unfold CardsAt; rfl, fun _ hd H2 O2 nh hh h2 => ?_, nofun⟩⟩
    refine ⟨_, rfl, _, rfl, a, _, dx, _, rfl, h2, T.c_Once, T.a_Once_spread, by show 2 < 1000; decide, ?_⟩
    have e3 : putF "spread" (.ref s) (cdF hd (1 + wtL []) []) = cdF hd 1 [("spread", .ref s)] := rfl
    rw [e3]
    have O3 : Oth a H (upd H2 a (.ins (He.ga K "Once") dx (cdF hd 1 [("spread", .ref s)]))) := ((ex_oth Xp).trans O2).upd
    have h3 : upd H2 a (.ins (He.ga K "Once") dx (cdF hd 1 [("spread", .ref s)])) a = some (.ins (He.ga K "Once") dx (cdF hd 1 [("spread", .ref s)])) := upd_same
    have dh : hd ≠ a := fun z => by rw [z, h2] at hh; cases hh
    have hh3 : upd H2 a (.ins (He.ga K "Once") dx (cdF hd 1 [("spread", .ref s)])) hd = some (.lst []) := by rw [upd_ne dh]; exact hh
    generalize upd H2 a (.ins (He.ga K "Once") dx (cdF hd 1 [("spread", .ref s)])) = H3 at O3 h3 hh3 ⊢
    have X03 : Ex H0 H3 := Oth.ex X0 na0 O3
    refine ⟨_, rfl, y, rn, rfl, (hN ts rfl).mono X03, fun ws e nt H4 X4 nnt hnt => ?_, fun e H4 X4 => qn ts rfl e H4 (O3.trans (ex_oth X4))⟩
    subst e
    have h4 := X4 _ _ h3
    have ta : nt ≠ a := fun z => by rw [z, h4] at hnt; cases hnt
    refine ⟨_, rfl, a, _, dx, _, rfl, h4, T.c_Once, T.a_Once_notes, by show 3 < 1000; decide, ?_⟩
    have e5 : putF "notes" (.ref nt) (cdF hd 1 [("spread", .ref s)]) = cdF hd 1 [("spread", .ref s), ("notes", .ref nt)] := rfl
    rw [e5]
    have O5 : Oth a H (upd H4 a (.ins (He.ga K "Once") dx (cdF hd 1 [("spread", .ref s), ("notes", .ref nt)]))) := (O3.trans (ex_oth X4)).upd
    have h5 : upd H4 a (.ins (He.ga K "Once") dx (cdF hd 1 [("spread", .ref s), ("notes", .ref nt)])) a = some (.ins (He.ga K "Once") dx (cdF hd 1 [("spread", .ref s), ("notes", .ref nt)])) := upd_same
    have hh5 : upd H4 a (.ins (He.ga K "Once") dx (cdF hd 1 [("spread", .ref s), ("notes", .ref nt)])) hd = some (.lst []) := by rw [upd_ne dh]; exact X4 _ _ hh3
    have hn5 : upd H4 a (.ins (He.ga K "Once") dx (cdF hd 1 [("spread", .ref s), ("notes", .ref nt)])) nt = some (.tup (ws.map V.str)) := by rw [upd_ne ta]; exact hnt
    generalize upd H4 a (.ins (He.ga K "Once") dx (cdF hd 1 [("spread", .ref s), ("notes", .ref nt)])) = H5 at O5 h5 hh5 hn5 ⊢
    have X05 : Ex H0 H5 := Oth.ex X0 na0 O5
    obtain ⟨s', es, hs0, _, _⟩ := hS
    cases es
    have hs5 := hs0.mono X05
    obtain ⟨dx2, kp2, hd2, as2, g2, _⟩ := id hs5
    refine ⟨_, rfl, s, dx2, _, rfl, g2, rfl, s, ts, rfl, hs5, fun ml nml => ?_⟩
    have Xm := ex_new (o := HO.lst (natV (momsL ts))) nml
    have hm : upd H5 ml (HO.lst (natV (momsL ts))) ml = some (HO.lst (natV (momsL ts))) := upd_same
    generalize upd H5 ml (HO.lst (natV (momsL ts))) = H6 at Xm hm ⊢
    refine ⟨ml, rfl, ⟨_, sq_lst hm⟩, fun D nD => lc_own nD L2.walk_list (fun G e => sq_lst (e _ _ hm)) (by omega) (fun n G acc N XG hD la k => ?_) (fun ps H7 X7 hD7 hP => ?_)⟩
    · refine ⟨rfl, _, rfl, by show 2 ≤ sizeLine; decide, fun x nx => ?_⟩
      have Xx := ex_new (o := HO.tup [V.int (n : Nat), V.bl true]) nx
      exact ⟨acc, Xx _ _ hD, la, k x _ Xx (Xx _ _ hD) upd_same⟩
    refine ⟨D, ps, ownK (momsL ts), rfl, sq_lst hD7, prs_own hP, fun ow now => ?_⟩
    rw [show mergeK [] (ownK (momsL ts)) = ownK (momsL ts) from ownK_merge (momsL ts) [] hnd]
    have Xo := ex_new (o := HO.dK (ownK (momsL ts))) now
    have ho : upd H7 ow (HO.dK (ownK (momsL ts))) ow = some (HO.dK (ownK (momsL ts))) := upd_same
    generalize upd H7 ow (HO.dK (ownK (momsL ts))) = H8 at Xo ho ⊢
    have X58 := (Xm.trans X7).trans Xo
    have h8 := X58 _ _ h5
    have oa : ow ≠ a := fun z => by rw [z, h8] at ho; cases ho
    refine ⟨_, rfl, a, _, dx, _, rfl, h8, T.c_Once, T.a_Once_own, by show 4 < 1000; decide, ?_⟩
    have O9 : Oth a H (upd H8 a (.ins (He.ga K "Once") dx (putF "own" (.ref ow) (cdF hd 1 [("spread", .ref s), ("notes", .ref nt)])))) := (O5.trans (ex_oth X58)).upd
    refine q ts ws rfl rfl _ O9 ?_ (cdN_of (w := 1) upd_same nh rfl)
    have X09 := Oth.ex X0 na0 O9
    unfold CardAt
    exact ⟨dx, hd, s, nt, ow, upd_same, by rw [upd_ne dh]; exact X58 _ _ hh5, hs0.mono X09, by rw [upd_ne ta]; exact X58 _ _ hn5, by rw [upd_ne oa]; exact ho⟩
theorem once_new {K : PySem.W.Frag} {H : Hp} {x dx s : Addr} {y : V} {ts : List Tr} {ws : List Str} {Q : VK} {E : XK} (nx : H x = none) (nd : H dx = none) (ne : dx ≠ x) (hs : SprAt K H s ts) (hm : (momsL ts).Pairwise (· < ·)) (hl : (momsL ts).length ≤ 1440) (hN : NtX K H y (some ws)) (q : ∀ H', Ex H H' → CardAt K H' (.once ts ws) x → CdN (fun b => H b = none) (.ref s) H' x → Q .non H') :
    sp_Once_init K [.ref x, .ref s, y] (upd (upd H dx (.own x)) x (.ins (He.ga K "Once") dx [])) Q E := by
  have X1 := ex_made (o1 := .own x) (o2 := .ins (He.ga K "Once") dx []) nx nd ne
  exact ⟨x, dx, _, y, H, some ts, some ws, rfl, upd_same, nx, X1, ⟨s, rfl, hs, hm.imp fun {a b} z => Nat.ne_of_lt z, hl⟩, fun _ _ => hN, fun ts' ws' e1 e2 H' O hA hN => by cases e1; cases e2; exact q H' (Oth.ex X1 nx O) hA hN, nofun, fun _ _ => nofun⟩
theorem ok_Once_init {P : Program} {w : World} {K : PySem.W.Frag} {mg : Str → Option Value} {base : Heap} (T : Env K mg) : Fc P w K mg base 3 (He.ma K (He.ga K "Once") "__init__") [] (fun vs H Q E => vs.length = 3 + ([] : List Str).length ∧ sp_Once_init K  (pick [.inl 0, .inl 1, .inl 2] vs [.non]) H Q E) := by
  obtain ⟨fd, D, F⟩ := fb_Once_init T
  exact Fb.shape D F 3 [] (fun us its => pick [.inl 0, .inl 1, .inl 2] us its) (by decide) (fun r1 r2 => pick_vals _ r1 r2) (fun T kV doc pm an cdv ct us ws its h1 h2 h3 => match us, ws, its, h1, h2, h3 with | [_, _, _], [], [_], _, _, _ => ⟨_, rfl, rfl⟩)
end
section
theorem fb_Once_notes_at {P : Program} {w : World} {K : PySem.W.Frag} {mg : Str → Option Value} {base : Heap} (T : Env K mg) : ∃ fd, FunD K "notes_at" "Once.notes_at" (defArgs s_Once_notes_at) (defBody s_Once_notes_at) (defScope s_Once_notes_at) [] [] (He.ma K (He.ga K "Once") "notes_at") fd ∧ Fb P w K mg base 1 (He.ma K (He.ga K "Once") "notes_at") fd ["self", "moment"] (sp_Once_notes_at K) := by
  obtain ⟨fd, F⟩ := T.f_Once_notes_at
  refine ⟨fd, F, fb_of F sc_Once_notes_at (fun vs H Q E h => ?_) (fun cdv A outer s H vs Q E hr h => ?_)⟩
  · obtain ⟨a, ts, ws, n, rfl, _⟩ := h
    rfl
  · obtain ⟨a, ts, ws, n, rfl, hA, q⟩ := h
    refine ⟨_, (pss_one (ps_ret (pe_ifExp (pt_cmp (pc_din (hu_of hr.rm) (pv 1) (pe_fld (pv 0) (by rfl)))) (pe_fld (pv 0) (by rfl)) pe_non))), ?_⟩
    unfold CardAt at hA
    obtain ⟨dx, hd, s, nt, ow, h1, h2, h3, h4, h5⟩ := hA
    unfold CardD.nts at q
    refine ⟨_, rfl, _, rfl, _, _, _, _, _, rfl, h1, T.c_Once, T.a_Once_own, rfl, ?_⟩
    refine ⟨ow, _, rfl, DGet.k (k := Sum.inl (n : Int)) h5, _, rfl, ?_⟩
    rw [ownK_get]
    by_cases c : n ∈ momsL ts
    · rw [if_pos c] at q ⊢
      exact iteT ⟨_, rfl, a, _, dx, _, _, rfl, h1, T.c_Once, T.a_Once_notes, rfl, q _ _ (.refl _) ⟨nt, rfl, h4⟩⟩
    · rw [if_neg c] at q ⊢
      exact iteF (q _ _ (.refl _) rfl)
theorem ok_Once_notes_at {P : Program} {w : World} {K : PySem.W.Frag} {mg : Str → Option Value} {base : Heap} (T : Env K mg) : Fc P w K mg base 1 (He.ma K (He.ga K "Once") "notes_at") [] (sp_Once_notes_at K ) := by
  obtain ⟨fd, D, F⟩ := fb_Once_notes_at T
  exact F.all (D.bindsN fun _ _ _ _ _ _ us hl => match us, hl with | [_, _], _ => rfl)
end
section
/-- Days, or not -/
def DyIs (K : PySem.W.Frag) (H : Hp) (x : V) : Option DaysD → Prop
  | some D => ∃ r, x = .ref r ∧ DaysAt K H r D ∧ D.ok
  | none => ∃ t, TyX K H x t ∧ PySem.W.kitOne K t (.ref (DaysC K)) = some false
theorem DyIs.mono {K : PySem.W.Frag} {H H' : Hp} {x : V} {r : Option DaysD} (h : DyIs K H x r) (e : Ex H H') : DyIs K H' x r := by
  cases r with
  | none =>
    obtain ⟨t, ty, k⟩ := h
    exact ⟨t, tyX_mono e ty, k⟩
  | some D =>
    obtain ⟨s, h1, h2, h3⟩ := h
    exact ⟨s, h1, h2.mono e, h3⟩
def sp_Every_init (K : PySem.W.Frag) : Sp := fun vs H Q E => ∃ (a dx : Addr) (x1 x2 y : V) (H0 : Hp) (rd : Option DaysD) (rs : Option (List Tr)) (rn : Option (List Str)), vs = [.ref a, x1, x2, y] ∧ H a = some (.ins (He.ga K "Every") dx []) ∧ H0 a = none ∧ Ex H0 H ∧ DyIs K H0 x1 rd ∧ (rd.isSome = true → SpIs K H0 x2 rs) ∧ (rd.isSome = true → rs.isSome = true → NtX K H0 y rn) ∧
  (∀ D ts ws, rd = some D → rs = some ts → rn = some ws → (∀ n ∈ momsL ts, n < 1440) → ∀ H', Oth a H H' → CardAt K H' (.every D ts ws) a → CdN (fun b => H0 b = none) x2 H' a → Q .non H') ∧
  ((rd = none ∨ rs = none ∨ rn = none ∨ ∀ ts, rs = some ts → ∃ n ∈ momsL ts, ¬ n < 1440) → ∀ H', Oth a H H' → E (.ref (He.ga K "NoCard")) none H')
theorem fb_Every_init {P : Program} {w : World} {K : PySem.W.Frag} {mg : Str → Option Value} {base : Heap} (T : Env K mg) : ∃ fd, FunD K "__init__" "Every.__init__" (defArgs s_Every_init) (defBody s_Every_init) (defScope s_Every_init) [.non] [] (He.ma K (He.ga K "Every") "__init__") fd ∧ Fb P w K mg base 3 (He.ma K (He.ga K "Every") "__init__") fd ["self", "days", "spread", "notes"] (sp_Every_init K) := by
  obtain ⟨fd, F⟩ := T.f_Every_init
  refine ⟨fd, F, fb_of F sc_Every_init (fun vs H Q E h => ?_) (fun cdv A outer s H vs Q E hr h => ?_)⟩
  · obtain ⟨a, dx, x1, x2, y, H0, rd, rs, rn, rfl, _⟩ := h
    rfl
  · obtain ⟨a, dx, x1, x2, y, H0, rd, rs, rn, rfl, ha, na0, X0, hD, hS, hN, q, qe⟩ := h
    refine ⟨_, (pss_cons (ps_expr (c_call (ok_want T) (hr.mono (by decide)) T.g_want T.k_want (takes_of rfl rfl rfl rfl) (pa_cons (pe_and (pe_callB call_isi (by rfl) T.n_isinstance (by decide +kernel) (pa_cons (pv 1) (pa_cons (pe_glob (v := .ref _) (by rfl) T.g_Days rfl) pa_nil))) (pe_one (pe_callB call_isi (by rfl) T.n_isinstance (by decide +kernel) (pa_cons (pv 2) (pa_cons (pe_glob (v := .ref _) (by rfl) T.g_Spread rfl) pa_nil))))) (pa_cons pe_str pa_nil))))
      (pss_cons (ps_expr (c_clsm T.cm_Card (ok_Card_init T) (hr.mono (by decide)) T.g_Card (takes_of rfl rfl rfl rfl) (pa_cons (pv 0) (pa_cons (pe_lst pa_nil) pa_nil))))
      (pss_cons (ps_fld (pv 0) (pv 1) rfl)
      (pss_cons (ps_fld (pv 0) (pv 2) rfl)
      (pss_cons (ps_fld (pv 0) (c_call (ok_notes_of T) (hr.mono (by decide)) T.g_notes_of T.k_notes_of (takes_of rfl rfl rfl rfl) (pa_cons (pv 3) pa_nil)) rfl)
      (pss_cons (ps_fld (pv 0) (pe_callTy (call_dictP rfl) (by rfl) T.n_dict (by decide +kernel) (pa_cons (pe_lc (own := [("moment", 4)]) (by rfl) sc_Every_init.nd (pi_list (c_meth0 (pv 2) T.c_Spread T.m_Spread_moments (ok_Spread_moments T) (hr.mono (by decide)) (takes_of rfl rfl rfl rfl))) (blkOk_by (own := [("moment", 4)]) (N := ["self", "days", "spread", "notes", "moment", "minute"]) (sc := defScope s_Every_init) (by decide +kernel)) (fun _ _ _ _ _ => (pg_name (i := 4) sc_Every_init.nd rfl (Or.inl rfl))) (fun _ _ _ _ _ => pts_nil) (fun _ _ _ _ _ => (pe_tup (pa_cons (pv 4) (pa_cons pe_bl pa_nil))))) pa_nil)) rfl)
      (pss_one (ps_expr (c_call (ok_want T) (hr.mono (by decide)) T.g_want T.k_want (takes_of rfl rfl rfl rfl) (pa_cons (pe_callB (cr_all rfl) (by rfl) T.n_all (by decide +kernel) (pa_cons (pe_lc (own := [("minute", 5)]) (by rfl) sc_Every_init.nd (pi_list (pe_callTy (call_listD rfl) (by rfl) T.n_list (by decide +kernel) (pa_cons (pe_fld (pv 0) (by rfl)) pa_nil))) (blkOk_by (own := [("minute", 5)]) (N := ["self", "days", "spread", "notes", "moment", "minute"]) (sc := defScope s_Every_init) (by decide +kernel)) (fun _ _ _ _ _ => (pg_name (i := 5) sc_Every_init.nd rfl (Or.inl rfl))) (fun _ _ _ _ _ => pts_nil) (fun _ _ _ _ _ => (pe_cmpR op_lt (pv 5) (pe_k T.v_DAY) (nomark _)))) pa_nil)) (pa_cons pe_str pa_nil))))))))))), ?_⟩
    obtain ⟨t1, b1, ty1, kt1, hb1, hf1⟩ : ∃ t b, TyX K H x1 t ∧ PySem.W.kitOne K t (.ref (DaysC K)) = some b ∧ (b = true → rd.isSome = true) ∧ (b = false → rd = none) := by
      have hD1 := hD.mono X0
      cases rd with
      | none =>
        obtain ⟨t, ty, k⟩ := hD1
        exact ⟨t, false, ty, k, nofun, fun _ => rfl⟩
      | some D =>
        obtain ⟨s, rfl, ⟨dx2, r2, po2, pa2, h2, _⟩, _⟩ := hD1
        exact ⟨_, true, ty_ins T.i_Days T.c_Days h2, T.kit_Days_Days, fun _ => rfl, nofun⟩
    refine ⟨_, rfl, x1, _, t1, _, b1, rfl, .own _, ty1, kt1, ?_⟩
    refine ⟨b1, rfl, ?_⟩
    cases b1 with
    | false => exact iteF ⟨_, _, rfl, nofun, fun _ => qe (.inl (hf1 rfl)) H (Oth.refl _ _)⟩
    | true =>
    refine iteT ?_
    have sD := hb1 rfl
    clear hb1 hf1 kt1 ty1
    replace hS := hS sD
    have hS1 := hS.mono X0
    obtain ⟨t2, b2, ty2, kt2, hb2, hf2⟩ : ∃ t b, TyX K H x2 t ∧ PySem.W.kitOne K t (.ref (SpreadC K)) = some b ∧ (b = true → rs.isSome = true) ∧ (b = false → rs = none) := by
      cases rs with
      | none =>
        obtain ⟨t, ty, k⟩ := hS1
        exact ⟨t, false, ty, k, nofun, fun _ => rfl⟩
      | some ts =>
        obtain ⟨s, rfl, ⟨dx2, kp2, hd2, as2, h2, _⟩, _⟩ := hS1
        exact ⟨_, true, ty_ins T.i_Spread T.c_Spread h2, T.kit_Spread_Spread, fun _ => rfl, nofun⟩
    refine ⟨_, rfl, x2, _, t2, _, b2, rfl, .own _, ty2, kt2, b2, _, rfl, fun eb => ?_, fun eb => qe (.inr (.inl (hf2 eb))) H (Oth.refl _ _)⟩
    have sS := hb2 eb
    replace hN := hN sD sS
    clear hb2 hf2 kt2 ty2 hS1
    obtain ⟨D, rfl⟩ := Option.isSome_iff_exists.mp sD
    obtain ⟨ts, rfl⟩ := Option.isSome_iff_exists.mp sS
    obtain ⟨r, rfl, hr0, hDk⟩ := hD
    obtain ⟨s, rfl, hs0, hnd, hms⟩ := hS
    refine ⟨_, rfl, by show 0 ≤ sizeLine; decide, fun p np => ?_⟩
    have Xp := ex_new (o := HO.lst []) np
    have hp : upd H p (.lst []) p = some (.lst []) := upd_same
    have ha1 := Xp _ _ ha
    generalize upd H p (.lst []) = H1 at Xp hp ha1 ⊢
    refine ⟨a, _, dx, p, [], H0, fun _ => true, rfl, ha1, na0, X0.trans Xp, T.c_Every, T.a_Every_held, T.a_Every_weight, .inl hp, by decide, nofun, nofun, fun _ => ⟨[], [], rfl, by unfold CardsAt; rfl, fun _ hd H2 O2 nh hh h2 => ?_, nofun⟩⟩
    have dh : hd ≠ a := fun z => by rw [z, h2] at hh; cases hh
    refine ⟨_, rfl, _, rfl, a, _, dx, _, rfl, h2, T.c_Every, T.a_Every_days, by show 2 < 1000; decide, ?_⟩
    rw [show putF "days" (.ref r) (cdF hd (1 + wtL []) []) = cdF hd 1 [("days", .ref r)] from rfl]
    have O3 : Oth a H (upd H2 a (.ins (He.ga K "Every") dx (cdF hd 1 [("days", .ref r)]))) := ((ex_oth Xp).trans O2).upd
    have h3 : upd H2 a (.ins (He.ga K "Every") dx (cdF hd 1 [("days", .ref r)])) a = some (.ins (He.ga K "Every") dx (cdF hd 1 [("days", .ref r)])) := upd_same
    have hh3 : upd H2 a (.ins (He.ga K "Every") dx (cdF hd 1 [("days", .ref r)])) hd = some (.lst []) := by rw [upd_ne dh]; exact hh
    generalize upd H2 a (.ins (He.ga K "Every") dx (cdF hd 1 [("days", .ref r)])) = H3 at O3 h3 hh3 ⊢
    refine ⟨_, rfl, _, rfl, a, _, dx, _, rfl, h3, T.c_Every, T.a_Every_spread, by show 3 < 1000; decide, ?_⟩
    rw [show putF "spread" (.ref s) (cdF hd 1 [("days", .ref r)]) = cdF hd 1 [("days", .ref r), ("spread", .ref s)] from rfl]
    have O4 : Oth a H (upd H3 a (.ins (He.ga K "Every") dx (cdF hd 1 [("days", .ref r), ("spread", .ref s)]))) := O3.upd
    have h4 : upd H3 a (.ins (He.ga K "Every") dx (cdF hd 1 [("days", .ref r), ("spread", .ref s)])) a = some (.ins (He.ga K "Every") dx (cdF hd 1 [("days", .ref r), ("spread", .ref s)])) := upd_same
    have hh4 : upd H3 a (.ins (He.ga K "Every") dx (cdF hd 1 [("days", .ref r), ("spread", .ref s)])) hd = some (.lst []) := by rw [upd_ne dh]; exact hh3
    generalize upd H3 a (.ins (He.ga K "Every") dx (cdF hd 1 [("days", .ref r), ("spread", .ref s)])) = H4 at O4 h4 hh4 ⊢
    have X04 : Ex H0 H4 := Oth.ex X0 na0 O4
    refine ⟨_, rfl, y, rn, rfl, hN.mono X04, fun ws e nt H5 X5 nnt hnt => ?_, fun e H5 X5 => qe (.inr (.inr (.inl e))) H5 (O4.trans (ex_oth X5))⟩
    subst e
    have h5 := X5 _ _ h4
    have ta : nt ≠ a := fun z => by rw [z, h5] at hnt; cases hnt
    refine ⟨_, rfl, a, _, dx, _, rfl, h5, T.c_Every, T.a_Every_notes, by show 4 < 1000; decide, ?_⟩
    rw [show putF "notes" (.ref nt) (cdF hd 1 [("days", .ref r), ("spread", .ref s)]) = cdF hd 1 [("days", .ref r), ("spread", .ref s), ("notes", .ref nt)] from rfl]
    have O6 : Oth a H (upd H5 a (.ins (He.ga K "Every") dx (cdF hd 1 [("days", .ref r), ("spread", .ref s), ("notes", .ref nt)]))) := (O4.trans (ex_oth X5)).upd
    have h6 : upd H5 a (.ins (He.ga K "Every") dx (cdF hd 1 [("days", .ref r), ("spread", .ref s), ("notes", .ref nt)])) a = some (.ins (He.ga K "Every") dx (cdF hd 1 [("days", .ref r), ("spread", .ref s), ("notes", .ref nt)])) := upd_same
    have hh6 : upd H5 a (.ins (He.ga K "Every") dx (cdF hd 1 [("days", .ref r), ("spread", .ref s), ("notes", .ref nt)])) hd = some (.lst []) := by rw [upd_ne dh]; exact X5 _ _ hh4
    have hn6 : upd H5 a (.ins (He.ga K "Every") dx (cdF hd 1 [("days", .ref r), ("spread", .ref s), ("notes", .ref nt)])) nt = some (.tup (ws.map V.str)) := by rw [upd_ne ta]; exact hnt
    generalize upd H5 a (.ins (He.ga K "Every") dx (cdF hd 1 [("days", .ref r), ("spread", .ref s), ("notes", .ref nt)])) = H6 at O6 h6 hh6 hn6 ⊢
    have X06 : Ex H0 H6 := Oth.ex X0 na0 O6
    have hs6 := hs0.mono X06
    obtain ⟨dx2, kp2, hd2, as2, g2, _⟩ := id hs6
    refine ⟨_, rfl, s, dx2, _, rfl, g2, rfl, s, ts, rfl, hs6, fun ml nml => ?_⟩
    have Xm := ex_new (o := HO.lst (natV (momsL ts))) nml
    have hm : upd H6 ml (HO.lst (natV (momsL ts))) ml = some (HO.lst (natV (momsL ts))) := upd_same
    generalize upd H6 ml (HO.lst (natV (momsL ts))) = H7 at Xm hm ⊢
    refine ⟨ml, rfl, ⟨_, sq_lst hm⟩, fun D1 nD => lc_own nD L2.walk_list (fun G e => sq_lst (e _ _ hm)) (by omega) (fun n G acc N XG hD la k => ?_) (fun ps H8 X8 hD8 hP => ?_)⟩
    · refine ⟨rfl, _, rfl, by show 2 ≤ sizeLine; decide, fun x nx => ?_⟩
      have Xx := ex_new (o := HO.tup [V.int (n : Nat), V.bl true]) nx
      exact ⟨acc, Xx _ _ hD, la, k x _ Xx (Xx _ _ hD) upd_same⟩
    refine ⟨D1, ps, ownK (momsL ts), rfl, sq_lst hD8, prs_own hP, fun ow now => ?_⟩
    rw [show mergeK [] (ownK (momsL ts)) = ownK (momsL ts) from ownK_merge (momsL ts) [] hnd]
    have Xo := ex_new (o := HO.dK (ownK (momsL ts))) now
    have ho : upd H8 ow (HO.dK (ownK (momsL ts))) ow = some (HO.dK (ownK (momsL ts))) := upd_same
    generalize upd H8 ow (HO.dK (ownK (momsL ts))) = H9 at Xo ho ⊢
    have X69 := (Xm.trans X8).trans Xo
    have h9 := X69 _ _ h6
    have oa : ow ≠ a := fun z => by rw [z, h9] at ho; cases ho
    refine ⟨_, rfl, a, _, dx, _, rfl, h9, T.c_Every, T.a_Every_own, by show 5 < 1000; decide, ?_⟩
    rw [show putF "own" (.ref ow) (cdF hd 1 [("days", .ref r), ("spread", .ref s), ("notes", .ref nt)]) = cdF hd 1 [("days", .ref r), ("spread", .ref s), ("notes", .ref nt), ("own", .ref ow)] from rfl]
    have O10 : Oth a H (upd H9 a (.ins (He.ga K "Every") dx (cdF hd 1 [("days", .ref r), ("spread", .ref s), ("notes", .ref nt), ("own", .ref ow)]))) := (O6.trans (ex_oth X69)).upd
    have hA : CardAt K (upd H9 a (.ins (He.ga K "Every") dx (cdF hd 1 [("days", .ref r), ("spread", .ref s), ("notes", .ref nt), ("own", .ref ow)]))) (.every D ts ws) a := by
      have X09 := Oth.ex X0 na0 O10
      unfold CardAt
      exact ⟨dx, hd, r, s, nt, ow, upd_same, by rw [upd_ne dh]; exact X69 _ _ hh6, hr0.mono X09, hs0.mono X09, by rw [upd_ne ta]; exact X69 _ _ hn6, by rw [upd_ne oa]; exact ho⟩
    have h10 : upd H9 a (.ins (He.ga K "Every") dx (cdF hd 1 [("days", .ref r), ("spread", .ref s), ("notes", .ref nt), ("own", .ref ow)])) a = some (.ins (He.ga K "Every") dx (cdF hd 1 [("days", .ref r), ("spread", .ref s), ("notes", .ref nt), ("own", .ref ow)])) := upd_same
    have ho10 : upd H9 a (.ins (He.ga K "Every") dx (cdF hd 1 [("days", .ref r), ("spread", .ref s), ("notes", .ref nt), ("own", .ref ow)])) ow = some (.dK (ownK (momsL ts))) := by rw [upd_ne oa]; exact ho
    generalize upd H9 a (.ins (He.ga K "Every") dx (cdF hd 1 [("days", .ref r), ("spread", .ref s), ("notes", .ref nt), ("own", .ref ow)])) = H10 at hA O10 h10 ho10 ⊢
    refine ⟨_, rfl, a, _, dx, _, _, rfl, h10, T.c_Every, T.a_Every_own, rfl, ow, _, rfl, .inl ho10, fun kl nk => ?_⟩
    have ek : (ownK (momsL ts)).map (fun kv => kV kv.1) = natV (momsL ts) := by
      unfold ownK natV
      rw [List.map_map]
      rfl
    rw [ek]
    have Xk := ex_new (o := HO.lst (natV (momsL ts))) nk
    have hk : upd H10 kl (HO.lst (natV (momsL ts))) kl = some (HO.lst (natV (momsL ts))) := upd_same
    generalize upd H10 kl (HO.lst (natV (momsL ts))) = H11 at Xk hk ⊢
    refine ⟨kl, rfl, ⟨_, sq_lst hk⟩, fun A2 nA2 => lc_on (momsL ts) (fun n : Nat => V.int n) L2.walk_list (fun n => some (.bl (decide (n < 1440)))) (fun H' => Ex H11 H') (fun H' z e => ex_mut e nA2) (.refl _) (by omega) (fun H' e => sq_lst (e _ _ hk)) (fun j n H4 acc N hn X4 hD la k => ?_) fun H12 X12 d12 => ?_⟩
    · refine ⟨rfl, _, rfl, _, _, rfl, rfl, acc, hD, la, ?_⟩
      show N (upd H4 A2 (HO.lst (acc ++ [V.bl (decide (((n : Nat) : Int) < 1440))])))
      rw [show decide (((n : Nat) : Int) < 1440) = decide (n < 1440) from decide_eq_decide.mpr (by omega)]
      exact k H4 X4 hD
    have ed : (momsL ts).filterMap (fun n => some (V.bl (decide (n < 1440)))) = ((momsL ts).map fun n => decide (n < 1440)).map V.bl := by
      rw [List.filterMap_eq_map', List.map_map]
      rfl
    rw [ed] at d12
    have X1012 := Xk.trans X12
    refine ⟨A2, _, rfl, sq_lst d12, _, _, rfl, fun hb => ?_, fun hb => ?_⟩
    · rw [List.all_map] at hb
      exact q D ts ws rfl rfl rfl (fun n hn => of_decide_eq_true (List.all_eq_true.mp hb n hn)) H12 (O10.trans (ex_oth X1012)) (hA.mono X1012) (cdN_of (w := 1) (X1012 _ _ h10) nh rfl)
    · rw [List.all_map] at hb
      refine qe (.inr (.inr (.inr fun ts' e => ?_))) H12 (O10.trans (ex_oth X1012))
      cases e
      obtain ⟨n, hn, hb'⟩ := List.all_eq_false.mp hb
      exact ⟨n, hn, fun h => hb' (decide_eq_true h)⟩
theorem every_new {K : PySem.W.Frag} {H : Hp} {x dx r s : Addr} {y : V} {D : DaysD} {ts : List Tr} {ws : List Str} {Q : VK} {E : XK} (nx : H x = none) (nd : H dx = none) (ne : dx ≠ x) (hr : DaysAt K H r D) (hD : D.ok) (hs : SprAt K H s ts) (hm : (momsL ts).Pairwise (· < ·)) (hl : (momsL ts).length ≤ 1440) (hb : ∀ n ∈ momsL ts, n < 1440) (hN : NtX K H y (some ws)) (q : ∀ H', Ex H H' → CardAt K H' (.every D ts ws) x → CdN (fun b => H b = none) (.ref s) H' x → Q .non H') :
    sp_Every_init K [.ref x, .ref r, .ref s, y] (upd (upd H dx (.own x)) x (.ins (He.ga K "Every") dx [])) Q E := by
  have X1 := ex_made (o1 := .own x) (o2 := .ins (He.ga K "Every") dx []) nx nd ne
  refine ⟨x, dx, _, _, y, H, some D, some ts, some ws, rfl, upd_same, nx, X1, ⟨r, rfl, hr, hD⟩, fun _ => ⟨s, rfl, hs, hm.imp fun {a b} z => Nat.ne_of_lt z, hl⟩, fun _ _ => hN, fun D' ts' ws' e0 e1 e2 _ H' O hA hN => by cases e0; cases e1; cases e2; exact q H' (Oth.ex X1 nx O) hA hN, fun h => ?_⟩
  rcases h with h | h | h | h
  · cases h
  · cases h
  · cases h
  · obtain ⟨n, hn, h⟩ := h ts rfl
    exact absurd (hb n hn) h
theorem ok_Every_init {P : Program} {w : World} {K : PySem.W.Frag} {mg : Str → Option Value} {base : Heap} (T : Env K mg) : Fc P w K mg base 3 (He.ma K (He.ga K "Every") "__init__") [] (fun vs H Q E => vs.length = 4 + ([] : List Str).length ∧ sp_Every_init K  (pick [.inl 0, .inl 1, .inl 2, .inl 3] vs [.non]) H Q E) := by
  obtain ⟨fd, D, F⟩ := fb_Every_init T
  exact Fb.shape D F 4 [] (fun us its => pick [.inl 0, .inl 1, .inl 2, .inl 3] us its) (by decide) (fun r1 r2 => pick_vals _ r1 r2) (fun T kV doc pm an cdv ct us ws its h1 h2 h3 => match us, ws, its, h1, h2, h3 with | [_, _, _, _], [], [_], _, _, _ => ⟨_, rfl, rfl⟩)
end
section
theorem fb_Every_notes_at {P : Program} {w : World} {K : PySem.W.Frag} {mg : Str → Option Value} {base : Heap} (T : Env K mg) : ∃ fd, FunD K "notes_at" "Every.notes_at" (defArgs s_Every_notes_at) (defBody s_Every_notes_at) (defScope s_Every_notes_at) [] [] (He.ma K (He.ga K "Every") "notes_at") fd ∧ Fb P w K mg base 6 (He.ma K (He.ga K "Every") "notes_at") fd ["self", "moment"] (sp_Every_notes_at K) := by
  obtain ⟨fd, F⟩ := T.f_Every_notes_at
  refine ⟨fd, F, fb_of F sc_Every_notes_at (fun vs H Q E h => ?_) (fun cdv A outer s H vs Q E hr h => ?_)⟩
  · obtain ⟨a, D, ts, ws, n, rfl, _⟩ := h
    rfl
  · obtain ⟨a, D, ts, ws, n, rfl, hA, hD, q⟩ := h
    refine ⟨_, (pss_cons (ps_asg (pe_callB call_divmodW (by rfl) T.n_divmod (by decide +kernel) (pa_cons (pv 1) (pa_cons (pe_k T.v_DAY) pa_nil))) (pg_tup (by rfl) (pgs_cons (pg_name (i := 2) sc_Every_notes_at.nd rfl (Or.inl rfl)) (pgs_cons (pg_name (i := 3) sc_Every_notes_at.nd rfl (Or.inl rfl)) pgs_nil))))
      (pss_one (ps_ret (pe_ifExp (PW.pt (pw_and (pt_cmp (pc_din (hu_of hr.rm) (pv 3) (pe_fld (pv 0) (by rfl)))) (pw_and1 (pt_val (c_meth (pe_fld (pv 0) (by rfl)) T.c_Days T.m_Days_has (ok_Days_has T) (hr.mono (by decide)) takes0 (pa_cons (pv 2) pa_nil)))))) (pe_fld (pv 0) (by rfl)) pe_non)))), ?_⟩
    unfold CardAt at hA
    obtain ⟨dx, hd, r, s, nt, ow, h1, h2, h0, h3, h4, h5⟩ := hA
    unfold CardD.nts at q
    refine ⟨_, rfl, _, _, rfl, ⟨(by decide), rfl⟩, ?_⟩
    intro a1 na1
    have Xa1 := ex_new (o := HO.tup [V.int ((↑n : Int) / 1440), V.int ((↑n : Int) % 1440)]) na1
    have ha1 : upd H a1 (HO.tup [V.int ((↑n : Int) / 1440), V.int ((↑n : Int) % 1440)]) a1 = some (HO.tup [V.int ((↑n : Int) / 1440), V.int ((↑n : Int) % 1440)]) := upd_same
    generalize upd H a1 (HO.tup [V.int ((↑n : Int) / 1440), V.int ((↑n : Int) % 1440)]) = Ga1 at Xa1 ha1 ⊢
    refine ⟨_, _, rfl, (sq_tup ha1), rfl, _, _, rfl, _, _, rfl, rfl, _, rfl, _, rfl, _, _, _, _, _, rfl, (Xa1 _ _ h1), T.c_Every, T.a_Every_own, rfl, ?_⟩
    rw [show (n : Int) % 1440 = ((n % 1440 : Nat) : Int) by omega, show (n : Int) / 1440 = ((n / 1440 : Nat) : Int) by omega]
    refine ⟨ow, _, rfl, DGet.k (k := Sum.inl ((n % 1440 : Nat) : Int)) (Xa1 _ _ h5), _, rfl, ?_⟩
    rw [ownK_get]
    by_cases c : n % 1440 ∈ momsL ts
    · rw [if_pos c] at q ⊢
      refine iteT ?_
      have h01 := h0.mono Xa1
      obtain ⟨dr, r1, po, pa, k1, _⟩ := id h01
      refine ⟨_, rfl, a, _, dx, _, _, rfl, Xa1 _ _ h1, T.c_Every, T.a_Every_days, rfl, r, dr, _, rfl, k1, rfl, _, rfl, r, D, _, rfl, h01, hD, cl_int _, fun d ed => ⟨_, rfl, ?_⟩, isM_no⟩
      have ed2 : d = n / 1440 := by injection ed with ed; omega
      subst ed2
      cases e : dHas D (n / 1440) with
      | true =>
        rw [e, if_pos rfl] at q
        exact iteT ⟨_, rfl, a, _, dx, _, _, rfl, Xa1 _ _ h1, T.c_Every, T.a_Every_notes, rfl, q _ _ Xa1 ⟨nt, rfl, Xa1 _ _ h4⟩⟩
      | false =>
        rw [e, if_neg (by decide)] at q
        exact iteF (q _ _ Xa1 rfl)
    · rw [if_neg c] at q ⊢
      exact iteF (q _ _ Xa1 rfl)
theorem ok_Every_notes_at {P : Program} {w : World} {K : PySem.W.Frag} {mg : Str → Option Value} {base : Heap} (T : Env K mg) : Fc P w K mg base 6 (He.ma K (He.ga K "Every") "notes_at") [] (sp_Every_notes_at K ) := by
  obtain ⟨fd, D, F⟩ := fb_Every_notes_at T
  exact F.all (D.bindsN fun _ _ _ _ _ _ us hl => match us, hl with | [_, _], _ => rfl)
end
section
/-- a card, or none -/
def CdX (K : PySem.W.Frag) (H : Hp) (x : V) : Option CardD → Prop
  | some c => ∃ a, x = .ref a ∧ CardAt K H c a
  | none => ∃ t, TyX K H x t ∧ PySem.W.kitOne K t (.ref (CardC K)) = some false
def CdXs (K : PySem.W.Frag) (H : Hp) : List V → List (Option CardD) → Prop := Paired (CdX K H)
theorem CdX.mono {K : PySem.W.Frag} {H H' : Hp} {x : V} {r : Option CardD} (h : CdX K H x r) (e : Ex H H') : CdX K H' x r := by
  cases r with
  | none =>
    obtain ⟨t, ty, k⟩ := h
    exact ⟨t, tyX_mono e ty, k⟩
  | some c =>
    obtain ⟨a, rfl, h⟩ := h
    exact ⟨a, rfl, h.mono e⟩
theorem CdX.is {K : PySem.W.Frag} {mg : Str → Option Value} (T : Env K mg) {H : Hp} {x : V} {r : Option CardD} (h : CdX K H x r) : CdIs K H x r.isSome := by
  cases r with
  | none => exact h
  | some c =>
    obtain ⟨a, rfl, h⟩ := h
    obtain ⟨dx, hd, as, fs, h1, _, _, cc, _⟩ := card_gen T h
    exact ⟨_, ty_ins cc.ins cc.cls h1, cc.isCard⟩
/-- all of them -/
def allO {α : Type} : List (Option α) → Option (List α)
  | [] => some []
  | none :: _ => none
  | some x :: r => (allO r).map (x :: ·)
theorem CdXs.get {K : PySem.W.Frag} {H : Hp} : ∀ {xs : List V} {rs : List (Option CardD)} {i : Nat} {v : V}, Paired (CdX K H) xs rs → xs[i]? = some v → CdX K H v (rs.getD i none)
  | _, _, 0, v, .cons h1 h2, e => by
    cases e
    exact h1
  | _, _, i + 1, v, .cons (l₁ := l) (l₂ := m) h1 h2, e => CdXs.get (xs := l) (rs := m) (i := i) h2 e
  | _, _, i, v, .nil, e => by cases e
theorem CdXs.mono {K : PySem.W.Frag} {H H' : Hp} (e : Ex H H') : ∀ {xs : List V} {rs : List (Option CardD)}, Paired (CdX K H) xs rs → Paired (CdX K H') xs rs
  | _, _, .nil => .nil
  | _, _, .cons h1 h2 => .cons (h1.mono e) (CdXs.mono e h2)
theorem CdXs.all {K : PySem.W.Frag} {H : Hp} : ∀ {xs : List V} {rs : List (Option CardD)} {cs : List CardD}, Paired (CdX K H) xs rs → allO rs = some cs → ∃ as : List Addr, xs = as.map V.ref ∧ CardsAt K H cs as
  | _, _, cs, .nil, e => by
    cases e
    exact ⟨[], rfl, by unfold CardsAt; rfl⟩
  | _, _, cs, .cons (b := y) h1 h2, e => by
    cases y with
    | none => cases e
    | some c =>
      obtain ⟨cs', e', rfl⟩ := Option.map_eq_some_iff.mp e
      obtain ⟨a, rfl, hc⟩ := h1
      obtain ⟨as, rfl, hs⟩ := CdXs.all h2 e'
      exact ⟨a :: as, rfl, by unfold CardsAt; exact ⟨a, as, rfl, hc, hs⟩⟩
theorem CdXs.of {K : PySem.W.Frag} {H : Hp} : ∀ {cs : List CardD} {as : List Addr}, CardsAt K H cs as → Paired (CdX K H) (as.map V.ref) (cs.map some)
  | [], as, h => by
    unfold CardsAt at h
    rw [h]
    exact .nil
  | c :: cs, as, h => by
    unfold CardsAt at h
    obtain ⟨a, r, rfl, h1, h2⟩ := h
    exact .cons ⟨a, rfl, h1⟩ (CdXs.of h2)
theorem allO_some {α : Type} : ∀ cs : List α, allO (cs.map some) = some cs
  | [] => rfl
  | c :: cs => by
    show (allO (cs.map some)).map (c :: ·) = _
    rw [allO_some cs]
    rfl
theorem allO_isSome {α : Type} : ∀ rs : List (Option α), (allO rs).isSome = (List.range rs.length).all fun i => (rs.getD i none).isSome
  | [] => rfl
  | r :: rs => by
    rw [List.length_cons, List.range_succ_eq_map, List.all_cons, List.all_map]
    cases r with
    | none => rfl
    | some x =>
      show ((allO rs).map (x :: ·)).isSome = _
      rw [Option.isSome_map, allO_isSome rs]
      rfl
theorem card_init_ok {K : PySem.W.Frag} {mg : Str → Option Value} (T : Env K mg) {H H0 : Hp} {a C dx p : Addr} {xs : List V} {rs : List (Option CardD)} {Q : VK} {E : XK} (ha : H a = some (.ins C dx [])) (na : H0 a = none) (X0 : Ex H0 H) (cC : Cls K C) (aH : NoAttr K C "held") (aW : NoAttr K C "weight") (hp : SqA H p xs) (l : xs.length ≤ 1000) (hx : CdXs K H0 xs rs)
    (q : ∀ cs as, allO rs = some cs → wtL cs < 60 → xs = as.map V.ref → CardsAt K H0 cs as → ∀ hd H', Oth a H H' → H0 hd = none → H' hd = some (.lst xs) → H' a = some (.ins C dx (cdF hd (1 + wtL cs) [])) → Q .non H')
    (qe : (∀ cs, allO rs = some cs → 60 ≤ wtL cs) → ∀ H', Oth a H H' → E (.ref (He.ga K "NoCard")) none H') : sp_Card_init K [.ref a, .ref p] H Q E := by
  have ll : xs.length = rs.length := Paired.length hx
  refine ⟨a, C, dx, p, xs, H0, fun i => (rs.getD i none).isSome, rfl, ha, na, X0, cC, aH, aW, hp, l, fun i v e => (CdXs.get hx e).is T, fun h => ?_, fun h => ?_⟩
  · rw [ll, ← allO_isSome] at h
    exact fun H' X => qe (fun cs e => by rw [e] at h; cases h) H' (ex_oth X)
  · rw [ll, ← allO_isSome] at h
    obtain ⟨cs, e⟩ := Option.isSome_iff_exists.mp h
    obtain ⟨as, ex, hA⟩ := CdXs.all hx e
    exact ⟨as, cs, ex, hA, fun hw hd H' O n h1 h2 => q cs as e hw ex hA hd H' O n h1 h2, fun hw H' O => qe (fun cs' e' => by rw [e] at e'; cases e'; exact hw) H' O⟩
end
section
/-- what Join makes of a thing: the cards in the list, or none -/
def JnX (K : PySem.W.Frag) (H : Hp) (x : V) (r : Option (List CardD)) : Prop := (∃ p xs rs, x = .ref p ∧ SqA H p xs ∧ xs.length ≤ 1000 ∧ CdXs K H xs rs ∧ r = allO rs) ∨ (∃ t, TyX K H x t ∧ PySem.W.kitAny K t [.type "list", .type "tuple"] = some false ∧ r = none)
def sp_Join_init (K : PySem.W.Frag) : Sp := fun vs H Q E => ∃ (a dx : Addr) (x : V) (H0 : Hp) (r : Option (List CardD)), vs = [.ref a, x] ∧ H a = some (.ins (He.ga K "Join") dx []) ∧ H0 a = none ∧ Ex H0 H ∧ JnX K H0 x r ∧
  (∀ cs, r = some cs → cs ≠ [] → wtL cs < 60 → ∀ p as hd H', x = .ref p → SqA H0 p (as.map V.ref) → CardsAt K H0 cs as → Oth a H H' → H0 hd = none → H' hd = some (.lst (as.map V.ref)) → H' a = some (.ins (He.ga K "Join") dx (cdF hd (1 + wtL cs) [])) → Q .non H') ∧
  ((∀ cs, r = some cs → cs = [] ∨ 60 ≤ wtL cs) → ∀ H', Oth a H H' → E (.ref (He.ga K "NoCard")) none H')
theorem fb_Join_init {P : Program} {w : World} {K : PySem.W.Frag} {mg : Str → Option Value} {base : Heap} (T : Env K mg) : ∃ fd, FunD K "__init__" "Join.__init__" (defArgs s_Join_init) (defBody s_Join_init) (defScope s_Join_init) [] [] (He.ma K (He.ga K "Join") "__init__") fd ∧ Fb P w K mg base 3 (He.ma K (He.ga K "Join") "__init__") fd ["self", "parts"] (sp_Join_init K) := by
  obtain ⟨fd, F⟩ := T.f_Join_init
  refine ⟨fd, F, fb_of F sc_Join_init (fun vs H Q E h => ?_) (fun cdv A outer s H vs Q E hr h => ?_)⟩
  · obtain ⟨a, dx, x, H0, r, rfl, _⟩ := h
    rfl
  · obtain ⟨a, dx, x, H0, r, rfl, ha, na0, X0, hJ, q, qe⟩ := h
    refine ⟨_, (pss_cons (ps_expr (c_call (ok_want T) (hr.mono (by decide)) T.g_want T.k_want (takes_of rfl rfl rfl rfl) (pa_cons (pe_and (pe_callB call_isiT (by rfl) T.n_isinstance (by decide +kernel) (pa_cons (pv 1) (pa_cons (pe_tup (pa_cons (pe_bltn (v := .ty "list") (by rfl) T.n_list (by decide +kernel) rfl) (pa_cons (pe_bltn (v := .ty "tuple") (by rfl) T.n_tuple (by decide +kernel) rfl) pa_nil))) pa_nil))) (pe_one (pe_cmpR op_gt (pe_callB call_len (by rfl) T.n_len (by decide +kernel) (pa_cons (pv 1) pa_nil)) pe_int (nomark _)))) (pa_cons pe_str pa_nil))))
      (pss_one (ps_expr (c_clsm T.cm_Card (ok_Card_init T) (hr.mono (by decide)) T.g_Card (takes_of rfl rfl rfl rfl) (pa_cons (pv 0) (pa_cons (pv 1) pa_nil)))))), ?_⟩
    refine ⟨_, rfl, (by decide), ?_⟩
    intro a1 na1
    have Xa1 := ex_new (o := HO.tup [V.ty "list", V.ty "tuple"]) na1
    have ha1 : upd H a1 (HO.tup [V.ty "list", V.ty "tuple"]) a1 = some (HO.tup [V.ty "list", V.ty "tuple"]) := upd_same
    generalize upd H a1 (HO.tup [V.ty "list", V.ty "tuple"]) = Ga1 at Xa1 ha1 ⊢
    rcases hJ with ⟨p, xs, rs, rfl, hp, lx, hx, hr⟩ | ⟨t, ty, kt, hr⟩
    · have hp0 : SqA H p xs := hp.imp (X0 _ _) (X0 _ _)
      have hp1 : SqA Ga1 p xs := hp0.imp (Xa1 _ _) (Xa1 _ _)
      have ty : ∃ t, TyX K Ga1 (.ref p) t ∧ PySem.W.kitAny K t [.type "list", .type "tuple"] = some true := by
        rcases hp1 with h | h
        · exact ⟨_, .base (.lst h), kitAny_cons (b := true) (kit_ty (by decide +kernel)) (fun z => nomatch z) (fun _ => rfl)⟩
        · exact ⟨_, .base (.tup h), kitAny_cons (b := false) (kit_ty (by decide +kernel)) (fun _ => kitAny_cons (b := true) (kit_ty (by decide +kernel)) (fun z => nomatch z) (fun _ => rfl)) (by decide)⟩
      obtain ⟨t, ty, kt⟩ := ty
      refine ⟨.ref p, a1, _, t, _, true, rfl, ha1, .cons (.ty "list") (.cons (.ty "tuple") .nil), ty, kt, true, rfl, iteT ?_⟩
      have lenv : LenV K (.ref p) Ga1 xs.length := hp1.elim (fun z => .inl ⟨_, sq_lst z, rfl⟩) (fun z => .inr ⟨_, sq_tup z, rfl⟩)
      have lr := Paired.length hx
      refine ⟨_, rfl, _, _, rfl, lenv, ?_⟩
      refine ⟨_, _, rfl, rfl, _, _, rfl, fun h0 => ?_, fun h0 => ?_⟩
      · have h0 := of_decide_eq_true h0
        refine ⟨_, rfl, _, rfl, ?_⟩
        show sp_Card_init K [.ref a, .ref p] Ga1 _ _
        refine card_init_ok T (Xa1 _ _ ha) na0 (X0.trans Xa1) T.c_Join T.a_Join_held T.a_Join_weight hp1 lx hx (fun cs as e hw ex hA hd H' O nh hh h' => ?_) fun he H' O => ?_
        · subst ex
          refine q cs (hr.trans e) (fun z => ?_) hw p as hd H' rfl hp hA ((ex_oth Xa1).trans O) nh hh h'
          rw [List.length_map, hA.len, z] at h0
          exact absurd h0 (by decide)
        · exact qe (fun cs e => .inr (he cs (hr.symm.trans e))) H' ((ex_oth Xa1).trans O)
      · have h0 := of_decide_eq_false h0
        refine qe (fun cs e => .inl ?_) _ (ex_oth Xa1)
        obtain ⟨as, ex, hA⟩ := CdXs.all hx (hr.symm.trans e)
        rw [ex, List.length_map, hA.len] at h0
        cases cs with
        | nil => rfl
        | cons c cs =>
          rw [List.length_cons] at h0
          omega
    · refine ⟨x, a1, _, t, _, false, rfl, ha1, .cons (.ty "list") (.cons (.ty "tuple") .nil), tyX_mono (X0.trans Xa1) ty, kt, false, rfl, iteF ?_⟩
      refine ⟨_, _, rfl, nofun, fun _ => qe (fun cs e => ?_) _ (ex_oth Xa1)⟩
      rw [hr] at e
      cases e
theorem ref_inj : ∀ {as bs : List Addr}, as.map V.ref = bs.map V.ref → as = bs
  | [], [], _ => rfl
  | [], b :: bs, h => nomatch h
  | a :: as, [], h => nomatch h
  | a :: as, b :: bs, h => by
    rw [List.map_cons, List.map_cons] at h
    injection h with h1 h2
    injection h1 with h1
    rw [h1, ref_inj h2]
theorem sqA_inj {H : Hp} {p : Addr} {xs ys : List V} (a : SqA H p xs) (b : SqA H p ys) : xs = ys := by
  rcases a with a | a <;> rcases b with b | b <;> rw [a] at b <;> cases b
  · rfl
  · rfl
theorem join_new {K : PySem.W.Frag} {H : Hp} {x dx p : Addr} {as : List Addr} {cs : List CardD} {Q : VK} {E : XK} (nx : H x = none) (nd : H dx = none) (ne : dx ≠ x) (hp : SqA H p (as.map V.ref)) (hA : CardsAt K H cs as) (hn : cs ≠ []) (hw : wtL cs < 60)
    (q : ∀ hd H', Ex H H' → H hd = none → H' hd = some (.lst (as.map V.ref)) → H' x = some (.ins (He.ga K "Join") dx (cdF hd (1 + wtL cs) [])) → CardAt K H' (.join cs) x → Q .non H') :
    sp_Join_init K [.ref x, .ref p] (upd (upd H dx (.own x)) x (.ins (He.ga K "Join") dx [])) Q E := by
  have X1 := ex_made (o1 := .own x) (o2 := .ins (He.ga K "Join") dx []) nx nd ne
  have ll := wtL_len cs
  refine ⟨x, dx, _, H, some cs, rfl, upd_same, nx, X1, .inl ⟨p, _, cs.map some, rfl, hp, by rw [List.length_map, hA.len]; omega, CdXs.of hA, (allO_some cs).symm⟩, fun cs' e n' w' p' as' hd H' ep hs hA' O nh hh h' => ?_, fun h => ?_⟩
  · cases e
    cases ep
    obtain rfl := ref_inj (sqA_inj hs hp)
    have X := Oth.ex X1 nx O
    exact q hd H' X nh hh h' (by unfold CardAt; exact ⟨dx, hd, as', h', hh, hA'.mono X⟩)
  · rcases h cs rfl with h | h
    · exact absurd h hn
    · omega
theorem ok_Join_init {P : Program} {w : World} {K : PySem.W.Frag} {mg : Str → Option Value} {base : Heap} (T : Env K mg) : Fc P w K mg base 3 (He.ma K (He.ga K "Join") "__init__") [] (sp_Join_init K ) := by
  obtain ⟨fd, D, F⟩ := fb_Join_init T
  exact F.all (D.bindsN fun _ _ _ _ _ _ us hl => match us, hl with | [_, _], _ => rfl)
end
section
theorem fb_Join_notes_at {P : Program} {w : World} {K : PySem.W.Frag} {mg : Str → Option Value} {base : Heap} (T : Env K mg) {d L : Nat} (hL : 40 ≤ L) (r_Join_notes_at : Fc P w K mg base L (He.ma K (He.ga K "Join") "notes_at") [] (sp_Join_notes_at K d)) (r_Less_notes_at : Fc P w K mg base L (He.ma K (He.ga K "Less") "notes_at") [] (sp_Less_notes_at K d)) (r_Swap_notes_at : Fc P w K mg base L (He.ma K (He.ga K "Swap") "notes_at") [] (sp_Swap_notes_at K d)) (r_Later_notes_at : Fc P w K mg base L (He.ma K (He.ga K "Later") "notes_at") [] (sp_Later_notes_at K d)) (r_Noted_notes_at : Fc P w K mg base L (He.ma K (He.ga K "Noted") "notes_at") [] (sp_Noted_notes_at K d)) : ∃ fd, FunD K "notes_at" "Join.notes_at" (defArgs s_Join_notes_at) (defBody s_Join_notes_at) (defScope s_Join_notes_at) [] [] (He.ma K (He.ga K "Join") "notes_at") fd ∧ Fb P w K mg base (L + 1) (He.ma K (He.ga K "Join") "notes_at") fd ["self", "moment"] (sp_Join_notes_at K (d + 1)) := by
  obtain ⟨fd, F⟩ := T.f_Join_notes_at
  refine ⟨fd, F, fb_of F sc_Join_notes_at (fun vs H Q E h => ?_) (fun cdv A outer s H vs Q E hr h => ?_)⟩
  · obtain ⟨a, cs, n, rfl, _⟩ := h
    rfl
  · obtain ⟨a, cs, n, rfl, hA, hw, hk, q⟩ := h
    have F : NtF P w K mg base L d := {
      card := (ok_Card_notes_at T).mono (by omega)
      once := (ok_Once_notes_at T).mono (by omega)
      every := (ok_Every_notes_at T).mono (by omega)
      join := r_Join_notes_at
      less := r_Less_notes_at
      swap := r_Swap_notes_at
      later := r_Later_notes_at
      noted := r_Noted_notes_at
    }
    refine ⟨_, (pss_cons (ps_set (i := 2) sc_Join_notes_at.nd rfl (Or.inl rfl) pe_non)
      (pss_cons (ps_for (passes_of rfl) rfl (pi_list (pe_fld (pv 0) (by rfl))) (pg_name (i := 3) sc_Join_notes_at.nd rfl (Or.inl rfl))
      (pss_cons (ps_set (i := 4) sc_Join_notes_at.nd rfl (Or.inl rfl) (c_methV (k := L) (pv 3) (hr.mono (by omega)) takes0 (pa_cons (pv 1) pa_nil)))
      (pss_one (ps_if (pt_cmpR op_notN (pv 4) pe_non (nomark _))
      (pss_one (ps_set (i := 2) sc_Join_notes_at.nd rfl (Or.inl rfl) (c_call (ok_notes_together T) (hr.mono (by omega)) T.g_notes_together T.k_notes_together takes0 (pa_cons (pv 2) (pa_cons (pv 4) pa_nil)))))
      pss_nil))))
      (pss_one (ps_ret (pv 2))))), ?_⟩
    unfold CardAt at hA
    obtain ⟨dx, hd, as, h1, h2, h3⟩ := hA
    unfold CardD.nts at q
    unfold CardD.wt at hw
    unfold CardD.ok at hk
    obtain ⟨hk, hl, hne⟩ := hk
    refine ⟨_, rfl, ?_⟩
    have hwi : ∀ c' ∈ cs, c'.wt ≤ d := fun c' h => by
      have := wtL_mem h
      omega
    have hks : ∀ c' ∈ cs, c'.ok := fun c' h => okCs_mem hk h
    refine ⟨_, _, _, _, _, rfl, h1, T.c_Join, T.a_Join_held, rfl, _, rfl, ⟨_, (sq_lst h2)⟩, for_on as V.ref L2.walk_list (fun i σ G => Ex H G ∧ ∃ f x v1 v2, σ = [some (.ref a), some (.int (n : Nat)), some x, v1, v2] ∧ NtAt G x f ∧ (∀ u, f = some u → Nms u ∧ u.Nodup ∧ u.length ≤ 16 * wtL (cs.take i)) ∧ ntsL cs none n = ntsL (cs.drop i) f n) ⟨.refl _, none, _, _, _, rfl, rfl, nofun, rfl⟩ (fun i σ G z => sq_lst (z.1 _ _ h2)) ?_ ?_⟩
    · rintro i b σ G hb ⟨XG, f, x, v1, v2, rfl, hx, hf, e⟩
      obtain ⟨c', ec, hc⟩ := h3.get hb
      have cm := List.mem_of_getElem? ec
      have ed : cs.drop i = c' :: cs.drop (i + 1) := by
        obtain ⟨hi, e⟩ := List.getElem?_eq_some_iff.mp ec
        rw [List.drop_eq_getElem_cons hi, e]
      have es : wtL (cs.take (i + 1)) = wtL (cs.take i) + c'.wt := by
        rw [take_snoc ec, wtL_snoc]
      have el : wtL (cs.take (i + 1)) ≤ wtL cs := wtL_take _ _
      rw [ed, ntsL_cons] at e
      obtain ⟨C, dy, fs, fn, g1, cC, hm, lk, sp, F1, hsp⟩ := v_notes T F (hc.mono XG)
      refine ⟨_, rfl, b, C, dy, fs, fn, rfl, g1, cC, hm, lk, _, rfl, sp, F1, hsp _ _ _ _ (hc.mono XG) (hwi _ cm) (hks _ cm) fun z H2 X2 hz => ?_⟩
      refine ⟨_, rfl, rfl, _, rfl, ?_⟩
      cases hn : c'.nts n with
      | none =>
        rw [hn] at hz e
        obtain rfl : z = .non := hz
        refine iteF ?_
        exact ⟨XG.trans X2, f, x, _, _, rfl, hx.mono X2, fun u eu => (by obtain ⟨a1, a2, a3⟩ := hf u eu; exact ⟨a1, a2, by omega⟩), e⟩
      | some ws =>
        rw [hn] at hz e
        obtain ⟨p, rfl, hp⟩ := hz
        have nk := c'.nts_ok n ws (hks _ cm) hn
        refine iteT ⟨_, rfl, _, rfl, x, f, p, ws, rfl, hx.mono X2, fun u eu => (by have := (hf u eu).2.2; omega), hp, by have := nk.2.2; omega, fun y H3 X3 hy => ?_⟩
        refine ⟨(XG.trans X2).trans X3, some (togN f ws), y, _, _, rfl, hy, fun u eu => ?_, e⟩
        cases eu
        have t := tog_ok hf nk
        exact ⟨t.1, t.2.1, by omega⟩
    · rintro σ G ⟨XG, f, x, v1, v2, rfl, hx, hf, e⟩
      rw [h3.len, List.drop_length] at e
      refine ⟨_, rfl, ?_⟩
      rw [e] at q
      exact q x G XG hx
theorem ok_Join_notes_at {P : Program} {w : World} {K : PySem.W.Frag} {mg : Str → Option Value} {base : Heap} (T : Env K mg) {d L : Nat} (hL : 40 ≤ L) (r_Join_notes_at : Fc P w K mg base L (He.ma K (He.ga K "Join") "notes_at") [] (sp_Join_notes_at K d)) (r_Less_notes_at : Fc P w K mg base L (He.ma K (He.ga K "Less") "notes_at") [] (sp_Less_notes_at K d)) (r_Swap_notes_at : Fc P w K mg base L (He.ma K (He.ga K "Swap") "notes_at") [] (sp_Swap_notes_at K d)) (r_Later_notes_at : Fc P w K mg base L (He.ma K (He.ga K "Later") "notes_at") [] (sp_Later_notes_at K d)) (r_Noted_notes_at : Fc P w K mg base L (He.ma K (He.ga K "Noted") "notes_at") [] (sp_Noted_notes_at K d)) : Fc P w K mg base (L + 1) (He.ma K (He.ga K "Join") "notes_at") [] (sp_Join_notes_at K (d + 1)) := by
  obtain ⟨fd, D, F⟩ := fb_Join_notes_at T hL r_Join_notes_at r_Less_notes_at r_Swap_notes_at r_Later_notes_at r_Noted_notes_at
  exact F.all (D.bindsN fun _ _ _ _ _ _ us hl => match us, hl with | [_, _], _ => rfl)
end
section
def sp_Less_init (K : PySem.W.Frag) : Sp := fun vs H Q E => ∃ (a dx : Addr) (x y : V) (H0 : Hp) (r1 r2 : Option CardD), vs = [.ref a, x, y] ∧ H a = some (.ins (He.ga K "Less") dx []) ∧ H0 a = none ∧ Ex H0 H ∧ CdX K H0 x r1 ∧ CdX K H0 y r2 ∧
  (∀ c d, r1 = some c → r2 = some d → c.wt + d.wt < 60 → ∀ hd H', Oth a H H' → H0 hd = none → H' hd = some (.lst [x, y]) → H' a = some (.ins (He.ga K "Less") dx (cdF hd (1 + (c.wt + d.wt)) [])) → CardAt K H' (.less c d) a → Q .non H') ∧
  ((∀ c d, r1 = some c → r2 = some d → 60 ≤ c.wt + d.wt) → ∀ H', Oth a H H' → E (.ref (He.ga K "NoCard")) none H')
theorem fb_Less_init {P : Program} {w : World} {K : PySem.W.Frag} {mg : Str → Option Value} {base : Heap} (T : Env K mg) : ∃ fd, FunD K "__init__" "Less.__init__" (defArgs s_Less_init) (defBody s_Less_init) (defScope s_Less_init) [] [] (He.ma K (He.ga K "Less") "__init__") fd ∧ Fb P w K mg base 3 (He.ma K (He.ga K "Less") "__init__") fd ["self", "one", "other"] (sp_Less_init K) := by
  obtain ⟨fd, F⟩ := T.f_Less_init
  refine ⟨fd, F, fb_of F sc_Less_init (fun vs H Q E h => ?_) (fun cdv A outer s H vs Q E hr h => ?_)⟩
  · obtain ⟨a, dx, x, y, H0, r1, r2, rfl, _⟩ := h
    rfl
  · obtain ⟨a, dx, x, y, H0, r1, r2, rfl, ha, na0, X0, h1, h2, q, qe⟩ := h
    refine ⟨_, (pss_one (ps_expr (c_clsm T.cm_Card (ok_Card_init T) (hr.mono (by decide)) T.g_Card (takes_of rfl rfl rfl rfl) (pa_cons (pv 0) (pa_cons (pe_lst (pa_cons (pv 1) (pa_cons (pv 2) pa_nil))) pa_nil))))), ?_⟩
    refine ⟨_, rfl, _, rfl, _, rfl, (by show 2 ≤ sizeLine; decide), ?_⟩
    intro a1 na1
    have Xa1 := ex_new (o := HO.lst [x, y]) na1
    have ha1 : upd H a1 (HO.lst [x, y]) a1 = some (HO.lst [x, y]) := upd_same
    generalize upd H a1 (HO.lst [x, y]) = Ga1 at Xa1 ha1 ⊢
    have na1' : a ≠ a1 := ne_of_none ha na1
    refine card_init_ok T (rs := [r1, r2]) (Xa1 _ _ ha) na0 (X0.trans Xa1) T.c_Less T.a_Less_held T.a_Less_weight (.inl ha1) (by show 2 ≤ 1000; decide) (.cons h1 (.cons h2 .nil)) (fun cs as e hw ex hA hd H' O nh hh h' => ?_) fun he H' O => ?_
    · cases r1 with
      | none => cases e
      | some c =>
        cases r2 with
        | none => cases e
        | some d =>
          cases e
          obtain ⟨b, rfl, hb⟩ := h1
          obtain ⟨e, rfl, he⟩ := h2
          have O' := (ex_oth Xa1).trans O
          have X := Oth.ex X0 na0 O'
          refine q c d rfl rfl ?_ hd H' O' nh hh h' ?_
          · have hw' : c.wt + (d.wt + 0) < 60 := hw
            omega
          · unfold CardAt
            exact ⟨dx, hd, b, e, h', hh, hb.mono X, he.mono X⟩
    · refine qe (fun c d e1 e2 => ?_) H' ((ex_oth Xa1).trans O)
      subst e1 e2
      exact he [c, d] rfl
theorem less_new {K : PySem.W.Frag} {H : Hp} {x dx b e : Addr} {c d : CardD} {Q : VK} {E : XK} (nx : H x = none) (nd : H dx = none) (ne : dx ≠ x) (hb : CardAt K H c b) (he : CardAt K H d e) (hw : c.wt + d.wt < 60) (q : ∀ hd H', Ex H H' → H hd = none → H' hd = some (.lst [.ref b, .ref e]) → H' x = some (.ins (He.ga K "Less") dx (cdF hd (1 + (c.wt + d.wt)) [])) → CardAt K H' (.less c d) x → Q .non H') :
    sp_Less_init K [.ref x, .ref b, .ref e] (upd (upd H dx (.own x)) x (.ins (He.ga K "Less") dx [])) Q E := by
  have X1 := ex_made (o1 := .own x) (o2 := .ins (He.ga K "Less") dx []) nx nd ne
  refine ⟨x, dx, _, _, H, some c, some d, rfl, upd_same, nx, X1, ⟨b, rfl, hb⟩, ⟨e, rfl, he⟩, fun c' d' e1 e2 _ hd H' O nh hh h' hA => ?_, fun h => ?_⟩
  · cases e1
    cases e2
    exact q hd H' (Oth.ex X1 nx O) nh hh h' hA
  · have := h c d rfl rfl
    omega
theorem ok_Less_init {P : Program} {w : World} {K : PySem.W.Frag} {mg : Str → Option Value} {base : Heap} (T : Env K mg) : Fc P w K mg base 3 (He.ma K (He.ga K "Less") "__init__") [] (sp_Less_init K ) := by
  obtain ⟨fd, D, F⟩ := fb_Less_init T
  exact F.all (D.bindsN fun _ _ _ _ _ _ us hl => match us, hl with | [_, _, _], _ => rfl)
end
section
theorem fb_Less_notes_at {P : Program} {w : World} {K : PySem.W.Frag} {mg : Str → Option Value} {base : Heap} (T : Env K mg) {d L : Nat} (hL : 40 ≤ L) (r_Join_notes_at : Fc P w K mg base L (He.ma K (He.ga K "Join") "notes_at") [] (sp_Join_notes_at K d)) (r_Less_notes_at : Fc P w K mg base L (He.ma K (He.ga K "Less") "notes_at") [] (sp_Less_notes_at K d)) (r_Swap_notes_at : Fc P w K mg base L (He.ma K (He.ga K "Swap") "notes_at") [] (sp_Swap_notes_at K d)) (r_Later_notes_at : Fc P w K mg base L (He.ma K (He.ga K "Later") "notes_at") [] (sp_Later_notes_at K d)) (r_Noted_notes_at : Fc P w K mg base L (He.ma K (He.ga K "Noted") "notes_at") [] (sp_Noted_notes_at K d)) : ∃ fd, FunD K "notes_at" "Less.notes_at" (defArgs s_Less_notes_at) (defBody s_Less_notes_at) (defScope s_Less_notes_at) [] [] (He.ma K (He.ga K "Less") "notes_at") fd ∧ Fb P w K mg base (L + 1) (He.ma K (He.ga K "Less") "notes_at") fd ["self", "moment"] (sp_Less_notes_at K (d + 1)) := by
  obtain ⟨fd, F⟩ := T.f_Less_notes_at
  refine ⟨fd, F, fb_of F sc_Less_notes_at (fun vs H Q E h => ?_) (fun cdv A outer s H vs Q E hr h => ?_)⟩
  · obtain ⟨a, c, d0, n, rfl, _⟩ := h
    rfl
  · obtain ⟨a, c, d0, n, rfl, hA, hw, hk, q⟩ := h
    have F : NtF P w K mg base L d := {
      card := (ok_Card_notes_at T).mono (by omega)
      once := (ok_Once_notes_at T).mono (by omega)
      every := (ok_Every_notes_at T).mono (by omega)
      join := r_Join_notes_at
      less := r_Less_notes_at
      swap := r_Swap_notes_at
      later := r_Later_notes_at
      noted := r_Noted_notes_at
    }
    refine ⟨_, (pss_cons (ps_asg (pe_fld (pv 0) (by rfl)) (pg_lst (by rfl) (pgs_cons (pg_name (i := 2) sc_Less_notes_at.nd rfl (Or.inl rfl)) (pgs_cons (pg_name (i := 3) sc_Less_notes_at.nd rfl (Or.inl rfl)) pgs_nil))))
      (pss_one (ps_ret (pe_ifExp (pt_cmpR op_isN (c_methV (k := L) (pv 3) (hr.mono (by omega)) takes0 (pa_cons (pv 1) pa_nil)) pe_non (nomark _)) (c_methV (k := L) (pv 2) (hr.mono (by omega)) takes0 (pa_cons (pv 1) pa_nil)) pe_non)))), ?_⟩
    unfold CardAt at hA
    obtain ⟨dx, hd, b, e, h1, h2, h3, h4⟩ := hA
    unfold CardD.nts at q
    unfold CardD.wt at hw
    unfold CardD.ok at hk
    refine ⟨_, rfl, _, _, _, _, _, rfl, h1, T.c_Less, T.a_Less_held, rfl, _, _, rfl, (sq_lst h2), rfl, _, _, rfl, _, _, rfl, rfl, _, rfl, ?_⟩
    obtain ⟨C, dy, fs, fn, g1, cC, hm, lk, sp, F1, hsp⟩ := v_notes T F h4
    refine ⟨e, C, dy, fs, fn, rfl, g1, cC, hm, lk, _, rfl, sp, F1, hsp _ _ _ _ h4 (by omega) hk.2 fun z H2 X2 hz => ?_⟩
    refine ⟨rfl, _, rfl, ?_⟩
    cases hn : d0.nts n with
    | none =>
      rw [hn] at hz q
      obtain rfl : z = .non := hz
      refine iteT ?_
      obtain ⟨C, dy, fs, fn, g1, cC, hm, lk, sp, F1, hsp⟩ := v_notes T F (h3.mono X2)
      exact ⟨_, rfl, b, C, dy, fs, fn, rfl, g1, cC, hm, lk, _, rfl, sp, F1, hsp _ _ _ _ (h3.mono X2) (by omega) hk.1 fun z H3 X3 hz => q z H3 (X2.trans X3) hz⟩
    | some ws =>
      rw [hn] at hz q
      obtain ⟨p, rfl, hp⟩ := hz
      exact iteF (q _ _ X2 rfl)
theorem ok_Less_notes_at {P : Program} {w : World} {K : PySem.W.Frag} {mg : Str → Option Value} {base : Heap} (T : Env K mg) {d L : Nat} (hL : 40 ≤ L) (r_Join_notes_at : Fc P w K mg base L (He.ma K (He.ga K "Join") "notes_at") [] (sp_Join_notes_at K d)) (r_Less_notes_at : Fc P w K mg base L (He.ma K (He.ga K "Less") "notes_at") [] (sp_Less_notes_at K d)) (r_Swap_notes_at : Fc P w K mg base L (He.ma K (He.ga K "Swap") "notes_at") [] (sp_Swap_notes_at K d)) (r_Later_notes_at : Fc P w K mg base L (He.ma K (He.ga K "Later") "notes_at") [] (sp_Later_notes_at K d)) (r_Noted_notes_at : Fc P w K mg base L (He.ma K (He.ga K "Noted") "notes_at") [] (sp_Noted_notes_at K d)) : Fc P w K mg base (L + 1) (He.ma K (He.ga K "Less") "notes_at") [] (sp_Less_notes_at K (d + 1)) := by
  obtain ⟨fd, D, F⟩ := fb_Less_notes_at T hL r_Join_notes_at r_Less_notes_at r_Swap_notes_at r_Later_notes_at r_Noted_notes_at
  exact F.all (D.bindsN fun _ _ _ _ _ _ us hl => match us, hl with | [_, _], _ => rfl)
end
section
def sp_Swap_init (K : PySem.W.Frag) : Sp := fun vs H Q E => ∃ (a dx : Addr) (x z y : V) (H0 : Hp) (r1 r2 : Option CardD) (rd : Option DaysD), vs = [.ref a, x, z, y] ∧ H a = some (.ins (He.ga K "Swap") dx []) ∧ H0 a = none ∧ Ex H0 H ∧ DyIs K H0 z rd ∧ (rd.isSome = true → CdX K H0 x r1 ∧ CdX K H0 y r2) ∧
  (∀ c d D, r1 = some c → r2 = some d → rd = some D → c.wt + d.wt < 60 → ∀ hd H', Oth a H H' → H0 hd = none → H' hd = some (.lst [x, y]) → H' a = some (.ins (He.ga K "Swap") dx (cdF hd (1 + (c.wt + d.wt)) [("days", z)])) → CardAt K H' (.swap c D d) a → Q .non H') ∧
  ((∀ c d D, r1 = some c → r2 = some d → rd = some D → 60 ≤ c.wt + d.wt) → ∀ H', Oth a H H' → E (.ref (He.ga K "NoCard")) none H')
theorem fb_Swap_init {P : Program} {w : World} {K : PySem.W.Frag} {mg : Str → Option Value} {base : Heap} (T : Env K mg) : ∃ fd, FunD K "__init__" "Swap.__init__" (defArgs s_Swap_init) (defBody s_Swap_init) (defScope s_Swap_init) [] [] (He.ma K (He.ga K "Swap") "__init__") fd ∧ Fb P w K mg base 3 (He.ma K (He.ga K "Swap") "__init__") fd ["self", "one", "days", "other"] (sp_Swap_init K) := by
  obtain ⟨fd, F⟩ := T.f_Swap_init
  refine ⟨fd, F, fb_of F sc_Swap_init (fun vs H Q E h => ?_) (fun cdv A outer s H vs Q E hr h => ?_)⟩
  · obtain ⟨a, dx, x, z, y, H0, r1, r2, rd, rfl, _⟩ := h
    rfl
  · obtain ⟨a, dx, x, z, y, H0, r1, r2, rd, rfl, ha, na0, X0, hd, h12, q, qe⟩ := h
    refine ⟨_, (pss_cons (ps_expr (c_call (ok_want T) (hr.mono (by decide)) T.g_want T.k_want (takes_of rfl rfl rfl rfl) (pa_cons (pe_callB call_isi (by rfl) T.n_isinstance (by decide +kernel) (pa_cons (pv 2) (pa_cons (pe_glob (v := .ref _) (by rfl) T.g_Days rfl) pa_nil))) (pa_cons pe_str pa_nil))))
      (pss_cons (ps_expr (c_clsm T.cm_Card (ok_Card_init T) (hr.mono (by decide)) T.g_Card (takes_of rfl rfl rfl rfl) (pa_cons (pv 0) (pa_cons (pe_lst (pa_cons (pv 1) (pa_cons (pv 3) pa_nil))) pa_nil))))
      (pss_one (ps_fld (pv 0) (pv 2) rfl)))), ?_⟩
    obtain ⟨t, b, ty, kt, hb⟩ : ∃ t b, TyX K H z t ∧ PySem.W.kitOne K t (.ref (DaysC K)) = some b ∧ (b = true → rd.isSome = true) ∧ (b = false → rd = none) := by
      have hd1 := hd.mono X0
      cases rd with
      | none =>
        obtain ⟨t, ty, k⟩ := hd1
        exact ⟨t, false, ty, k, nofun, fun _ => rfl⟩
      | some D =>
        obtain ⟨s, rfl, ⟨dr, r1, po, pa, k1, _⟩, _⟩ := hd1
        exact ⟨_, true, ty_ins T.i_Days T.c_Days k1, T.kit_Days_Days, fun _ => rfl, nofun⟩
    refine ⟨_, rfl, z, _, t, _, b, rfl, .own _, ty, kt, b, _, rfl, fun eb => ?_, fun eb => qe (fun c d D _ _ e => by rw [hb.2 eb] at e; cases e) H (.refl _ _)⟩
    obtain ⟨D, rfl⟩ := Option.isSome_iff_exists.mp (hb.1 eb)
    obtain ⟨rz, rfl, hD, hDo⟩ := hd
    clear hb kt ty
    obtain ⟨h1, h2⟩ := h12 rfl
    refine ⟨_, rfl, _, rfl, _, rfl, (by show 2 ≤ sizeLine; decide), ?_⟩
    intro a1 na1
    have Xa1 := ex_new (o := HO.lst [x, y]) na1
    have ha1 : upd H a1 (HO.lst [x, y]) a1 = some (HO.lst [x, y]) := upd_same
    generalize upd H a1 (HO.lst [x, y]) = Ga1 at Xa1 ha1 ⊢
    unfold tNil
    show sp_Card_init K [.ref a, .ref a1] Ga1 _ _
    refine card_init_ok T (rs := [r1, r2]) (Xa1 _ _ ha) na0 (X0.trans Xa1) T.c_Swap T.a_Swap_held T.a_Swap_weight (.inl ha1) (by show 2 ≤ 1000; decide) (.cons h1 (.cons h2 .nil)) (fun cs as e hw ex hA hd H' O nh hh h' => ?_) fun he H' O => ?_
    · cases r1 with
      | none => cases e
      | some c =>
        cases r2 with
        | none => cases e
        | some d =>
          cases e
          obtain ⟨b, rfl, hb⟩ := h1
          obtain ⟨e, rfl, he⟩ := h2
          have O' := (ex_oth Xa1).trans O
          refine ⟨_, rfl, _, rfl, a, _, dx, _, rfl, h', T.c_Swap, T.a_Swap_days, by show 2 < 1000; decide, ?_⟩
          have dh : hd ≠ a := fun z => by rw [z, h'] at hh; cases hh
          have O2 : Oth a H (upd H' a (.ins (He.ga K "Swap") dx (putF "days" (.ref rz) (cdF hd (1 + wtL [c, d]) [])))) := O'.upd
          have X := Oth.ex X0 na0 O2
          refine q c d D rfl rfl rfl ?_ hd _ O2 nh (by rw [upd_ne dh]; exact hh) upd_same ?_
          · have hw' : c.wt + (d.wt + 0) < 60 := hw
            omega
          · unfold CardAt
            exact ⟨dx, hd, b, e, rz, upd_same, by rw [upd_ne dh]; exact hh, hb.mono X, he.mono X, hD.mono X⟩
    · refine qe (fun c d D e1 e2 _ => ?_) H' ((ex_oth Xa1).trans O)
      subst e1 e2
      exact he [c, d] rfl
theorem swap_new {K : PySem.W.Frag} {H : Hp} {x dx b r e : Addr} {c d : CardD} {D : DaysD} {Q : VK} {E : XK} (nx : H x = none) (nd : H dx = none) (ne : dx ≠ x) (hb : CardAt K H c b) (hr : DaysAt K H r D) (hD : D.ok) (he : CardAt K H d e) (hw : c.wt + d.wt < 60) (q : ∀ hd H', Ex H H' → H hd = none → H' hd = some (.lst [.ref b, .ref e]) → H' x = some (.ins (He.ga K "Swap") dx (cdF hd (1 + (c.wt + d.wt)) [("days", .ref r)])) → CardAt K H' (.swap c D d) x → Q .non H') :
    sp_Swap_init K [.ref x, .ref b, .ref r, .ref e] (upd (upd H dx (.own x)) x (.ins (He.ga K "Swap") dx [])) Q E := by
  have X1 := ex_made (o1 := .own x) (o2 := .ins (He.ga K "Swap") dx []) nx nd ne
  refine ⟨x, dx, _, _, _, H, some c, some d, some D, rfl, upd_same, nx, X1, ⟨r, rfl, hr, hD⟩, fun _ => ⟨⟨b, rfl, hb⟩, ⟨e, rfl, he⟩⟩, fun c' d' D' e1 e2 e3 _ hd H' O nh hh h' hA => ?_, fun h => ?_⟩
  · cases e1
    cases e2
    cases e3
    exact q hd H' (Oth.ex X1 nx O) nh hh h' hA
  · have := h c d D rfl rfl rfl
    omega
theorem ok_Swap_init {P : Program} {w : World} {K : PySem.W.Frag} {mg : Str → Option Value} {base : Heap} (T : Env K mg) : Fc P w K mg base 3 (He.ma K (He.ga K "Swap") "__init__") [] (sp_Swap_init K ) := by
  obtain ⟨fd, D, F⟩ := fb_Swap_init T
  exact F.all (D.bindsN fun _ _ _ _ _ _ us hl => match us, hl with | [_, _, _, _], _ => rfl)
end
section
theorem fb_Swap_notes_at {P : Program} {w : World} {K : PySem.W.Frag} {mg : Str → Option Value} {base : Heap} (T : Env K mg) {d L : Nat} (hL : 40 ≤ L) (r_Join_notes_at : Fc P w K mg base L (He.ma K (He.ga K "Join") "notes_at") [] (sp_Join_notes_at K d)) (r_Less_notes_at : Fc P w K mg base L (He.ma K (He.ga K "Less") "notes_at") [] (sp_Less_notes_at K d)) (r_Swap_notes_at : Fc P w K mg base L (He.ma K (He.ga K "Swap") "notes_at") [] (sp_Swap_notes_at K d)) (r_Later_notes_at : Fc P w K mg base L (He.ma K (He.ga K "Later") "notes_at") [] (sp_Later_notes_at K d)) (r_Noted_notes_at : Fc P w K mg base L (He.ma K (He.ga K "Noted") "notes_at") [] (sp_Noted_notes_at K d)) : ∃ fd, FunD K "notes_at" "Swap.notes_at" (defArgs s_Swap_notes_at) (defBody s_Swap_notes_at) (defScope s_Swap_notes_at) [] [] (He.ma K (He.ga K "Swap") "notes_at") fd ∧ Fb P w K mg base (L + 1) (He.ma K (He.ga K "Swap") "notes_at") fd ["self", "moment"] (sp_Swap_notes_at K (d + 1)) := by
  obtain ⟨fd, F⟩ := T.f_Swap_notes_at
  refine ⟨fd, F, fb_of F sc_Swap_notes_at (fun vs H Q E h => ?_) (fun cdv A outer s H vs Q E hr h => ?_)⟩
  · obtain ⟨a, c, D, d0, n, rfl, _⟩ := h
    rfl
  · obtain ⟨a, c, D, d0, n, rfl, hA, hw, hk, q⟩ := h
    have F : NtF P w K mg base L d := {
      card := (ok_Card_notes_at T).mono (by omega)
      once := (ok_Once_notes_at T).mono (by omega)
      every := (ok_Every_notes_at T).mono (by omega)
      join := r_Join_notes_at
      less := r_Less_notes_at
      swap := r_Swap_notes_at
      later := r_Later_notes_at
      noted := r_Noted_notes_at
    }
    refine ⟨_, (pss_one (ps_ret (c_methV (k := L) (pe_ix ix_list (pe_fld (pv 0) (by rfl)) (pe_callTy call_int1 (by rfl) T.n_int (by decide +kernel) (pa_cons (c_meth (pe_fld (pv 0) (by rfl)) T.c_Days T.m_Days_has (ok_Days_has T) (hr.mono (by omega)) takes0 (pa_cons (pe_op op_fdiv (pv 1) (pe_k T.v_DAY)) pa_nil)) pa_nil)) (fun _ _ => rfl)) (hr.mono (by omega)) takes0 (pa_cons (pv 1) pa_nil)))), ?_⟩
    unfold CardAt at hA
    obtain ⟨dx, hd, b, e, r, h1, h2, h3, h4, h5⟩ := hA
    unfold CardD.nts at q
    unfold CardD.wt at hw
    unfold CardD.ok at hk
    refine ⟨_, rfl, _, _, _, _, _, rfl, h1, T.c_Swap, T.a_Swap_held, rfl, _, rfl, _, _, _, _, _, rfl, h1, T.c_Swap, T.a_Swap_days, rfl, ?_⟩
    obtain ⟨dr, r1, po, pa, k1, _⟩ := id h5
    refine ⟨r, dr, _, rfl, k1, rfl, ?_⟩
    refine ⟨_, rfl, _, _, rfl, rfl, ⟨(by decide), (by decide)⟩, _, _, _, rfl, h5, ?_⟩
    have ev : (fun i j : Int => V.int (i / j)) (n : Int) 1440 = V.int ((n / 1440 : Nat) : Int) := congrArg V.int (by omega)
    rw [ev]
    refine ⟨hk.2.1, cl_int _, fun d' ed => ?_, isM_no⟩
    obtain rfl : d' = n / 1440 := by injection ed with ed; omega
    refine .inr ⟨_, rfl, ?_⟩
    cases hh : dHas D (n / 1440) with
    | true =>
      rw [hh, if_pos rfl] at q
      refine ⟨_, _, _, _, rfl, rfl, (sq_lst h2), rfl, ?_⟩
      obtain ⟨C, dy, fs, fn, g1, cC, hm, lk, sp, F1, hsp⟩ := v_notes T F h4
      exact ⟨e, C, dy, fs, fn, rfl, g1, cC, hm, lk, _, rfl, sp, F1, hsp _ _ _ _ h4 (by omega) hk.2.2 q⟩
    | false =>
      rw [hh, if_neg (by decide)] at q
      refine ⟨_, _, _, _, rfl, rfl, (sq_lst h2), rfl, ?_⟩
      obtain ⟨C, dy, fs, fn, g1, cC, hm, lk, sp, F1, hsp⟩ := v_notes T F h3
      exact ⟨b, C, dy, fs, fn, rfl, g1, cC, hm, lk, _, rfl, sp, F1, hsp _ _ _ _ h3 (by omega) hk.1 q⟩
theorem ok_Swap_notes_at {P : Program} {w : World} {K : PySem.W.Frag} {mg : Str → Option Value} {base : Heap} (T : Env K mg) {d L : Nat} (hL : 40 ≤ L) (r_Join_notes_at : Fc P w K mg base L (He.ma K (He.ga K "Join") "notes_at") [] (sp_Join_notes_at K d)) (r_Less_notes_at : Fc P w K mg base L (He.ma K (He.ga K "Less") "notes_at") [] (sp_Less_notes_at K d)) (r_Swap_notes_at : Fc P w K mg base L (He.ma K (He.ga K "Swap") "notes_at") [] (sp_Swap_notes_at K d)) (r_Later_notes_at : Fc P w K mg base L (He.ma K (He.ga K "Later") "notes_at") [] (sp_Later_notes_at K d)) (r_Noted_notes_at : Fc P w K mg base L (He.ma K (He.ga K "Noted") "notes_at") [] (sp_Noted_notes_at K d)) : Fc P w K mg base (L + 1) (He.ma K (He.ga K "Swap") "notes_at") [] (sp_Swap_notes_at K (d + 1)) := by
  obtain ⟨fd, D, F⟩ := fb_Swap_notes_at T hL r_Join_notes_at r_Less_notes_at r_Swap_notes_at r_Later_notes_at r_Noted_notes_at
  exact F.all (D.bindsN fun _ _ _ _ _ _ us hl => match us, hl with | [_, _], _ => rfl)
end
section
/-- the minutes of a Later, or what are none -/
def MnIs (K : PySem.W.Frag) (H : Hp) (y : V) : Option Nat → Prop
  | some m => y = .int (m : Nat) ∧ m ≤ 10080
  | none => Cl K H y ∧ ∀ m : Nat, y = .int (m : Nat) → 10080 < m
theorem MnIs.mono {K : PySem.W.Frag} {H H' : Hp} {y : V} {r : Option Nat} (h : MnIs K H y r) (e : Ex H H') : MnIs K H' y r := by
  cases r with
  | none => exact ⟨h.1.mono e, h.2⟩
  | some m => exact h
def sp_Later_init (K : PySem.W.Frag) : Sp := fun vs H Q E => ∃ (a dx : Addr) (x y : V) (H0 : Hp) (r1 : Option CardD) (rm : Option Nat), vs = [.ref a, x, y] ∧ H a = some (.ins (He.ga K "Later") dx []) ∧ H0 a = none ∧ Ex H0 H ∧ MnIs K H0 y rm ∧ (rm.isSome = true → CdX K H0 x r1) ∧
  (∀ c m, r1 = some c → rm = some m → c.wt < 60 → ∀ hd H', Oth a H H' → H0 hd = none → H' hd = some (.lst [x]) → H' a = some (.ins (He.ga K "Later") dx (cdF hd (1 + c.wt) [("minutes", .int (m : Nat))])) → CardAt K H' (.later c m) a → Q .non H') ∧
  ((∀ c m, r1 = some c → rm = some m → 60 ≤ c.wt) → ∀ H', Oth a H H' → E (.ref (He.ga K "NoCard")) none H')
theorem fb_Later_init {P : Program} {w : World} {K : PySem.W.Frag} {mg : Str → Option Value} {base : Heap} (T : Env K mg) : ∃ fd, FunD K "__init__" "Later.__init__" (defArgs s_Later_init) (defBody s_Later_init) (defScope s_Later_init) [.int (60)] [] (He.ma K (He.ga K "Later") "__init__") fd ∧ Fb P w K mg base 3 (He.ma K (He.ga K "Later") "__init__") fd ["self", "one", "minutes"] (sp_Later_init K) := by
  obtain ⟨fd, F⟩ := T.f_Later_init
  refine ⟨fd, F, fb_of F sc_Later_init (fun vs H Q E h => ?_) (fun cdv A outer s H vs Q E hr h => ?_)⟩
  · obtain ⟨a, dx, x, y, H0, r1, rm, rfl, _⟩ := h
    rfl
  · obtain ⟨a, dx, x, y, H0, r1, rm, rfl, ha, na0, X0, hm, h1, q, qe⟩ := h
    refine ⟨_, (pss_cons (ps_expr (c_call (ok_want T) (hr.mono (by decide)) T.g_want T.k_want (takes_of rfl rfl rfl rfl) (pa_cons (pe_and (c_call (ok_is_moment T) (hr.mono (by decide)) T.g_is_moment T.k_is_moment (takes_of rfl rfl rfl rfl) (pa_cons (pv 2) pa_nil)) (pe_one (pe_cmpR op_le (pv 2) (pe_k T.v_LATEST) (nomark _)))) (pa_cons pe_str pa_nil))))
      (pss_cons (ps_expr (c_clsm T.cm_Card (ok_Card_init T) (hr.mono (by decide)) T.g_Card (takes_of rfl rfl rfl rfl) (pa_cons (pv 0) (pa_cons (pe_lst (pa_cons (pv 1) pa_nil)) pa_nil))))
      (pss_one (ps_fld (pv 0) (pv 2) rfl)))), ?_⟩
    have hm1 := hm.mono X0
    have cl : Cl K H y := by
      cases rm with
      | none => exact hm1.1
      | some m => rw [hm1.1]; exact cl_int _
    refine ⟨_, rfl, y, rfl, cl, _, rfl, ?_⟩
    cases hi : isM y with
    | false =>
      refine iteF ⟨_, _, rfl, nofun, fun _ => qe (fun c m _ e => ?_) H (.refl _ _)⟩
      subst e
      rw [hm.1] at hi
      have : decide (0 ≤ ((m : Nat) : Int)) = false := hi
      rw [decide_eq_true (by omega)] at this
      cases this
    | true =>
      obtain ⟨i, rfl, i0⟩ := isM_w hi
      obtain ⟨n, rfl⟩ := Int.eq_ofNat_of_zero_le i0
      refine iteT ⟨_, rfl, _, _, rfl, rfl, _, _, rfl, fun eb => ?_, fun eb => qe (fun c m _ e => ?_) H (.refl _ _)⟩
      rotate_left
      · subst e
        have h2 := of_decide_eq_false eb
        obtain ⟨h3, h4⟩ := hm
        injection h3 with h3
        omega
      have h2 := of_decide_eq_true eb
      obtain rfl : rm = some n := by
        cases rm with
        | none =>
          have := hm.2 n rfl
          omega
        | some m =>
          have h3 := hm.1
          injection h3 with h3
          rw [show m = n by omega]
      have h1 := h1 rfl
      refine ⟨_, rfl, _, rfl, (by show 1 ≤ sizeLine; decide), fun p np => ?_⟩
      have Xp := ex_new (o := HO.lst [x]) np
      have hp : upd H p (HO.lst [x]) p = some (HO.lst [x]) := upd_same
      generalize upd H p (HO.lst [x]) = G at Xp hp ⊢
      unfold tNil
      show sp_Card_init K [.ref a, .ref p] G _ _
      refine card_init_ok T (rs := [r1]) (Xp _ _ ha) na0 (X0.trans Xp) T.c_Later T.a_Later_held T.a_Later_weight (.inl hp) (by show 1 ≤ 1000; decide) (.cons h1 .nil) (fun cs as e hw ex hA hd H' O nh hh h' => ?_) fun he H' O => ?_
      · cases r1 with
        | none => cases e
        | some c =>
          cases e
          obtain ⟨b, rfl, hb⟩ := h1
          have O' := (ex_oth Xp).trans O
          refine ⟨_, rfl, _, rfl, a, _, dx, _, rfl, h', T.c_Later, T.a_Later_minutes, by show 2 < 1000; decide, ?_⟩
          have dh : hd ≠ a := fun z => by rw [z, h'] at hh; cases hh
          have O2 : Oth a H (upd H' a (.ins (He.ga K "Later") dx (putF "minutes" (.int ((n : Nat) : Int)) (cdF hd (1 + wtL [c]) [])))) := O'.upd
          have X := Oth.ex X0 na0 O2
          have hw' : c.wt + 0 < 60 := hw
          refine q c n rfl rfl (by omega) hd _ O2 nh (by rw [upd_ne dh]; exact hh) upd_same ?_
          unfold CardAt
          exact ⟨dx, hd, b, upd_same, by rw [upd_ne dh]; exact hh, hb.mono X⟩
      · refine qe (fun c m e1 _ => ?_) H' ((ex_oth Xp).trans O)
        subst e1
        exact he [c] rfl
theorem later_new {K : PySem.W.Frag} {H : Hp} {x dx b : Addr} {c : CardD} {m : Nat} {Q : VK} {E : XK} (nx : H x = none) (nd : H dx = none) (ne : dx ≠ x) (hb : CardAt K H c b) (hm : m ≤ 10080) (hw : c.wt < 60) (q : ∀ hd H', Ex H H' → H hd = none → H' hd = some (.lst [.ref b]) → H' x = some (.ins (He.ga K "Later") dx (cdF hd (1 + c.wt) [("minutes", .int (m : Nat))])) → CardAt K H' (.later c m) x → Q .non H') :
    sp_Later_init K [.ref x, .ref b, .int (m : Nat)] (upd (upd H dx (.own x)) x (.ins (He.ga K "Later") dx [])) Q E := by
  have X1 := ex_made (o1 := .own x) (o2 := .ins (He.ga K "Later") dx []) nx nd ne
  refine ⟨x, dx, _, _, H, some c, some m, rfl, upd_same, nx, X1, ⟨rfl, hm⟩, fun _ => ⟨b, rfl, hb⟩, fun c' z' e1 e2 _ hd H' O nh hh h' hA => ?_, fun h => ?_⟩
  · cases e1
    cases e2
    exact q hd H' (Oth.ex X1 nx O) nh hh h' hA
  · have := h c m rfl rfl
    omega
theorem ok_Later_init {P : Program} {w : World} {K : PySem.W.Frag} {mg : Str → Option Value} {base : Heap} (T : Env K mg) : Fc P w K mg base 3 (He.ma K (He.ga K "Later") "__init__") [] (fun vs H Q E => vs.length = 3 + ([] : List Str).length ∧ sp_Later_init K  (pick [.inl 0, .inl 1, .inl 2] vs [.int (60)]) H Q E) := by
  obtain ⟨fd, D, F⟩ := fb_Later_init T
  exact Fb.shape D F 3 [] (fun us its => pick [.inl 0, .inl 1, .inl 2] us its) (by decide) (fun r1 r2 => pick_vals _ r1 r2) (fun T kV doc pm an cdv ct us ws its h1 h2 h3 => match us, ws, its, h1, h2, h3 with | [_, _, _], [], [_], _, _, _ => ⟨_, rfl, rfl⟩)
end
section
theorem fb_Later_notes_at {P : Program} {w : World} {K : PySem.W.Frag} {mg : Str → Option Value} {base : Heap} (T : Env K mg) {d L : Nat} (hL : 40 ≤ L) (r_Join_notes_at : Fc P w K mg base L (He.ma K (He.ga K "Join") "notes_at") [] (sp_Join_notes_at K d)) (r_Less_notes_at : Fc P w K mg base L (He.ma K (He.ga K "Less") "notes_at") [] (sp_Less_notes_at K d)) (r_Swap_notes_at : Fc P w K mg base L (He.ma K (He.ga K "Swap") "notes_at") [] (sp_Swap_notes_at K d)) (r_Later_notes_at : Fc P w K mg base L (He.ma K (He.ga K "Later") "notes_at") [] (sp_Later_notes_at K d)) (r_Noted_notes_at : Fc P w K mg base L (He.ma K (He.ga K "Noted") "notes_at") [] (sp_Noted_notes_at K d)) : ∃ fd, FunD K "notes_at" "Later.notes_at" (defArgs s_Later_notes_at) (defBody s_Later_notes_at) (defScope s_Later_notes_at) [] [] (He.ma K (He.ga K "Later") "notes_at") fd ∧ Fb P w K mg base (L + 1) (He.ma K (He.ga K "Later") "notes_at") fd ["self", "moment"] (sp_Later_notes_at K (d + 1)) := by
  obtain ⟨fd, F⟩ := T.f_Later_notes_at
  refine ⟨fd, F, fb_of F sc_Later_notes_at (fun vs H Q E h => ?_) (fun cdv A outer s H vs Q E hr h => ?_)⟩
  · obtain ⟨a, c, m, n, rfl, _⟩ := h
    rfl
  · obtain ⟨a, c, m, n, rfl, hA, hw, hk, q⟩ := h
    have F : NtF P w K mg base L d := {
      card := (ok_Card_notes_at T).mono (by omega)
      once := (ok_Once_notes_at T).mono (by omega)
      every := (ok_Every_notes_at T).mono (by omega)
      join := r_Join_notes_at
      less := r_Less_notes_at
      swap := r_Swap_notes_at
      later := r_Later_notes_at
      noted := r_Noted_notes_at
    }
    refine ⟨_, (pss_one (ps_ret (pe_ifExp (pt_cmpR op_ge (pv 1) (pe_fld (pv 0) (by rfl)) (nomark _)) (c_methV (k := L) (pe_ix ix_list (pe_fld (pv 0) (by rfl)) pe_int (fun _ _ => rfl)) (hr.mono (by omega)) takes0 (pa_cons (pe_op op_sub (pv 1) (pe_fld (pv 0) (by rfl))) pa_nil)) pe_non))), ?_⟩
    unfold CardAt at hA
    obtain ⟨dx, hd, b, h1, h2, h3⟩ := hA
    unfold CardD.nts at q
    unfold CardD.wt at hw
    unfold CardD.ok at hk
    by_cases c0 : m ≤ n
    · rw [if_pos c0] at q
      refine ⟨_, rfl, _, rfl, _, _, _, _, _, rfl, h1, T.c_Later, T.a_Later_minutes, rfl, _, _, rfl, rfl, _, rfl, ?_⟩
      rw [decide_eq_true (show ((m : Nat) : Int) ≤ ((n : Nat) : Int) by omega)]
      refine iteT ?_
      obtain ⟨C, dy, fs, fn, g1, cC, hm, lk, sp, F1, hsp⟩ := v_notes T F h3
      refine ⟨_, rfl, _, _, _, _, _, rfl, h1, T.c_Later, T.a_Later_held, rfl, _, _, _, _, rfl, rfl, sq_lst h2, rfl, ?_⟩
      refine ⟨b, C, dy, fs, fn, rfl, g1, cC, hm, lk, ?_⟩
      refine ⟨_, rfl, _, rfl, _, _, _, _, _, rfl, h1, T.c_Later, T.a_Later_minutes, rfl, _, _, rfl, rfl, ?_⟩
      have ev : (fun i j : Int => V.int (i - j)) ((n : Nat) : Int) ((m : Nat) : Int) = V.int ((n - m : Nat) : Int) := congrArg V.int (by omega)
      rw [ev]
      exact ⟨sp, F1, hsp _ _ _ _ h3 (by omega) hk.1 q⟩
    · rw [if_neg c0] at q
      refine ⟨_, rfl, _, rfl, _, _, _, _, _, rfl, h1, T.c_Later, T.a_Later_minutes, rfl, _, _, rfl, rfl, _, rfl, ?_⟩
      rw [decide_eq_false (show ¬ ((m : Nat) : Int) ≤ ((n : Nat) : Int) by omega)]
      exact iteF (q _ _ (.refl _) rfl)
theorem ok_Later_notes_at {P : Program} {w : World} {K : PySem.W.Frag} {mg : Str → Option Value} {base : Heap} (T : Env K mg) {d L : Nat} (hL : 40 ≤ L) (r_Join_notes_at : Fc P w K mg base L (He.ma K (He.ga K "Join") "notes_at") [] (sp_Join_notes_at K d)) (r_Less_notes_at : Fc P w K mg base L (He.ma K (He.ga K "Less") "notes_at") [] (sp_Less_notes_at K d)) (r_Swap_notes_at : Fc P w K mg base L (He.ma K (He.ga K "Swap") "notes_at") [] (sp_Swap_notes_at K d)) (r_Later_notes_at : Fc P w K mg base L (He.ma K (He.ga K "Later") "notes_at") [] (sp_Later_notes_at K d)) (r_Noted_notes_at : Fc P w K mg base L (He.ma K (He.ga K "Noted") "notes_at") [] (sp_Noted_notes_at K d)) : Fc P w K mg base (L + 1) (He.ma K (He.ga K "Later") "notes_at") [] (sp_Later_notes_at K (d + 1)) := by
  obtain ⟨fd, D, F⟩ := fb_Later_notes_at T hL r_Join_notes_at r_Less_notes_at r_Swap_notes_at r_Later_notes_at r_Noted_notes_at
  exact F.all (D.bindsN fun _ _ _ _ _ _ us hl => match us, hl with | [_, _], _ => rfl)
end
section
/-- a name, or what is none -/
def NmIs (K : PySem.W.Frag) (H : Hp) (y : V) : Option Str → Prop
  | some z => y = .str z ∧ nmN z.cps.toList = true
  | none => ClS K H y ∧ isNm y = false
theorem NmIs.cl {K : PySem.W.Frag} {H H' : Hp} {y : V} {r : Option Str} (h : NmIs K H y r) (e : Ex H H') : ClS K H' y ∧ isNm y = r.isSome := by
  cases r with
  | none => exact ⟨h.1.mono e, h.2⟩
  | some z =>
    obtain ⟨rfl, h⟩ := h
    have h2 := (nm_facts h).2.1
    have h3 : z.length = z.cps.toList.length := rfl
    exact ⟨.inl ⟨z, rfl, by omega⟩, h⟩
end
section
def sp_Noted_init (K : PySem.W.Frag) : Sp := fun vs H Q E => ∃ (a dx : Addr) (x y : V) (H0 : Hp) (r1 : Option CardD) (rn : Option Str), vs = [.ref a, x, y] ∧ H a = some (.ins (He.ga K "Noted") dx []) ∧ H0 a = none ∧ Ex H0 H ∧ NmIs K H0 y rn ∧ (rn.isSome = true → CdX K H0 x r1) ∧
  (∀ c z, r1 = some c → rn = some z → c.wt < 60 → ∀ hd H', Oth a H H' → H0 hd = none → H' hd = some (.lst [x]) → H' a = some (.ins (He.ga K "Noted") dx (cdF hd (1 + c.wt) [("note", .str z)])) → CardAt K H' (.noted c z) a → Q .non H') ∧
  ((∀ c z, r1 = some c → rn = some z → 60 ≤ c.wt) → ∀ H', Oth a H H' → E (.ref (He.ga K "NoCard")) none H')
theorem fb_Noted_init {P : Program} {w : World} {K : PySem.W.Frag} {mg : Str → Option Value} {base : Heap} (T : Env K mg) : ∃ fd, FunD K "__init__" "Noted.__init__" (defArgs s_Noted_init) (defBody s_Noted_init) (defScope s_Noted_init) [] [] (He.ma K (He.ga K "Noted") "__init__") fd ∧ Fb P w K mg base 3 (He.ma K (He.ga K "Noted") "__init__") fd ["self", "one", "note"] (sp_Noted_init K) := by
  obtain ⟨fd, F⟩ := T.f_Noted_init
  refine ⟨fd, F, fb_of F sc_Noted_init (fun vs H Q E h => ?_) (fun cdv A outer s H vs Q E hr h => ?_)⟩
  · obtain ⟨a, dx, x, y, H0, r1, rn, rfl, _⟩ := h
    rfl
  · obtain ⟨a, dx, x, y, H0, r1, rn, rfl, ha, na0, X0, hn, h1, q, qe⟩ := h
    refine ⟨_, (pss_cons (ps_expr (c_call (ok_want T) (hr.mono (by decide)) T.g_want T.k_want (takes_of rfl rfl rfl rfl) (pa_cons (c_call (ok_is_name T) (hr.mono (by decide)) T.g_is_name T.k_is_name (takes_of rfl rfl rfl rfl) (pa_cons (pv 2) pa_nil)) (pa_cons pe_str pa_nil))))
      (pss_cons (ps_expr (c_clsm T.cm_Card (ok_Card_init T) (hr.mono (by decide)) T.g_Card (takes_of rfl rfl rfl rfl) (pa_cons (pv 0) (pa_cons (pe_lst (pa_cons (pv 1) pa_nil)) pa_nil))))
      (pss_one (ps_fld (pv 0) (pv 2) rfl)))), ?_⟩
    obtain ⟨cl, en⟩ := hn.cl X0
    refine ⟨_, rfl, y, rfl, cl, fun H1 X1 => ?_⟩
    rw [en]
    refine ⟨_, _, rfl, fun eb => ?_, fun eb => qe (fun c z _ e => by rw [e] at eb; cases eb) H1 (ex_oth X1)⟩
    obtain ⟨z, rfl⟩ := Option.isSome_iff_exists.mp eb
    obtain ⟨rfl, hz⟩ := hn
    have h1 := h1 rfl
    have ha1 := X1 _ _ ha
    have X01 := X0.trans X1
    refine ⟨_, rfl, _, rfl, (by show 1 ≤ sizeLine; decide), fun p np => ?_⟩
    have Xp := ex_new (o := HO.lst [x]) np
    have hp : upd H1 p (HO.lst [x]) p = some (HO.lst [x]) := upd_same
    generalize upd H1 p (HO.lst [x]) = G at Xp hp ⊢
    unfold tNil
    show sp_Card_init K [.ref a, .ref p] G _ _
    refine card_init_ok T (rs := [r1]) (Xp _ _ ha1) na0 (X01.trans Xp) T.c_Noted T.a_Noted_held T.a_Noted_weight (.inl hp) (by show 1 ≤ 1000; decide) (.cons h1 .nil) (fun cs as e hw ex hA hd H' O nh hh h' => ?_) fun he H' O => ?_
    · cases r1 with
      | none => cases e
      | some c =>
        cases e
        obtain ⟨b, rfl, hb⟩ := h1
        have O' := (ex_oth (X1.trans Xp)).trans O
        refine ⟨_, rfl, _, rfl, a, _, dx, _, rfl, h', T.c_Noted, T.a_Noted_note, by show 2 < 1000; decide, ?_⟩
        have dh : hd ≠ a := fun z => by rw [z, h'] at hh; cases hh
        have O2 : Oth a H (upd H' a (.ins (He.ga K "Noted") dx (putF "note" (.str z) (cdF hd (1 + wtL [c]) [])))) := O'.upd
        have X := Oth.ex X0 na0 O2
        have hw' : c.wt + 0 < 60 := hw
        refine q c z rfl rfl (by omega) hd _ O2 nh (by rw [upd_ne dh]; exact hh) upd_same ?_
        unfold CardAt
        exact ⟨dx, hd, b, upd_same, by rw [upd_ne dh]; exact hh, hb.mono X⟩
    · refine qe (fun c z e1 _ => ?_) H' ((ex_oth (X1.trans Xp)).trans O)
      subst e1
      exact he [c] rfl
theorem noted_new {K : PySem.W.Frag} {H : Hp} {x dx b : Addr} {c : CardD} {z : Str} {Q : VK} {E : XK} (nx : H x = none) (nd : H dx = none) (ne : dx ≠ x) (hb : CardAt K H c b) (hz : nmN z.cps.toList = true) (hw : c.wt < 60) (q : ∀ hd H', Ex H H' → H hd = none → H' hd = some (.lst [.ref b]) → H' x = some (.ins (He.ga K "Noted") dx (cdF hd (1 + c.wt) [("note", .str z)])) → CardAt K H' (.noted c z) x → Q .non H') :
    sp_Noted_init K [.ref x, .ref b, .str z] (upd (upd H dx (.own x)) x (.ins (He.ga K "Noted") dx [])) Q E := by
  have X1 := ex_made (o1 := .own x) (o2 := .ins (He.ga K "Noted") dx []) nx nd ne
  refine ⟨x, dx, _, _, H, some c, some z, rfl, upd_same, nx, X1, ⟨rfl, hz⟩, fun _ => ⟨b, rfl, hb⟩, fun c' z' e1 e2 _ hd H' O nh hh h' hA => ?_, fun h => ?_⟩
  · cases e1
    cases e2
    exact q hd H' (Oth.ex X1 nx O) nh hh h' hA
  · have := h c z rfl rfl
    omega
theorem ok_Noted_init {P : Program} {w : World} {K : PySem.W.Frag} {mg : Str → Option Value} {base : Heap} (T : Env K mg) : Fc P w K mg base 3 (He.ma K (He.ga K "Noted") "__init__") [] (sp_Noted_init K ) := by
  obtain ⟨fd, D, F⟩ := fb_Noted_init T
  exact F.all (D.bindsN fun _ _ _ _ _ _ us hl => match us, hl with | [_, _, _], _ => rfl)
end
section
theorem fb_Noted_notes_at {P : Program} {w : World} {K : PySem.W.Frag} {mg : Str → Option Value} {base : Heap} (T : Env K mg) {d L : Nat} (hL : 40 ≤ L) (r_Join_notes_at : Fc P w K mg base L (He.ma K (He.ga K "Join") "notes_at") [] (sp_Join_notes_at K d)) (r_Less_notes_at : Fc P w K mg base L (He.ma K (He.ga K "Less") "notes_at") [] (sp_Less_notes_at K d)) (r_Swap_notes_at : Fc P w K mg base L (He.ma K (He.ga K "Swap") "notes_at") [] (sp_Swap_notes_at K d)) (r_Later_notes_at : Fc P w K mg base L (He.ma K (He.ga K "Later") "notes_at") [] (sp_Later_notes_at K d)) (r_Noted_notes_at : Fc P w K mg base L (He.ma K (He.ga K "Noted") "notes_at") [] (sp_Noted_notes_at K d)) : ∃ fd, FunD K "notes_at" "Noted.notes_at" (defArgs s_Noted_notes_at) (defBody s_Noted_notes_at) (defScope s_Noted_notes_at) [] [] (He.ma K (He.ga K "Noted") "notes_at") fd ∧ Fb P w K mg base (L + 1) (He.ma K (He.ga K "Noted") "notes_at") fd ["self", "moment"] (sp_Noted_notes_at K (d + 1)) := by
  obtain ⟨fd, F⟩ := T.f_Noted_notes_at
  refine ⟨fd, F, fb_of F sc_Noted_notes_at (fun vs H Q E h => ?_) (fun cdv A outer s H vs Q E hr h => ?_)⟩
  · obtain ⟨a, c, z, n, rfl, _⟩ := h
    rfl
  · obtain ⟨a, c, z, n, rfl, hA, hw, hk, q⟩ := h
    have F : NtF P w K mg base L d := {
      card := (ok_Card_notes_at T).mono (by omega)
      once := (ok_Once_notes_at T).mono (by omega)
      every := (ok_Every_notes_at T).mono (by omega)
      join := r_Join_notes_at
      less := r_Less_notes_at
      swap := r_Swap_notes_at
      later := r_Later_notes_at
      noted := r_Noted_notes_at
    }
    refine ⟨_, (pss_cons (ps_set (i := 2) sc_Noted_notes_at.nd rfl (Or.inl rfl) (c_methV (k := L) (pe_ix ix_list (pe_fld (pv 0) (by rfl)) pe_int (fun _ _ => rfl)) (hr.mono (by omega)) takes0 (pa_cons (pv 1) pa_nil)))
      (pss_one (ps_ret (pe_ifExp (pt_cmpR op_isN (pv 2) pe_non (nomark _)) pe_non (c_call (ok_notes_together T) (hr.mono (by omega)) T.g_notes_together T.k_notes_together takes0 (pa_cons (pv 2) (pa_cons (pe_tup (pa_cons (pe_fld (pv 0) (by rfl)) pa_nil)) pa_nil))))))), ?_⟩
    unfold CardAt at hA
    obtain ⟨dx, hd, b, h1, h2, h3⟩ := hA
    unfold CardD.nts at q
    unfold CardD.wt at hw
    unfold CardD.ok at hk
    refine ⟨_, rfl, _, _, _, _, _, rfl, h1, T.c_Noted, T.a_Noted_held, rfl, _, _, _, _, rfl, rfl, (sq_lst h2), rfl, ?_⟩
    obtain ⟨C, dy, fs, fn, g1, cC, hm, lk, sp, F1, hsp⟩ := v_notes T F h3
    refine ⟨b, C, dy, fs, fn, rfl, g1, cC, hm, lk, _, rfl, sp, F1, hsp _ _ _ _ h3 (by omega) hk.1 fun y H2 X2 hy => ?_⟩
    refine ⟨_, rfl, rfl, _, rfl, ?_⟩
    cases e : c.nts n with
    | none =>
      rw [e] at hy q
      obtain rfl : y = .non := hy
      exact iteT (q _ _ X2 rfl)
    | some w =>
      rw [e] at hy q
      have nk := c.nts_ok n w hk.1 e
      have lw : w.length ≤ 1000 := by have := nk.2.2; have := hk.2.2; omega
      obtain ⟨p, rfl, hp⟩ := hy
      refine iteF ⟨_, rfl, _, rfl, _, _, _, _, _, rfl, X2 _ _ h1, T.c_Noted, T.a_Noted_note, rfl, by show 1 ≤ sizeLine; decide, fun t nt => ?_⟩
      have Xt := ex_new (o := HO.tup [V.str z]) nt
      refine ⟨.ref p, some w, t, [z], rfl, ⟨p, rfl, Xt _ _ hp⟩, fun u eu => (by cases eu; exact lw), upd_same, by show 1 ≤ 1000; decide, fun v H3 X3 hv => ?_⟩
      exact q _ _ ((X2.trans Xt).trans X3) hv
theorem ok_Noted_notes_at {P : Program} {w : World} {K : PySem.W.Frag} {mg : Str → Option Value} {base : Heap} (T : Env K mg) {d L : Nat} (hL : 40 ≤ L) (r_Join_notes_at : Fc P w K mg base L (He.ma K (He.ga K "Join") "notes_at") [] (sp_Join_notes_at K d)) (r_Less_notes_at : Fc P w K mg base L (He.ma K (He.ga K "Less") "notes_at") [] (sp_Less_notes_at K d)) (r_Swap_notes_at : Fc P w K mg base L (He.ma K (He.ga K "Swap") "notes_at") [] (sp_Swap_notes_at K d)) (r_Later_notes_at : Fc P w K mg base L (He.ma K (He.ga K "Later") "notes_at") [] (sp_Later_notes_at K d)) (r_Noted_notes_at : Fc P w K mg base L (He.ma K (He.ga K "Noted") "notes_at") [] (sp_Noted_notes_at K d)) : Fc P w K mg base (L + 1) (He.ma K (He.ga K "Noted") "notes_at") [] (sp_Noted_notes_at K (d + 1)) := by
  obtain ⟨fd, D, F⟩ := fb_Noted_notes_at T hL r_Join_notes_at r_Less_notes_at r_Swap_notes_at r_Later_notes_at r_Noted_notes_at
  exact F.all (D.bindsN fun _ _ _ _ _ _ us hl => match us, hl with | [_, _], _ => rfl)
end
section
def sp_As_init (K : PySem.W.Frag) : Sp := fun vs H Q E => ∃ (a dx : Addr) (y : V) (H0 : Hp) (rn : Option Str), vs = [.ref a, y] ∧ H a = some (.ins (He.ga K "As") dx []) ∧ H0 a = none ∧ Ex H0 H ∧ NmIs K H0 y rn ∧
  (∀ z, rn = some z → ∀ hd H', Oth a H H' → H0 hd = none → H' hd = some (.lst []) → H' a = some (.ins (He.ga K "As") dx (cdF hd 1 [("name", .str z)])) → CardAt K H' (.as_ z) a → Q .non H') ∧
  (rn = none → ∀ H', Oth a H H' → E (.ref (He.ga K "NoCard")) none H')
theorem fb_As_init {P : Program} {w : World} {K : PySem.W.Frag} {mg : Str → Option Value} {base : Heap} (T : Env K mg) : ∃ fd, FunD K "__init__" "As.__init__" (defArgs s_As_init) (defBody s_As_init) (defScope s_As_init) [] [] (He.ma K (He.ga K "As") "__init__") fd ∧ Fb P w K mg base 3 (He.ma K (He.ga K "As") "__init__") fd ["self", "name"] (sp_As_init K) := by
  obtain ⟨fd, F⟩ := T.f_As_init
  refine ⟨fd, F, fb_of F sc_As_init (fun vs H Q E h => ?_) (fun cdv A outer s H vs Q E hr h => ?_)⟩
  · obtain ⟨a, dx, y, H0, rn, rfl, _⟩ := h
    rfl
  · obtain ⟨a, dx, y, H0, rn, rfl, ha, na0, X0, hn, q, qe⟩ := h
    refine ⟨_, (pss_cons (ps_expr (c_call (ok_want T) (hr.mono (by decide)) T.g_want T.k_want (takes_of rfl rfl rfl rfl) (pa_cons (c_call (ok_is_name T) (hr.mono (by decide)) T.g_is_name T.k_is_name (takes_of rfl rfl rfl rfl) (pa_cons (pv 1) pa_nil)) (pa_cons pe_str pa_nil))))
      (pss_cons (ps_expr (c_clsm T.cm_Card (ok_Card_init T) (hr.mono (by decide)) T.g_Card (takes_of rfl rfl rfl rfl) (pa_cons (pv 0) (pa_cons (pe_lst pa_nil) pa_nil))))
      (pss_one (ps_fld (pv 0) (pv 1) rfl)))), ?_⟩
    obtain ⟨cl, en⟩ := hn.cl X0
    refine ⟨_, rfl, y, rfl, cl, fun H1 X1 => ?_⟩
    rw [en]
    refine ⟨_, _, rfl, fun eb => ?_, fun eb => qe (by cases rn with | none => rfl | some z => cases eb) H1 (ex_oth X1)⟩
    obtain ⟨z, rfl⟩ := Option.isSome_iff_exists.mp eb
    obtain ⟨rfl, hz⟩ := hn
    have ha1 := X1 _ _ ha
    have X01 := X0.trans X1
    refine ⟨_, rfl, (by show 0 ≤ sizeLine; decide), fun p np => ?_⟩
    have Xp := ex_new (o := HO.lst []) np
    have hp : upd H1 p (HO.lst []) p = some (HO.lst []) := upd_same
    generalize upd H1 p (HO.lst []) = G at Xp hp ⊢
    unfold tNil
    show sp_Card_init K [.ref a, .ref p] G _ _
    refine card_init_ok T (rs := []) (Xp _ _ ha1) na0 (X01.trans Xp) T.c_As T.a_As_held T.a_As_weight (.inl hp) (by show 0 ≤ 1000; decide) .nil (fun cs as e hw ex hA hd H' O nh hh h' => ?_) fun he H' O => ?_
    · cases e
      have O' := (ex_oth (X1.trans Xp)).trans O
      refine ⟨_, rfl, _, rfl, a, _, dx, _, rfl, h', T.c_As, T.a_As_name, by show 2 < 1000; decide, ?_⟩
      have dh : hd ≠ a := fun z => by rw [z, h'] at hh; cases hh
      have O2 : Oth a H (upd H' a (.ins (He.ga K "As") dx (putF "name" (.str z) (cdF hd (1 + wtL []) [])))) := O'.upd
      refine q z rfl hd _ O2 nh (by rw [upd_ne dh]; exact hh) upd_same ?_
      unfold CardAt
      exact ⟨dx, hd, upd_same, by rw [upd_ne dh]; exact hh⟩
    · have := he [] rfl
      exact absurd this (by decide)
theorem as_new {K : PySem.W.Frag} {H : Hp} {x dx : Addr} {z : Str} {Q : VK} {E : XK} (nx : H x = none) (nd : H dx = none) (ne : dx ≠ x) (hz : nmN z.cps.toList = true) (q : ∀ hd H', Ex H H' → H hd = none → H' hd = some (.lst []) → H' x = some (.ins (He.ga K "As") dx (cdF hd 1 [("name", .str z)])) → CardAt K H' (.as_ z) x → Q .non H') :
    sp_As_init K [.ref x, .str z] (upd (upd H dx (.own x)) x (.ins (He.ga K "As") dx [])) Q E := by
  have X1 := ex_made (o1 := .own x) (o2 := .ins (He.ga K "As") dx []) nx nd ne
  refine ⟨x, dx, _, H, some z, rfl, upd_same, nx, X1, ⟨rfl, hz⟩, fun z' e hd H' O nh hh h' hA => ?_, fun h => nomatch h⟩
  cases e
  exact q hd H' (Oth.ex X1 nx O) nh hh h' hA
theorem ok_As_init {P : Program} {w : World} {K : PySem.W.Frag} {mg : Str → Option Value} {base : Heap} (T : Env K mg) : Fc P w K mg base 3 (He.ma K (He.ga K "As") "__init__") [] (sp_As_init K ) := by
  obtain ⟨fd, D, F⟩ := fb_As_init T
  exact F.all (D.bindsN fun _ _ _ _ _ _ us hl => match us, hl with | [_, _], _ => rfl)
end
section
def optS : Option Str → V
  | none => .non
  | some z => .str z
theorem CardsAt.len_drop {K : PySem.W.Frag} {H : Hp} {cs : List CardD} {as : List Addr} (h : CardsAt K H cs as) : none = fstL (cs.drop as.length) := by
  rw [h.len, List.drop_length]
  rfl
def sp_first_as (K : PySem.W.Frag) (d : Nat) : Sp := fun vs H Q _ => ∃ (a : Addr) (c : CardD), vs = [.ref a] ∧ CardAt K H c a ∧ c.wt ≤ d ∧ ∀ H', Ex H H' → Q (optS c.fst) H'
theorem fb_first_as {P : Program} {w : World} {K : PySem.W.Frag} {mg : Str → Option Value} {base : Heap} (T : Env K mg) {d L : Nat} (hL : 40 ≤ L) (r_first_as : Fc P w K mg base L (He.ga K "first_as") [] (sp_first_as K d)) : ∃ fd, FunD K "first_as" "first_as" (defArgs s_first_as) (defBody s_first_as) (defScope s_first_as) [] [] (He.ga K "first_as") fd ∧ Fb P w K mg base (L + 1) (He.ga K "first_as") fd ["card"] (sp_first_as K (d + 1)) := by
  obtain ⟨fd, F⟩ := T.f_first_as
  refine ⟨fd, F, fb_of F sc_first_as (fun vs H Q E h => ?_) (fun cdv A outer s H vs Q E hr h => ?_)⟩
  · obtain ⟨a, c, rfl, _⟩ := h
    rfl
  · obtain ⟨a, c, rfl, hA, hw, q⟩ := h
    refine ⟨_, (pss_cons (ps_if (pt_val (pe_callB call_isi (by rfl) T.n_isinstance (by decide +kernel) (pa_cons (pv 0) (pa_cons (pe_glob (v := .ref _) (by rfl) T.g_As rfl) pa_nil))))
      (pss_one (ps_ret (pe_fld (pv 0) (by rfl))))
      pss_nil)
      (pss_cons (ps_for (passes_of rfl) rfl (pi_list (c_methV0 (k := 3) (pv 0) (hr.mono (by omega)) takes0)) (pg_name (i := 1) sc_first_as.nd rfl (Or.inl rfl))
      (pss_cons (ps_set (i := 2) sc_first_as.nd rfl (Or.inl rfl) (c_call r_first_as (hr.mono (by omega)) T.g_first_as T.k_first_as takes0 (pa_cons (pv 1) pa_nil)))
      (pss_one (ps_if (pt_cmpR op_notN (pv 2) pe_non (nomark _))
      (pss_one (ps_ret (pv 2)))
      pss_nil))))
      (pss_one (ps_ret pe_non)))), ?_⟩
    obtain ⟨dx, hd, as, fs, h1, h2, h3, cc, lk, _⟩ := card_gen T hA
    refine ⟨_, rfl, .ref a, _, _, _, c.isAs, rfl, .own _, ty_ins cc.ins cc.cls h1, cc.isAs, _, rfl, ?_⟩
    cases hi : c.isAs with
    | true =>
      cases c with
      | as_ z =>
        unfold CardAt at hA
        obtain ⟨dx2, hd2, g1, g2⟩ := hA
        exact iteT ⟨_, rfl, a, _, dx2, _, _, rfl, g1, T.c_As, T.a_As_name, rfl, q _ (.refl _)⟩
      | _ => cases hi
    | false =>
      refine iteF ?_
      rw [c.fst_eq hi] at q
      have hwi : ∀ c' ∈ c.inner, c'.wt ≤ d := fun c' h => by
        have := inner_wt h
        omega
      generalize c.inner = cs at h3 q hwi
      refine ⟨_, rfl, a, _, dx, _, _, rfl, h1, cc.cls, cc.inner, lk, _, (ok_Card_inner T).mono (by decide), a, _, dx, hd, _, _, _, rfl, h1, cc.cls, cc.held, h2, fun p np => ?_⟩
      have Xp := ex_new (o := HO.lst (as.map V.ref)) np
      have hp : upd H p (.lst (as.map V.ref)) p = some (.lst (as.map V.ref)) := upd_same
      generalize upd H p (.lst (as.map V.ref)) = H1 at Xp hp ⊢
      refine ⟨p, rfl, ⟨_, sq_lst hp⟩, for_on as V.ref L2.walk_list (fun i σ G => Ex H1 G ∧ fstL cs = fstL (cs.drop i) ∧ ∃ v1 v2, σ = [some (.ref a), v1, v2]) ⟨.refl _, rfl, _, _, rfl⟩ (fun i σ G z => sq_lst (z.1 _ _ hp)) ?_ ?_⟩
      · rintro i b σ G hb ⟨XG, e, v1, v2, rfl⟩
        obtain ⟨c', ec, hc⟩ := h3.get hb
        have ed : cs.drop i = c' :: cs.drop (i + 1) := by
          obtain ⟨hi, e⟩ := List.getElem?_eq_some_iff.mp ec
          rw [List.drop_eq_getElem_cons hi, e]
        have es : fstL (cs.drop i) = (match c'.fst with | some z => some z | none => fstL (cs.drop (i + 1))) := by
          rw [ed]
          exact fstL_cons _ _
        refine ⟨_, rfl, b, c', rfl, (hc.mono Xp).mono XG, hwi _ (List.mem_of_getElem? ec), fun H2 X2 => ⟨_, rfl, rfl, _, rfl, ?_⟩⟩
        cases hf : c'.fst with
        | none =>
          rw [hf] at es
          refine iteF ?_
          exact ⟨XG.trans X2, e.trans es, _, _, rfl⟩
        | some z =>
          rw [hf] at es
          refine iteT ⟨_, rfl, ?_⟩
          have q2 := q H2 ((Xp.trans XG).trans X2)
          rw [e, es] at q2
          exact q2
      · rintro σ G ⟨XG, e, v1, v2, rfl⟩
        have q2 := q G (Xp.trans XG)
        rw [e, ← h3.len_drop] at q2
        exact q2
theorem ok_first_as {P : Program} {w : World} {K : PySem.W.Frag} {mg : Str → Option Value} {base : Heap} (T : Env K mg) {d L : Nat} (hL : 40 ≤ L) (r_first_as : Fc P w K mg base L (He.ga K "first_as") [] (sp_first_as K d)) : Fc P w K mg base (L + 1) (He.ga K "first_as") [] (sp_first_as K (d + 1)) := by
  obtain ⟨fd, D, F⟩ := fb_first_as T hL r_first_as
  exact F.all (D.bindsN fun _ _ _ _ _ _ us hl => match us, hl with | [_], _ => rfl)
end
section
def sp_want_card (K : PySem.W.Frag) : Sp := fun vs H Q E => ∃ (x : V) (b : Bool), vs = [x] ∧ CdIs K H x b ∧ (b = true → Q .non H) ∧ (b = false → E (.ref (He.ga K "NoCard")) none H)
theorem fb_want_card {P : Program} {w : World} {K : PySem.W.Frag} {mg : Str → Option Value} {base : Heap} (T : Env K mg) : ∃ fd, FunD K "want_card" "want_card" (defArgs s_want_card) (defBody s_want_card) (defScope s_want_card) [] [] (He.ga K "want_card") fd ∧ Fb P w K mg base 2 (He.ga K "want_card") fd ["card"] (sp_want_card K) := by
  obtain ⟨fd, F⟩ := T.f_want_card
  refine ⟨fd, F, fb_of F sc_want_card (fun vs H Q E h => ?_) (fun cdv A outer s H vs Q E hr h => ?_)⟩
  · obtain ⟨x, b, rfl, _⟩ := h
    rfl
  · obtain ⟨x, b, rfl, ⟨t, ty, kt⟩, q, qe⟩ := h
    refine ⟨_, (pss_one (ps_expr (c_call (ok_want T) (hr.mono (by decide)) T.g_want T.k_want (takes_of rfl rfl rfl rfl) (pa_cons (pe_callB call_isi (by rfl) T.n_isinstance (by decide +kernel) (pa_cons (pv 0) (pa_cons (pe_glob (v := .ref _) (by rfl) T.g_Card rfl) pa_nil))) (pa_cons pe_str pa_nil))))), ?_⟩
    exact ⟨_, rfl, x, _, t, _, b, rfl, .own _, ty, kt, b, _, rfl, q, qe⟩
theorem ok_want_card {P : Program} {w : World} {K : PySem.W.Frag} {mg : Str → Option Value} {base : Heap} (T : Env K mg) : Fc P w K mg base 2 (He.ga K "want_card") [] (sp_want_card K ) := by
  obtain ⟨fd, D, F⟩ := fb_want_card T
  exact F.all (D.bindsN fun _ _ _ _ _ _ us hl => match us, hl with | [_], _ => rfl)
end
section
theorem ex_raised {H : Hp} {a d : Addr} {o1 o2 o3 o4 : HO} (na : H a = none) (nd : H d = none) : Ex H (upd (del (upd (upd (upd H a o1) d o2) a o3) a) d o4) := fun b o e => by
  rw [upd_ne (ne_of_none e nd), del_ne (ne_of_none e na), upd_ne (ne_of_none e na), upd_ne (ne_of_none e nd), upd_ne (ne_of_none e na)]
  exact e
end
section
theorem fc_first_as {P : Program} {w : World} {K : PySem.W.Frag} {mg : Str → Option Value} {base : Heap} (T : Env K mg) : ∀ d, Fc P w K mg base (40 + d) (He.ga K "first_as") [] (sp_first_as K d)
  | 0 => fc_no fun vs H Q E h => by
    obtain ⟨a, c, _, _, h, _⟩ := h
    have := c.wt_pos
    omega
  | d + 1 => ok_first_as T (Nat.le_add_right 40 _) (fc_first_as T d)
def sp_want_known (K : PySem.W.Frag) : Sp := fun vs H Q E => ∃ (a : Addr) (c : CardD), vs = [.ref a] ∧ CardAt K H c a ∧ c.wt ≤ 60 ∧ (c.fst = none → ∀ H', Ex H H' → Q .non H') ∧ (∀ z, c.fst = some z → ∀ d H', Ex H H' → H' d = some (.xd [("name", .str z)]) → E (.ref (He.ga K "NoLine")) (some d) H')
theorem fb_want_known {P : Program} {w : World} {K : PySem.W.Frag} {mg : Str → Option Value} {base : Heap} (T : Env K mg) : ∃ fd, FunD K "want_known" "want_known" (defArgs s_want_known) (defBody s_want_known) (defScope s_want_known) [] [] (He.ga K "want_known") fd ∧ Fb P w K mg base 104 (He.ga K "want_known") fd ["card"] (sp_want_known K) := by
  obtain ⟨fd, F⟩ := T.f_want_known
  refine ⟨fd, F, fb_of F sc_want_known (fun vs H Q E h => ?_) (fun cdv A outer s H vs Q E hr h => ?_)⟩
  · obtain ⟨a, c, rfl, _⟩ := h
    rfl
  · obtain ⟨a, c, rfl, hA, hw, q, qe⟩ := h
    refine ⟨_, (pss_cons (ps_set (i := 1) sc_want_known.nd rfl (Or.inl rfl) (c_call (fc_first_as T 60) (hr.mono (by decide)) T.g_first_as T.k_first_as (takes_of rfl rfl rfl rfl) (pa_cons (pv 0) pa_nil)))
      (pss_one (ps_if (pt_cmpR op_notN (pv 1) pe_non (nomark _))
      (pss_one (ps_raise rfl (takes_of rfl rfl rfl rfl) (pmk_oexB baseL T.ox_NoLine T.m_NoLine_init (ok_NoLine_init T) (hr.mono (by decide)) takes0 T.g_NoLine (pa_cons (pv 1) pa_nil))))
      pss_nil))), ?_⟩
    refine ⟨_, rfl, a, c, rfl, hA, hw, fun H1 X1 => ?_⟩
    refine ⟨_, rfl, rfl, _, rfl, ?_⟩
    cases hf : c.fst with
    | none => exact iteF (q hf H1 X1)
    | some z =>
      refine iteT ⟨_, rfl, by show 1 ≤ 1000; decide, fun b nb => ⟨b, _, rfl, upd_same, fun d nd ne => ⟨rfl, d, [("name", .str z)], upd_same, by rw [upd_ne ne]; exact upd_same, ?_, qe z hf d _ (X1.trans (ex_raised nb ?_)) upd_same⟩⟩⟩
      · rw [upd_ne ne] at nd
        exact nd
      · rw [upd_ne ne] at nd
        exact nd
theorem ok_want_known {P : Program} {w : World} {K : PySem.W.Frag} {mg : Str → Option Value} {base : Heap} (T : Env K mg) : Fc P w K mg base 104 (He.ga K "want_known") [] (sp_want_known K ) := by
  obtain ⟨fd, D, F⟩ := fb_want_known T
  exact F.all (D.bindsN fun _ _ _ _ _ _ us hl => match us, hl with | [_], _ => rfl)
end
section
/-- not reached here -/
def sp_goings_within (K : PySem.W.Frag) : Sp := fun _ _ _ _ => False
theorem fb_goings_within {P : Program} {w : World} {K : PySem.W.Frag} {mg : Str → Option Value} {base : Heap} (T : Env K mg) : ∃ fd, FunD K "goings_within" "goings_within" (defArgs s_goings_within) (defBody s_goings_within) (defScope s_goings_within) [] [] (He.ga K "goings_within") fd ∧ Fb P w K mg base 105 (He.ga K "goings_within") fd ["card", "begin", "end"] (sp_goings_within K) := by
  obtain ⟨fd, F⟩ := T.f_goings_within
  refine ⟨fd, F, fb_of F sc_goings_within (fun vs H Q E h => ?_) (fun cdv A outer s H vs Q E hr h => ?_)⟩
  · exact h.elim
  · exact h.elim
theorem ok_goings_within {P : Program} {w : World} {K : PySem.W.Frag} {mg : Str → Option Value} {base : Heap} (T : Env K mg) : Fc P w K mg base 105 (He.ga K "goings_within") [] (sp_goings_within K ) := by
  obtain ⟨fd, D, F⟩ := fb_goings_within T
  exact F.all (D.bindsN fun _ _ _ _ _ _ us hl => match us, hl with | [_, _, _], _ => rfl)
end
section
theorem all_notes {P : Program} {w : World} {K : PySem.W.Frag} {mg : Str → Option Value} {base : Heap} (T : Env K mg) : ∀ d, NtF P w K mg base (40 + d) d
  | 0 => {
      card := (ok_Card_notes_at T).mono (by decide)
      once := (ok_Once_notes_at T).mono (by decide)
      every := (ok_Every_notes_at T).mono (by decide)
      join := fc_no fun vs H Q E h => by
          obtain ⟨a, cs, n, _, _, h, _⟩ := h
          have := (CardD.join cs).wt_pos
          omega
      less := fc_no fun vs H Q E h => by
          obtain ⟨a, c, d0, n, _, _, h, _⟩ := h
          have := (CardD.less c d0).wt_pos
          omega
      swap := fc_no fun vs H Q E h => by
          obtain ⟨a, c, D, d0, n, _, _, h, _⟩ := h
          have := (CardD.swap c D d0).wt_pos
          omega
      later := fc_no fun vs H Q E h => by
          obtain ⟨a, c, m, n, _, _, h, _⟩ := h
          have := (CardD.later c m).wt_pos
          omega
      noted := fc_no fun vs H Q E h => by
          obtain ⟨a, c, z, n, _, _, h, _⟩ := h
          have := (CardD.noted c z).wt_pos
          omega
    }
  | d + 1 => by
    have F := all_notes (P := P) (w := w) (base := base) T d
    exact {
      card := F.card.mono (by omega)
      once := F.once.mono (by omega)
      every := F.every.mono (by omega)
      join := ok_Join_notes_at T (Nat.le_add_right 40 _)
          F.join
          F.less
          F.swap
          F.later
          F.noted
      less := ok_Less_notes_at T (Nat.le_add_right 40 _)
          F.join
          F.less
          F.swap
          F.later
          F.noted
      swap := ok_Swap_notes_at T (Nat.le_add_right 40 _)
          F.join
          F.less
          F.swap
          F.later
          F.noted
      later := ok_Later_notes_at T (Nat.le_add_right 40 _)
          F.join
          F.less
          F.swap
          F.later
          F.noted
      noted := ok_Noted_notes_at T (Nat.le_add_right 40 _)
          F.join
          F.less
          F.swap
          F.later
          F.noted
    }
end
section
/-- the going of a card at a moment, or None -/
def GgAt (K : PySem.W.Frag) (H : Hp) (x : V) (n : Nat) : Option (List Str) → Prop
  | none => x = .non
  | some ws => ∃ g, x = .ref g ∧ GoAt K H g n (srtS ws)
def sp_going_at (K : PySem.W.Frag) : Sp := fun vs H Q E => ∃ (x y : V) (b : Bool), vs = [x, y] ∧ CdIs K H x b ∧ (b = false → ∀ H', Ex H H' → E (.ref (He.ga K "NoCard")) none H') ∧
  (b = true → Cl K H y ∧ (isM y = false → ∀ H', Ex H H' → E (.ref (He.ga K "NoTime")) none H') ∧ ∀ n : Nat, y = .int (n : Nat) → ∃ (a : Addr) (c : CardD), x = .ref a ∧ CardAt K H c a ∧ c.wt ≤ 60 ∧ c.ok ∧
    (∀ z, c.fst = some z → ∀ d H', Ex H H' → H' d = some (.xd [("name", .str z)]) → E (.ref (He.ga K "NoLine")) (some d) H') ∧
    (c.fst = none → ∀ z H', Ex H H' → GgAt K H' z n (c.nts n) → Q z H'))
theorem fb_going_at {P : Program} {w : World} {K : PySem.W.Frag} {mg : Str → Option Value} {base : Heap} (T : Env K mg) : ∃ fd, FunD K "going_at" "going_at" (defArgs s_going_at) (defBody s_going_at) (defScope s_going_at) [] [] (He.ga K "going_at") fd ∧ Fb P w K mg base 106 (He.ga K "going_at") fd ["card", "moment"] (sp_going_at K) := by
  obtain ⟨fd, F⟩ := T.f_going_at
  refine ⟨fd, F, fb_of F sc_going_at (fun vs H Q E h => ?_) (fun cdv A outer s H vs Q E hr h => ?_)⟩
  · obtain ⟨x, y, b, rfl, _⟩ := h
    rfl
  · obtain ⟨x, y, b, rfl, hx, qe, hg⟩ := h
    refine ⟨_, (pss_cons (ps_expr (c_call (ok_want_card T) (hr.mono (by decide)) T.g_want_card T.k_want_card (takes_of rfl rfl rfl rfl) (pa_cons (pv 0) pa_nil)))
      (pss_cons (ps_expr (c_call (ok_want_moment T) (hr.mono (by decide)) T.g_want_moment T.k_want_moment (takes_of rfl rfl rfl rfl) (pa_cons (pv 1) pa_nil)))
      (pss_cons (ps_expr (c_call (ok_want_known T) (hr.mono (by decide)) T.g_want_known T.k_want_known (takes_of rfl rfl rfl rfl) (pa_cons (pv 0) pa_nil)))
      (pss_cons (ps_set (i := 2) sc_going_at.nd rfl (Or.inl rfl) (c_methV (k := (40 + 60)) (pv 0) (hr.mono (by decide)) (takes_of rfl rfl rfl rfl) (pa_cons (pv 1) pa_nil)))
      (pss_one (ps_ret (pe_ifExp (pt_cmpR op_isN (pv 2) pe_non (nomark _)) pe_non (c_make T.mk_Going (ok_Going_init T) (hr.mono (by decide)) T.g_Going (takes_of rfl rfl rfl rfl) (pa_cons (pv 1) (pa_cons (pv 2) pa_nil)))))))))), ?_⟩
    refine ⟨_, rfl, x, b, rfl, hx, fun hb => ?_, fun hb => qe hb H (.refl _)⟩
    obtain ⟨cl, qt, hg⟩ := hg hb
    refine ⟨_, rfl, y, rfl, cl, fun hm => ?_, fun hm => qt hm H (.refl _)⟩
    obtain ⟨i, rfl, i0⟩ := isM_w hm
    obtain ⟨n, rfl⟩ := Int.eq_ofNat_of_zero_le i0
    obtain ⟨a, c, rfl, hA, hw, hk, ql, q⟩ := hg n rfl
    refine ⟨_, rfl, a, c, rfl, hA, hw, fun hf H1 X1 => ?_, ql⟩
    have q := q hf
    obtain ⟨C, dx, fs, f, h1, cC, hm', lk, sp, F1, hsp⟩ := v_notes T (all_notes (P := P) (w := w) (base := base) T 60) (hA.mono X1)
    refine ⟨_, rfl, a, C, dx, fs, f, rfl, h1, cC, hm', lk, _, rfl, sp, F1, hsp _ _ _ _ (hA.mono X1) hw hk fun z H2 X2 hz => ?_⟩
    have X12 := X1.trans X2
    refine ⟨_, rfl, rfl, ?_⟩
    cases hn : c.nts n with
    | none =>
      rw [hn] at hz q
      obtain rfl : z = .non := hz
      exact ⟨_, rfl, iteT (q .non H2 X12 rfl)⟩
    | some ws =>
      rw [hn] at hz q
      obtain ⟨p, rfl, hp⟩ := hz
      refine ⟨_, rfl, iteF ⟨_, rfl, _, rfl, fun g dg ng nd ne => ⟨rfl, ?_⟩⟩⟩
      show sp_Going_init K [.ref g, .int (n : Nat), .ref p] _ _ _
      obtain ⟨k1, k2, k3⟩ := c.nts_ok n ws hk hn
      exact go_new ng nd ne (nt_names (.inr hp) k1 k2 (by omega)) fun H3 X3 hG => ⟨rfl, q _ H3 (X12.trans X3) ⟨g, rfl, hG⟩⟩
theorem ok_going_at {P : Program} {w : World} {K : PySem.W.Frag} {mg : Str → Option Value} {base : Heap} (T : Env K mg) : Fc P w K mg base 106 (He.ga K "going_at") [] (sp_going_at K ) := by
  obtain ⟨fd, D, F⟩ := fb_going_at T
  exact F.all (D.bindsN fun _ _ _ _ _ _ us hl => match us, hl with | [_, _], _ => rfl)
end
section
def sp_goings_on (K : PySem.W.Frag) : Sp := fun vs H Q E => ∃ (a : Addr) (c : CardD) (y : V), vs = [.ref a, y] ∧ CardAt K H c a ∧ c.wt ≤ 60 ∧ Cl K H y ∧ (isM y = false → ∀ H', Ex H H' → E (.ref (He.ga K "NoTime")) none H') ∧ ∀ n : Nat, y = .int (n : Nat) → ∃ z, c.fst = some z ∧ ∀ d H', Ex H H' → H' d = some (.xd [("name", .str z)]) → E (.ref (He.ga K "NoLine")) (some d) H'
theorem fb_goings_on {P : Program} {w : World} {K : PySem.W.Frag} {mg : Str → Option Value} {base : Heap} (T : Env K mg) : ∃ fd, FunD K "goings_on" "goings_on" (defArgs s_goings_on) (defBody s_goings_on) (defScope s_goings_on) [] [] (He.ga K "goings_on") fd ∧ Fb P w K mg base 106 (He.ga K "goings_on") fd ["card", "day"] (sp_goings_on K) := by
  obtain ⟨fd, F⟩ := T.f_goings_on
  refine ⟨fd, F, fb_of F sc_goings_on (fun vs H Q E h => ?_) (fun cdv A outer s H vs Q E hr h => ?_)⟩
  · obtain ⟨a, c, y, rfl, _⟩ := h
    rfl
  · obtain ⟨a, c, y, rfl, hA, hw, cl, qt, qn⟩ := h
    refine ⟨_, (pss_cons (ps_expr (c_call (ok_want_card T) (hr.mono (by decide)) T.g_want_card T.k_want_card (takes_of rfl rfl rfl rfl) (pa_cons (pv 0) pa_nil)))
      (pss_cons (ps_expr (c_call (ok_want_moment T) (hr.mono (by decide)) T.g_want_moment T.k_want_moment (takes_of rfl rfl rfl rfl) (pa_cons (pv 1) pa_nil)))
      (pss_cons (ps_expr (c_call (ok_want_known T) (hr.mono (by decide)) T.g_want_known T.k_want_known (takes_of rfl rfl rfl rfl) (pa_cons (pv 0) pa_nil)))
      (pss_one (ps_ret (c_call (ok_goings_within T) (hr.mono (by decide)) T.g_goings_within T.k_goings_within (takes_of rfl rfl rfl rfl) (pa_cons (pv 0) (pa_cons (pe_op op_mul (pv 1) (pe_k T.v_DAY)) (pa_cons (pe_op op_add (pe_op op_mul (pv 1) (pe_k T.v_DAY)) (pe_k T.v_DAY)) pa_nil))))))))), ?_⟩
    obtain ⟨dx, hd, as, fs, h1, h2, h3, cc, lk, _⟩ := card_gen T hA
    refine ⟨_, rfl, .ref a, true, rfl, ⟨_, ty_ins cc.ins cc.cls h1, cc.isCard⟩, fun _ => ?_, nofun⟩
    refine ⟨_, rfl, y, rfl, cl, fun hm => ?_, fun hm => qt hm H (.refl _)⟩
    obtain ⟨i, rfl, i0⟩ := isM_w hm
    obtain ⟨n, rfl⟩ := Int.eq_ofNat_of_zero_le i0
    obtain ⟨z, hz, qe⟩ := qn n rfl
    exact ⟨_, rfl, a, c, rfl, hA, hw, fun e => (nomatch e.symm.trans hz), fun z' e d H1 X1 hd => by rw [hz] at e; cases e; exact qe d H1 X1 hd⟩
theorem ok_goings_on {P : Program} {w : World} {K : PySem.W.Frag} {mg : Str → Option Value} {base : Heap} (T : Env K mg) : Fc P w K mg base 106 (He.ga K "goings_on") [] (sp_goings_on K ) := by
  obtain ⟨fd, D, F⟩ := fb_goings_on T
  exact F.all (D.bindsN fun _ _ _ _ _ _ us hl => match us, hl with | [_, _], _ => rfl)
end
section
/-- a pot: what is left of a cell's digits, what mixes, and how often (m at most) it did -/
def PotN (m : Nat) (H : Hp) (p : Addr) : Prop := ∃ a b c : Int, H p = some (.lst [.int a, .int b, .int c]) ∧ 0 ≤ b ∧ b < 2147483647 ∧ 0 ≤ c ∧ c ≤ m
def Pot (H : Hp) (p : Addr) : Prop := ∃ a b c : Int, H p = some (.lst [.int a, .int b, .int c]) ∧ 0 ≤ b ∧ b < 2147483647 ∧ 0 ≤ c
def sp__law_pot (K : PySem.W.Frag) : Sp := fun vs H Q _ => ∃ (a : Addr) (ns : List Int) (k : Int), vs = [.ref a, .int k] ∧ SqL K H a (ns.map V.int) ∧ 0 ≤ k ∧ k < 1000 ∧ ∀ p H', H p = none → PotN 0 H' p → (∀ b, b ≠ p → H' b = H b) → Q (.ref p) H'
theorem fb__law_pot {P : Program} {w : World} {K : PySem.W.Frag} {mg : Str → Option Value} {base : Heap} (T : Env K mg) : ∃ fd, FunD K "_law_pot" "_law_pot" (defArgs s__law_pot) (defBody s__law_pot) (defScope s__law_pot) [] [] (He.ga K "_law_pot") fd ∧ Fb P w K mg base 1 (He.ga K "_law_pot") fd ["_law_script", "_law_k"] (sp__law_pot K) := by
  obtain ⟨fd, F⟩ := T.f__law_pot
  refine ⟨fd, F, fb_of F sc__law_pot (fun vs H Q E h => ?_) (fun cdv A outer s H vs Q E hr h => ?_)⟩
  · obtain ⟨a, ns, k, rfl, _⟩ := h
    rfl
  · obtain ⟨a, ns, k, rfl, hS, k0, k1, q⟩ := h
    refine ⟨_, (Evl.pss_cut (ps_set (i := 2) sc__law_pot.nd rfl (Or.inl rfl) (pe_ifExp (pt_cmpR op_lt (pv 1) (pe_callB call_len (by rfl) T.n_len (by decide +kernel) (pa_cons (pv 0) pa_nil)) (nomark _)) (pe_ix ix_list (pv 0) (pv 1) (fun _ _ => rfl)) pe_int))
      (pss_cons (ps_set (i := 3) sc__law_pot.nd rfl (Or.inl rfl) (pe_op op_add (pe_op op_mod (pe_op op_pow (pe_op op_add (pe_op op_mod (pv 2) pe_int) (pe_op op_mul pe_int (pe_op op_add (pv 1) pe_int))) pe_int) pe_int) pe_int))
      (pss_one (ps_ret (pe_lst (pa_cons (pe_callB (call_max2 rfl) (by rfl) T.n_max (by decide +kernel) (pa_cons pe_int (pa_cons (pe_op op_sub (pv 2) (pe_op op_pow pe_int pe_int)) pa_nil))) (pa_cons (pv 3) (pa_cons pe_int pa_nil)))))))), ?_⟩
    refine ⟨fun σ' H' => H' = H ∧ ∃ cell : Int, σ' = [some (.ref a), some (.int k), some (.int cell), none], ?_, ?_⟩
    · refine ⟨_, rfl, _, rfl, _, _, rfl, .inl ⟨_, hS, rfl⟩, _, _, rfl, rfl, _, rfl, ite2 (fun c => ?_) (fun c => ?_)⟩
      · have c2 : k < ((ns.map V.int).length : Int) := of_decide_eq_true c
        rw [List.length_map] at c2
        obtain ⟨i, rfl⟩ := Int.eq_ofNat_of_zero_le k0
        have hi : i < ns.length := Int.ofNat_lt.mp c2
        refine ⟨_, rfl, _, rfl, a, _, _, .int ns[i], rfl, rfl, hS, ?_, rfl, ns[i], rfl⟩
        exact atI_nat (by rw [List.getElem?_map, List.getElem?_eq_getElem hi]; rfl)
      · exact ⟨rfl, 0, rfl⟩
    · rintro σ' H' ⟨rfl, cell, rfl⟩
      have m1 := Int.emod_nonneg cell (show (2147483629 : Int) ≠ 0 by decide)
      have m2 := Int.emod_lt_of_pos cell (show (0 : Int) < 2147483629 by decide)
      refine ⟨_, rfl, _, _, rfl, rfl, (by omega), _, rfl, _, _, rfl, rfl, _, _, rfl, rfl, (.inl ⟨(by decide), (by decide)⟩), _, _, rfl, rfl, _, _, rfl, rfl, ⟨(by decide), ⟨(by decide), (by omega)⟩⟩, _, _, rfl, rfl, (by omega), _, _, rfl, rfl, _, rfl, _, _, rfl, rfl, ⟨(by decide), ⟨(by decide), (by decide)⟩⟩, _, _, rfl, rfl, _, _, rfl, _, rfl, (by show 3 ≤ sizeLine; decide), ?_⟩
      intro a1 na1
      refine q a1 _ na1 ⟨_, _, _, upd_same, Int.add_nonneg (Int.emod_nonneg _ (by decide)) (by decide), ?_, Int.le_refl _, Int.le_refl _⟩ fun b n => upd_ne n
      have z := Int.emod_lt_of_pos ((cell % 2147483629 + 40503 * (k + 1)) ^ Int.toNat 3) (show (0 : Int) < 2147483563 by decide)
      omega
theorem ok__law_pot {P : Program} {w : World} {K : PySem.W.Frag} {mg : Str → Option Value} {base : Heap} (T : Env K mg) : Fc P w K mg base 1 (He.ga K "_law_pot") [] (sp__law_pot K ) := by
  obtain ⟨fd, D, F⟩ := fb__law_pot T
  exact F.all (D.bindsN fun _ _ _ _ _ _ us hl => match us, hl with | [_, _], _ => rfl)
end
section
/-- the pot at p is drawn from: everything else stays -/
def PotOn (H H' : Hp) (p : Addr) : Prop := Pot H' p ∧ ∀ b o, b ≠ p → H b = some o → H' b = some o
def PotOnN (m : Nat) (H H' : Hp) (p : Addr) : Prop := PotN m H' p ∧ ∀ b o, b ≠ p → H b = some o → H' b = some o
theorem PotN.pot {m : Nat} {H : Hp} {p : Addr} (h : PotN m H p) : Pot H p := by
  obtain ⟨a, b, c, e, r1, r2, r3, _⟩ := h
  exact ⟨a, b, c, e, r1, r2, r3⟩
theorem PotN.le {m n : Nat} {H : Hp} {p : Addr} (h : PotN m H p) (l : m ≤ n) : PotN n H p := by
  obtain ⟨a, b, c, e, r1, r2, r3, r4⟩ := h
  exact ⟨a, b, c, e, r1, r2, r3, Int.le_trans r4 (Int.ofNat_le.mpr l)⟩
theorem PotOnN.le {m n : Nat} {H H' : Hp} {p : Addr} (h : PotOnN m H H' p) (l : m ≤ n) : PotOnN n H H' p := ⟨h.1.le l, h.2⟩
theorem PotOnN.on {m : Nat} {H H' : Hp} {p : Addr} (h : PotOnN m H H' p) : PotOn H H' p := ⟨h.1.pot, h.2⟩
theorem PotN.refl {m : Nat} {H : Hp} {p : Addr} (h : PotN m H p) : PotOnN m H H p := ⟨h, fun _ _ _ e => e⟩
theorem PotOnN.trans {m n : Nat} {H H1 H2 : Hp} {p : Addr} (a : PotOnN m H H1 p) (b : PotOnN n H1 H2 p) : PotOnN n H H2 p := ⟨b.1, fun c o n e => b.2 c o n (a.2 c o n e)⟩
theorem PotN.ex {m : Nat} {H H1 : Hp} {p : Addr} (h : PotN m H p) (e : Ex H H1) : PotN m H1 p := by
  obtain ⟨x, y, z, g, r⟩ := h
  exact ⟨x, y, z, e _ _ g, r⟩
theorem PotOnN.ex2 {m : Nat} {H H1 H2 : Hp} {p : Addr} (P : PotOnN m H H1 p) (e : Ex H1 H2) : PotOnN m H H2 p := ⟨P.1.ex e, fun b u nb h => e _ _ (P.2 b u nb h)⟩
theorem PotN.oth {m : Nat} {H : Hp} {p l : Addr} {o : HO} (h : PotN m H p) (n : l ≠ p) : PotN m (upd H l o) p := by
  obtain ⟨x, y, z, e, r⟩ := h
  exact ⟨x, y, z, by rw [upd_ne (Ne.symm n)]; exact e, r⟩
theorem PotOnN.upd {m : Nat} {H H' : Hp} {p l : Addr} {o : HO} (P : PotOnN m H H' p) (n : H l = none) (ne : l ≠ p) : PotOnN m H (upd H' l o) p :=
  ⟨P.1.oth ne, fun b u nb h => by rw [upd_ne (ne_of_none h n)]; exact P.2 b u nb h⟩
theorem PotOnN.ex {m : Nat} {H0 H H' : Hp} {p : Addr} (e : Ex H0 H) (n : H0 p = none) (P : PotOnN m H H' p) : Ex H0 H' := fun b o h => P.2 b o (ne_of_none h n) (e b o h)
theorem PotOn.refl {H : Hp} {p : Addr} (h : Pot H p) : PotOn H H p := ⟨h, fun _ _ _ e => e⟩
theorem PotOn.trans {H H1 H2 : Hp} {p : Addr} (a : PotOn H H1 p) (b : PotOn H1 H2 p) : PotOn H H2 p := ⟨b.1, fun c o n e => b.2 c o n (a.2 c o n e)⟩
def sp__law_take (K : PySem.W.Frag) : Sp := fun vs H Q _ => ∃ (p : Addr) (m : Nat) (n : Int), vs = [.ref p, .int n] ∧ PotN m H p ∧ m ≤ 4611686018427387904 ∧ 0 < n ∧ n.natAbs.log2 < 9000 ∧ ∀ (d : Int) H', 0 ≤ d → d < n → PotOnN (m + 1) H H' p → Q (.int d) H'
theorem fb__law_take {P : Program} {w : World} {K : PySem.W.Frag} {mg : Str → Option Value} {base : Heap} (T : Env K mg) : ∃ fd, FunD K "_law_take" "_law_take" (defArgs s__law_take) (defBody s__law_take) (defScope s__law_take) [] [] (He.ga K "_law_take") fd ∧ Fb P w K mg base 1 (He.ga K "_law_take") fd ["_law_pot_here", "_law_many_here"] (sp__law_take K) := by
  obtain ⟨fd, F⟩ := T.f__law_take
  refine ⟨fd, F, fb_of F sc__law_take (fun vs H Q E h => ?_) (fun cdv A outer s H vs Q E hr h => ?_)⟩
  · obtain ⟨p, m, n, rfl, _⟩ := h
    rfl
  · obtain ⟨p, m, n, rfl, ⟨a, b, c, hp, b0, b1, c0, c1⟩, hm, n0, n1, q⟩ := h
    refine ⟨_, (pss_cons (ps_if (pt_cmpR op_gt (pe_ix ix_list (pv 0) pe_int (fun _ _ => rfl)) pe_int (nomark _))
      (pss_cons (ps_asg (pe_callB call_divmodW (by rfl) T.n_divmod (by decide +kernel) (pa_cons (pe_ix ix_list (pv 0) pe_int (fun _ _ => rfl)) (pa_cons (pv 1) pa_nil))) (pg_tup (by rfl) (pgs_cons (pg_sub (pv 0) pe_int set_list) (pgs_cons (pg_name (i := 2) sc__law_take.nd rfl (Or.inl rfl)) pgs_nil))))
      (pss_one (ps_ret (pv 2))))
      pss_nil)
      (pss_cons (ps_asg (pe_op op_add (pe_ix ix_list (pv 0) pe_int (fun _ _ => rfl)) pe_int) (pg_sub (pv 0) pe_int set_list))
      (pss_cons (ps_asg (pe_op op_mod (pe_op op_add (pe_op op_add (pe_op op_mul (pe_ix ix_list (pv 0) pe_int (fun _ _ => rfl)) pe_int) (pe_op op_mul (pe_op op_mul (pe_ix ix_list (pv 0) pe_int (fun _ _ => rfl)) (pe_ix ix_list (pv 0) pe_int (fun _ _ => rfl))) pe_int)) pe_int) pe_int) (pg_sub (pv 0) pe_int set_list))
      (pss_one (ps_ret (pe_op op_mod (pe_op op_fdiv (pe_op op_mod (pe_op op_mul (pe_ix ix_list (pv 0) pe_int (fun _ _ => rfl)) (pe_ix ix_list (pv 0) pe_int (fun _ _ => rfl))) pe_int) pe_int) (pv 1))))))), ?_⟩
    refine ⟨_, rfl, p, _, _, .int a, rfl, rfl, sq_lst hp, rfl, _, _, rfl, rfl, _, rfl, ite2 (fun _ => ?_) (fun _ => ?_)⟩
    · refine ⟨_, rfl, p, _, _, .int a, rfl, rfl, sq_lst hp, rfl, _, rfl, a, n, rfl, ⟨n0, PyProof.noPylong_of_log2 n1⟩, fun t ht => ?_⟩
      have pt : p ≠ t := ne_of_none hp ht
      refine ⟨t, _, rfl, sq_tup upd_same, rfl, _, _, rfl, _, rfl, p, [.int a, .int b, .int c], 0, 0, rfl, rfl, (by rw [upd_ne pt]; exact hp), rfl, _, _, rfl, rfl, _, rfl, ?_⟩
      refine q _ _ (Int.emod_nonneg _ (by omega)) (Int.emod_lt_of_pos _ n0) ⟨⟨_, _, _, upd_same, b0, b1, c0, by omega⟩, fun x o nx e => ?_⟩
      rw [upd_ne nx, upd_ne (ne_of_none e ht)]
      exact e
    · refine ⟨_, rfl, p, _, _, .int c, rfl, rfl, sq_lst hp, rfl, _, _, rfl, rfl, _, rfl, p, _, 2, 2, rfl, rfl, hp, rfl, ?_⟩
      refine ⟨_, rfl, _, _, _, _, rfl, rfl, (sq_lst upd_same), rfl, _, _, rfl, rfl, (.inl ⟨(by omega), (by omega)⟩), _, rfl, _, _, _, _, rfl, rfl, (sq_lst upd_same), rfl, _, rfl, _, _, _, _, rfl, rfl, (sq_lst upd_same), rfl, _, _, rfl, rfl, (.inl ⟨(by omega), (by omega)⟩), _, _, rfl, rfl, (.inr ⟨(by decide), (by decide)⟩), _, _, rfl, rfl, _, _, rfl, rfl, _, _, rfl, rfl, (by omega), _, rfl, _, _, _, _, rfl, rfl, upd_same, rfl, _, rfl, _, _, _, _, rfl, rfl, (sq_lst upd_same), rfl, _, rfl, _, _, _, _, rfl, rfl, (sq_lst upd_same), rfl, _, _, rfl, rfl, (.inl ⟨(by omega), (by omega)⟩), _, _, rfl, rfl, (by omega), _, _, rfl, rfl, ⟨(by decide), (by decide)⟩, _, rfl, _, _, rfl, rfl, n0, ?_⟩
      try dsimp only [tNil]
      refine q _ _ (Int.emod_nonneg _ (by omega)) (Int.emod_lt_of_pos _ n0) ⟨⟨_, _, _, upd_same, Int.emod_nonneg _ (by decide), Int.emod_lt_of_pos _ (by decide), by omega, by omega⟩, fun x o nx e => ?_⟩
      rw [upd_ne nx, upd_ne nx]
      exact e
theorem PotOn.ex {H0 H H' : Hp} {p : Addr} (e : Ex H0 H) (n : H0 p = none) (P : PotOn H H' p) : Ex H0 H' := fun b o h => P.2 b o (ne_of_none h n) (e b o h)
theorem PotOn.ex2 {H H1 H2 : Hp} {p : Addr} (P : PotOn H H1 p) (e : Ex H1 H2) : PotOn H H2 p := by
  obtain ⟨⟨x, y, z, h, r⟩, k⟩ := P
  exact ⟨⟨x, y, z, e _ _ h, r⟩, fun b u nb h => e _ _ (k b u nb h)⟩
theorem pot_ne {H H' : Hp} {p l : Addr} (P : PotOn H H' p) (n : H' l = none) : l ≠ p := fun z => by
  obtain ⟨_, _, _, e, _⟩ := P.1
  rw [z, e] at n
  cases n
theorem PotOn.fresh {H H' : Hp} {p b : Addr} (P : PotOn H H' p) (n : H' b = none) : H b = none := by
  cases e : H b with
  | none => rfl
  | some o =>
    by_cases hb : b = p
    · obtain ⟨_, _, _, e2, _⟩ := P.1
      rw [hb, e2] at n
      cases n
    · rw [P.2 b o hb e] at n
      cases n
theorem ok__law_take {P : Program} {w : World} {K : PySem.W.Frag} {mg : Str → Option Value} {base : Heap} (T : Env K mg) : Fc P w K mg base 1 (He.ga K "_law_take") [] (sp__law_take K ) := by
  obtain ⟨fd, D, F⟩ := fb__law_take T
  exact F.all (D.bindsN fun _ _ _ _ _ _ us hl => match us, hl with | [_, _], _ => rfl)
end
section
def sp__law_great (K : PySem.W.Frag) : Sp := fun vs H Q _ => ∃ (p : Addr) (m : Nat), vs = [.ref p] ∧ PotN m H p ∧ m ≤ 4611686018427380000 ∧ ∀ (d : Nat) H', d < 10 ^ 56 → PotOnN (m + 3) H H' p → Q (.int (d : Int)) H'
theorem fb__law_great {P : Program} {w : World} {K : PySem.W.Frag} {mg : Str → Option Value} {base : Heap} (T : Env K mg) : ∃ fd, FunD K "_law_great" "_law_great" (defArgs s__law_great) (defBody s__law_great) (defScope s__law_great) [] [] (He.ga K "_law_great") fd ∧ Fb P w K mg base 2 (He.ga K "_law_great") fd ["_law_pot_here"] (sp__law_great K) := by
  obtain ⟨fd, F⟩ := T.f__law_great
  refine ⟨fd, F, fb_of F sc__law_great (fun vs H Q E h => ?_) (fun cdv A outer s H vs Q E hr h => ?_)⟩
  · obtain ⟨p, m, rfl, _⟩ := h
    rfl
  · obtain ⟨p, m, rfl, hp, hm, q⟩ := h
    refine ⟨_, (pss_cons (ps_set (i := 1) sc__law_great.nd rfl (Or.inl rfl) (c_call (ok__law_take T) (hr.mono (by decide)) T.g__law_take T.k__law_take takes0 (pa_cons (pv 0) (pa_cons pe_int pa_nil))))
      (pss_cons (ps_if (pt_cmpR op_eq (pv 1) pe_int (nomark _))
      (pss_one (ps_ret (c_call (ok__law_take T) (hr.mono (by decide)) T.g__law_take T.k__law_take takes0 (pa_cons (pv 0) (pa_cons pe_int pa_nil)))))
      pss_nil)
      (pss_cons (ps_if (pt_cmpR op_eq (pv 1) pe_int (nomark _))
      (pss_one (ps_ret (c_call (ok__law_take T) (hr.mono (by decide)) T.g__law_take T.k__law_take takes0 (pa_cons (pv 0) (pa_cons pe_int pa_nil)))))
      pss_nil)
      (pss_cons (ps_if (pt_cmpR op_eq (pv 1) pe_int (nomark _))
      (pss_one (ps_ret (pe_op op_add (pe_op op_mul (pe_op op_add pe_int (c_call (ok__law_take T) (hr.mono (by decide)) T.g__law_take T.k__law_take takes0 (pa_cons (pv 0) (pa_cons pe_int pa_nil)))) (pe_op op_pow pe_int pe_int)) (c_call (ok__law_take T) (hr.mono (by decide)) T.g__law_take T.k__law_take takes0 (pa_cons (pv 0) (pa_cons pe_int pa_nil))))))
      pss_nil)
      (pss_one (ps_ret (c_call (ok__law_take T) (hr.mono (by decide)) T.g__law_take T.k__law_take takes0 (pa_cons (pv 0) (pa_cons (pe_op op_pow pe_int pe_int) pa_nil))))))))), ?_⟩
    refine ⟨_, rfl, p, m, 4, rfl, hp, by omega, by decide, by decide, fun w H1 w0 w1 P1 => ?_⟩
    have nn : ∀ d : Int, 0 ≤ d → ∃ n : Nat, d = (n : Int) := fun d h => ⟨d.toNat, by omega⟩
    rcases (by omega : w = 0 ∨ w = 1 ∨ w = 2 ∨ w = 3) with rfl | rfl | rfl | rfl
    · refine ⟨_, rfl, rfl, _, rfl, iteT ⟨_, rfl, p, m + 1, 5, rfl, P1.1, by omega, by decide, by decide, fun d H2 d0 d1 P2 => ?_⟩⟩
      obtain ⟨d, rfl⟩ := nn d d0
      exact q d H2 (Nat.lt_of_lt_of_le (Int.ofNat_lt.mp d1) (by decide)) ((P1.trans P2).le (by omega))
    · refine ⟨_, rfl, rfl, _, rfl, iteF ⟨_, rfl, rfl, _, rfl, iteT ⟨_, rfl, p, m + 1, 1000, rfl, P1.1, by omega, by decide, by decide, fun d H2 d0 d1 P2 => ?_⟩⟩⟩
      obtain ⟨d, rfl⟩ := nn d d0
      exact q d H2 (Nat.lt_of_lt_of_le (Int.ofNat_lt.mp d1) (by decide)) ((P1.trans P2).le (by omega))
    · refine ⟨_, rfl, rfl, _, rfl, iteF ⟨_, rfl, rfl, _, rfl, iteF ⟨_, rfl, rfl, _, rfl, iteT ⟨_, rfl, p, m + 1, 9, rfl, P1.1, by omega, by decide, by decide, fun d H2 d0 d1 P2 => ?_⟩⟩⟩⟩
      obtain ⟨d, rfl⟩ := nn d d0
      refine ⟨_, _, rfl, rfl, _, _, rfl, rfl, ⟨by decide, by decide, by decide⟩, _, _, rfl, rfl, .inl ⟨by omega, by omega⟩, _, rfl, p, m + 2, 1000, rfl, P2.1, by omega, by decide, by decide, fun e H3 e0 e1 P3 => ?_⟩
      obtain ⟨e, rfl⟩ := nn e e0
      refine ⟨_, _, rfl, rfl, ?_⟩
      have z : (1 + (d : Int)) * 10 ^ (54 : Int).toNat + (e : Int) = (((1 + d) * 10 ^ 54 + e : Nat) : Int) := by
        rw [show (54 : Int).toNat = 54 from rfl, Int.natCast_add, Int.natCast_mul, Int.natCast_add, Int.natCast_pow]
        rfl
      show Q (.int ((1 + (d : Int)) * 10 ^ (54 : Int).toNat + (e : Int))) H3
      rw [z]
      refine q _ H3 ?_ (P1.trans (P2.trans P3))
      have d2 : d < 9 := by omega
      have e2 : e < 1000 := by omega
      have m1 : (1 + d) * 10 ^ 54 ≤ 9 * 10 ^ 54 := Nat.mul_le_mul_right _ (by omega)
      have m2 : 9 * 10 ^ 54 + 1000 ≤ 10 ^ 56 := by decide +kernel
      omega
    · refine ⟨_, rfl, rfl, _, rfl, iteF ⟨_, rfl, rfl, _, rfl, iteF ⟨_, rfl, rfl, _, rfl, iteF ⟨_, rfl, _, _, rfl, rfl, ⟨by decide, by decide, by decide⟩, p, m + 1, _, rfl, P1.1, by omega, by decide +kernel, by decide +kernel, fun d H2 d0 d1 P2 => ?_⟩⟩⟩⟩
      obtain ⟨d, rfl⟩ := nn d d0
      have d3 : (d : Int) < ((10 ^ 56 : Nat) : Int) := Int.lt_of_lt_of_le d1 (by decide +kernel)
      exact q d H2 (Int.ofNat_lt.mp d3) ((P1.trans P2).le (by omega))
theorem ok__law_great {P : Program} {w : World} {K : PySem.W.Frag} {mg : Str → Option Value} {base : Heap} (T : Env K mg) : Fc P w K mg base 2 (He.ga K "_law_great") [] (sp__law_great K ) := by
  obtain ⟨fd, D, F⟩ := fb__law_great T
  exact F.all (D.bindsN fun _ _ _ _ _ _ us hl => match us, hl with | [_], _ => rfl)
end
section
theorem joinL_ones : ∀ l : List Nat, TL.joinL [] (l.map fun c => [c]) = l
  | [] => rfl
  | [c] => rfl
  | c :: d :: r => by
    show [c] ++ [] ++ TL.joinL [] ((d :: r).map fun c => [c]) = _
    rw [joinL_ones (d :: r)]
    rfl
theorem join_signs (l : List Nat) : Txt.join (Str.ofString "") (l.map fun c => SX.S [c]) = SX.S l := by
  have e := SX.join_S [] (l.map fun c => [c])
  rw [List.map_map, joinL_ones] at e
  exact e
end
section
theorem abc_at (d : Nat) (h : d < 26) : atI (Str.ofString "abcdefghijklmnopqrstuvwxyz").cps.toList (d : Int) = some (97 + d) := by
  have z : ∀ d ∈ List.range 26, atI (Str.ofString "abcdefghijklmnopqrstuvwxyz").cps.toList ((d : Nat) : Int) = some (97 + d) := by decide +kernel
  exact z d (List.mem_range.mpr h)
theorem lens_one : ∀ l : List Nat, ((l.map (fun c => SX.S [c])).map (·.length)).sum = l.length
  | [] => rfl
  | c :: r => by
    have := lens_one r
    show 1 + ((r.map (fun c => SX.S [c])).map (·.length)).sum = r.length + 1
    omega
def sp__law_name (K : PySem.W.Frag) : Sp := fun vs H Q _ => ∃ (p : Addr) (m : Nat), vs = [.ref p] ∧ PotN m H p ∧ m ≤ 4611686018427380000 ∧ ∀ (z : Str) H', nmN z.cps.toList = true → PotOnN (m + 20) H H' p → Q (.str z) H'
theorem fb__law_name {P : Program} {w : World} {K : PySem.W.Frag} {mg : Str → Option Value} {base : Heap} (T : Env K mg) : ∃ fd, FunD K "_law_name" "_law_name" (defArgs s__law_name) (defBody s__law_name) (defScope s__law_name) [] [] (He.ga K "_law_name") fd ∧ Fb P w K mg base 2 (He.ga K "_law_name") fd ["_law_pot_here"] (sp__law_name K) := by
  obtain ⟨fd, F⟩ := T.f__law_name
  refine ⟨fd, F, fb_of F sc__law_name (fun vs H Q E h => ?_) (fun cdv A outer s H vs Q E hr h => ?_)⟩
  · obtain ⟨p, m, rfl, _⟩ := h
    rfl
  · obtain ⟨p, m, rfl, hp, hm, q⟩ := h
    refine ⟨_, (pss_cons (ps_set (i := 1) sc__law_name.nd rfl (Or.inr rfl) pe_str)
      (Evl.pss_cut (ps_set (i := 2) sc__law_name.nd rfl (Or.inl rfl) (pe_op op_add pe_int (c_call (ok__law_take T) (hr.mono (by decide)) T.g__law_take T.k__law_take takes0 (pa_cons (pv 0) (pa_cons (pe_ix ix_list (pe_lst (pa_cons pe_int (pa_cons pe_int pa_nil))) (c_call (ok__law_take T) (hr.mono (by decide)) T.g__law_take T.k__law_take takes0 (pa_cons (pv 0) (pa_cons pe_int pa_nil))) (fun _ _ => rfl)) pa_nil)))))
      (pss_one (ps_ret (pe_join pe_str (pe_lc (own := [("_law_k", 3)]) (by rfl) sc__law_name.nd (pi_range1 (by rfl) T.n_range (pa_cons (pv 2) pa_nil)) (blkOk_by (own := [("_law_k", 3)]) (N := ["_law_pot_here", "_law_letters", "_law_size", "_law_k"]) (sc := defScope s__law_name) (by decide +kernel)) (fun _ _ _ _ _ => (pg_name (i := 3) sc__law_name.nd rfl (Or.inl rfl))) (fun _ _ _ _ _ => pts_nil) (fun _ _ _ _ _ => (pe_ix ix_str (pv 1) (c_call (ok__law_take T) (hr.mono (by decide)) T.g__law_take T.k__law_take takes0 (pa_cons (pv 0) (pa_cons (pe_ix (ix_listK K) (pe_lst (pa_cons pe_int (pa_cons pe_int pa_nil))) (c_call (ok__law_take T) (hr.mono (by decide)) T.g__law_take T.k__law_take takes0 (pa_cons (pv 0) (pa_cons pe_int pa_nil))) (fun _ _ => rfl)) pa_nil))) (fun _ _ => rfl))))))))), ?_⟩
    refine ⟨fun σ G => ∃ s : Nat, 1 ≤ s ∧ s ≤ 8 ∧ PotOnN (m + 2) H G p ∧ σ = [some (.ref p), some (.str (Str.ofString "abcdefghijklmnopqrstuvwxyz")), some (.int (s : Nat)), none], ?_, ?_⟩
    · refine ⟨_, rfl, by show 2 ≤ sizeLine; decide, fun a na => ?_⟩
      have X1 := ex_new (o := HO.lst [V.int 1, V.int 8]) na
      have ha : upd H a (HO.lst [V.int 1, V.int 8]) a = some (HO.lst [V.int 1, V.int 8]) := upd_same
      generalize upd H a (HO.lst [V.int 1, V.int 8]) = H1 at X1 ha ⊢
      have ap : a ≠ p := pot_ne (PotOn.refl hp.pot) na
      refine ⟨_, rfl, p, m, 2, rfl, hp.ex X1, by omega, by decide, by decide, fun d H2 d0 d1 P2 => ?_⟩
      have at_ : ∃ n : Nat, atI [V.int 1, V.int 8] d = some (.int (n : Int)) ∧ 0 < n ∧ n ≤ 8 := by
        rcases (by omega : d = 0 ∨ d = 1) with rfl | rfl
        · exact ⟨1, rfl, by decide, by decide⟩
        · exact ⟨8, rfl, by decide, by decide⟩
      obtain ⟨n, en, n0, n1⟩ := at_
      have P02 : PotOnN (m + 1) H H2 p := (hp.refl.ex2 X1).le (Nat.le_refl _) |>.trans P2
      refine ⟨a, _, d, _, rfl, rfl, sq_lst (P2.2 _ _ ap ha), en, p, m + 1, n, rfl, P2.1, by omega, by omega, ?_, fun d2 H3 e0 e1 P3 => ?_⟩
      · exact Nat.lt_of_le_of_lt (Nat.log2_le_self _) (by omega)
      obtain ⟨d2, rfl⟩ := Int.eq_ofNat_of_zero_le e0
      refine ⟨_, _, rfl, rfl, d2 + 1, by omega, by omega, P02.trans P3, ?_⟩
      show _ = [some (V.ref p), some (V.str (Str.ofString "abcdefghijklmnopqrstuvwxyz")), some (V.int ((d2 + 1 : Nat) : Int)), none]
      rw [show ((d2 + 1 : Nat) : Int) = 1 + (d2 : Int) by omega]
      rfl
    · rintro σ G ⟨s, s1, s2, P1, rfl⟩
      refine ⟨⟨_, rfl⟩, _, rfl, _, rfl, (by omega), (by omega), fun D nD => ?_⟩
      have Dp : D ≠ p := fun z => by
        obtain ⟨_, _, _, e, _⟩ := P1.1
        rw [z, e] at nD
        cases nD
      have nD0 : H D = none := P1.on.fresh nD
      refine lc_any (n := ((s : Nat) : Int).toNat) (J := Itr 0 ((s : Nat) : Int).toNat) L2.walk_range (fun i acc G => PotOnN (m + 2 + 2 * i) H G p ∧ ∃ l : List Nat, acc = l.map (fun c => V.str (SX.S [c])) ∧ l.length = i ∧ ∀ c ∈ l, 97 ≤ c ∧ c < 123) (fun i acc G l e => ⟨e.1.upd nD0 Dp, e.2⟩) ⟨P1, [], rfl, rfl, nofun⟩ (by omega) (fun i acc G e => ?_) (fun _ _ _ _ => trivial) (fun i x H2 H3 acc N hi e hD la y k _ => ?_) (fun acc H2 e hD => ?_)
      · obtain ⟨_, l, rfl, hl, _⟩ := e
        simp [hl]
      · obtain ⟨rfl, rfl⟩ := y
        obtain ⟨P2, l, rfl, hl, ha⟩ := e
        have hi8 : i < 8 := by omega
        refine ⟨rfl, _, rfl, _, rfl, (by decide), ?_⟩
        intro a1 na1
        have Xa1 := ex_new (o := HO.lst [V.int 3, V.int 26]) na1
        have ha1 : upd H3 a1 (HO.lst [V.int 3, V.int 26]) a1 = some (HO.lst [V.int 3, V.int 26]) := upd_same
        generalize upd H3 a1 (HO.lst [V.int 3, V.int 26]) = Ga1 at Xa1 ha1 ⊢
        refine ⟨_, rfl, ?_⟩
        have P3 := P2.ex2 Xa1
        have hD1 := Xa1 _ _ hD
        have ap : a1 ≠ p := pot_ne P2.on na1
        refine ⟨p, m + 2 + 2 * i, 2, rfl, P3.1, by omega, by decide, by decide, fun d H4 d0 d1 P4 => ?_⟩
        have at_ : ∃ n : Nat, atI [V.int 3, V.int 26] d = some (.int (n : Int)) ∧ 0 < n ∧ n ≤ 26 := by
          rcases (by omega : d = 0 ∨ d = 1) with rfl | rfl
          · exact ⟨3, rfl, by decide, by decide⟩
          · exact ⟨26, rfl, by decide, by decide⟩
        obtain ⟨n, en, n0, n1⟩ := at_
        refine ⟨a1, _, d, _, rfl, rfl, sq_lst (P4.2 _ _ ap ha1), en, p, m + 2 + 2 * i + 1, n, rfl, P4.1, by omega, by omega, ?_, fun c H5 c0 c1 P5 => ?_⟩
        · exact Nat.lt_of_le_of_lt (Nat.log2_le_self _) (by omega)
        obtain ⟨c, rfl⟩ := Int.eq_ofNat_of_zero_le c0
        have hD5 := P5.2 _ _ Dp (P4.2 _ _ Dp hD1)
        refine ⟨_, _, _, rfl, rfl, by decide, abc_at c (by omega), _, hD5, la, ?_⟩
        exact k _ H5 hD5 ⟨((P3.trans P4).trans P5).le (by omega), l ++ [97 + c], by simp, by simp [hl], fun x hx => (List.mem_append.mp hx).elim (ha x) fun z => by
          rw [List.mem_singleton.mp z]
          omega⟩
      · obtain ⟨P2, l, rfl, hl, ha⟩ := e
        refine ⟨_, _, l.map (fun c => SX.S [c]), rfl, rfl, .inl (sq_lst (by rw [hD, List.map_map]; rfl)), ?_, ?_⟩
        · rw [lens_one, List.length_map]
          have z : (Str.ofString "").length = 0 := rfl
          rw [z]
          omega
        rw [join_signs]
        refine q (SX.S l) H2 ?_ (P2.le (by omega))
        show nmN l = true
        unfold nmN
        rw [decide_eq_true (by omega), decide_eq_true (by omega), Bool.true_and, Bool.true_and, List.all_eq_true]
        exact fun c hc => by
          have := ha c hc
          rw [decide_eq_true (by omega), decide_eq_true (by omega)]
          rfl
theorem ok__law_name {P : Program} {w : World} {K : PySem.W.Frag} {mg : Str → Option Value} {base : Heap} (T : Env K mg) : Fc P w K mg base 2 (He.ga K "_law_name") [] (sp__law_name K ) := by
  obtain ⟨fd, D, F⟩ := fb__law_name T
  exact F.all (D.bindsN fun _ _ _ _ _ _ us hl => match us, hl with | [_], _ => rfl)
end
section
def sp__law_notes_drawn (K : PySem.W.Frag) : Sp := fun vs H Q _ => ∃ (p : Addr) (m : Nat), vs = [.ref p] ∧ PotN m H p ∧ m ≤ 4611686018427370000 ∧ ∀ (a : Addr) (ws : List Str) H', Nms ws → ws.Nodup → ws.length ≤ 7 → H a = none → a ≠ p → H' a = some (.lst (ws.map V.str)) → PotOnN (m + 150) H H' p → Q (.ref a) H'
theorem fb__law_notes_drawn {P : Program} {w : World} {K : PySem.W.Frag} {mg : Str → Option Value} {base : Heap} (T : Env K mg) : ∃ fd, FunD K "_law_notes_drawn" "_law_notes_drawn" (defArgs s__law_notes_drawn) (defBody s__law_notes_drawn) (defScope s__law_notes_drawn) [] [] (He.ga K "_law_notes_drawn") fd ∧ Fb P w K mg base 3 (He.ga K "_law_notes_drawn") fd ["_law_pot_here"] (sp__law_notes_drawn K) := by
  obtain ⟨fd, F⟩ := T.f__law_notes_drawn
  refine ⟨fd, F, fb_of F sc__law_notes_drawn (fun vs H Q E h => ?_) (fun cdv A outer s H vs Q E hr h => ?_)⟩
  · obtain ⟨p, m, rfl, _⟩ := h
    rfl
  · obtain ⟨p, m, rfl, hp, hm, q⟩ := h
    refine ⟨_, (pss_cons (ps_set (i := 1) sc__law_notes_drawn.nd rfl (Or.inl rfl) (pe_lst pa_nil))
      (pss_cons (ps_for (passes_of rfl) rfl (pi_range1 (by rfl) T.n_range (pa_cons (pe_ix ix_list (pe_lst (pa_cons pe_int (pa_cons pe_int (pa_cons pe_int (pa_cons pe_int (pa_cons pe_int (pa_cons pe_int pa_nil))))))) (c_call (ok__law_take T) (hr.mono (by decide)) T.g__law_take T.k__law_take takes0 (pa_cons (pv 0) (pa_cons pe_int pa_nil))) (fun _ _ => rfl)) pa_nil)) (pg_name (i := 2) sc__law_notes_drawn.nd rfl (Or.inl rfl))
      (pss_cons (ps_set (i := 3) sc__law_notes_drawn.nd rfl (Or.inl rfl) (c_call (ok__law_name T) (hr.mono (by decide)) T.g__law_name T.k__law_name takes0 (pa_cons (pv 0) pa_nil)))
      (pss_one (ps_if (pt_cmpR op_notIn_seq (pv 3) (pv 1) (by rfl))
      (pss_one (ps_expr (pe_bm PySem.F.plainAttrs_list PySem.F.slot_list_append PySem.F.type_list_append mt_append (pv 1) (pa_cons (pv 3) pa_nil))))
      pss_nil))))
      (pss_one (ps_ret (pv 1))))), ?_⟩
    refine ⟨(by decide), ?_⟩
    intro a1 na1
    have Xa1 := ex_new (o := HO.lst []) na1
    have ha1 : upd H a1 (HO.lst []) a1 = some (HO.lst []) := upd_same
    generalize upd H a1 (HO.lst []) = Ga1 at Xa1 ha1 ⊢
    refine ⟨(by decide), ?_⟩
    intro a2 na2
    have Xa2 := ex_new (o := HO.lst [V.int 0, V.int 0, V.int 1, V.int 2, V.int 3, V.int 7]) na2
    have ha2 : upd Ga1 a2 (HO.lst [V.int 0, V.int 0, V.int 1, V.int 2, V.int 3, V.int 7]) a2 = some (HO.lst [V.int 0, V.int 0, V.int 1, V.int 2, V.int 3, V.int 7]) := upd_same
    generalize upd Ga1 a2 (HO.lst [V.int 0, V.int 0, V.int 1, V.int 2, V.int 3, V.int 7]) = Ga2 at Xa2 ha2 ⊢
    have P0 := hp.refl.ex2 (Xa1.trans Xa2)
    have a1p : a1 ≠ p := pot_ne hp.refl.on na1
    have a2p : a2 ≠ p := pot_ne (hp.refl.ex2 Xa1).on na2
    have a12 : a2 ≠ a1 := (ne_of_none ha1 na2).symm
    refine ⟨_, rfl, p, m, 6, rfl, P0.1, by omega, by decide, by decide, fun d H3 d0 d1 P3 => ?_⟩
    have at_ : ∃ n : Nat, atI [V.int 0, V.int 0, V.int 1, V.int 2, V.int 3, V.int 7] d = some (.int (n : Int)) ∧ n ≤ 7 := by
      rcases (by omega : d = 0 ∨ d = 1 ∨ d = 2 ∨ d = 3 ∨ d = 4 ∨ d = 5) with rfl | rfl | rfl | rfl | rfl | rfl
      · exact ⟨0, rfl, by decide⟩
      · exact ⟨0, rfl, by decide⟩
      · exact ⟨1, rfl, by decide⟩
      · exact ⟨2, rfl, by decide⟩
      · exact ⟨3, rfl, by decide⟩
      · exact ⟨7, rfl, by decide⟩
    obtain ⟨n, en, n1⟩ := at_
    have P03 := P0.trans P3
    have h13 := P3.2 _ _ a1p (Xa2 _ _ ha1)
    refine ⟨a2, _, d, _, rfl, rfl, sq_lst (P3.2 _ _ a2p ha2), en, _, rfl, by omega, by omega, ?_⟩
    refine for_range (fun i σ G => PotOnN (m + 1 + 20 * i) H G p ∧ ∃ (ws : List Str) (v2 v3 : Option V), σ = [some (.ref p), some (.ref a1), v2, v3] ∧ G a1 = some (.lst (ws.map V.str)) ∧ Nms ws ∧ ws.Nodup ∧ ws.length ≤ i) ⟨P03, [], _, _, rfl, h13, nofun, List.nodup_nil, Nat.le_refl _⟩ ?_ ?_
    · rintro i σ G hi ⟨PG, ws, v2, v3, rfl, hG, nw, nd, lw⟩
      have hi7 : i < 7 := by omega
      refine ⟨_, rfl, p, m + 1 + 20 * i, rfl, PG.1, by omega, fun z H4 hz P4 => ?_⟩
      have P5 := PG.trans P4
      have hG4 := P4.2 _ _ a1p hG
      refine ⟨_, rfl, _, rfl, a1, _, rfl, .inl (sq_lst hG4), rfl, flat_strs _, _, rfl, ?_⟩
      rw [inV_str]
      by_cases c : z ∈ ws
      · rw [decide_eq_true c]
        exact iteF ⟨P5.le (by omega), ws, _, _, rfl, hG4, nw, nd, by omega⟩
      · rw [decide_eq_false c]
        refine iteT ?_
        refine ⟨_, rfl, (.inl ⟨rfl, ⟨_, (sq_lst hG4)⟩⟩), _, rfl, _, _, _, rfl, rfl, hG4, ?_⟩
        refine ⟨by rw [List.length_map]; exact small_len (by omega), ?_⟩
        have P6 := P5.upd (l := a1) (o := HO.lst (List.map V.str ws ++ [V.str z])) na1 a1p
        exact ⟨P6.le (by omega), ws ++ [z], _, _, rfl, by rw [List.map_append]; exact upd_same, fun x hx => (List.mem_append.mp hx).elim (nw x) fun hx => by rw [List.mem_singleton.mp hx]; exact hz, List.nodup_append.mpr ⟨nd, List.pairwise_singleton _ _, fun x hx y hy e => c (by rw [← List.mem_singleton.mp hy, ← e]; exact hx)⟩, by rw [List.length_append, List.length_singleton]; omega⟩
    · rintro σ G ⟨PG, ws, v2, v3, rfl, hG, nw, nd, lw⟩
      have l7 : ws.length ≤ 7 := by omega
      exact ⟨_, rfl, q a1 ws G nw nd l7 na1 a1p hG (PG.le (by omega))⟩
theorem ok__law_notes_drawn {P : Program} {w : World} {K : PySem.W.Frag} {mg : Str → Option Value} {base : Heap} (T : Env K mg) : Fc P w K mg base 3 (He.ga K "_law_notes_drawn") [] (sp__law_notes_drawn K ) := by
  obtain ⟨fd, D, F⟩ := fb__law_notes_drawn T
  exact F.all (D.bindsN fun _ _ _ _ _ _ us hl => match us, hl with | [_], _ => rfl)
end
section
abbrev RunD := Nat × Nat × Nat
def runM (r : RunD) : List Nat := (List.range r.2.1).map fun k => r.1 + r.2.2 * k
def momsR (rs : List RunD) : List Nat := rs.flatMap runM
def runT (r : RunD) : Tr := if r.2.1 = 1 then .at r.1 else .ov [.at r.1] r.2.1 r.2.2
def okRun (r : RunD) : Prop := 1 ≤ r.2.1 ∧ r.2.1 ≤ 4 ∧ 1 ≤ r.2.2 ∧ r.2.2 ≤ 300
def RunsOk (lo hi : Nat) (rs : List RunD) : Prop := (∀ r ∈ rs, okRun r) ∧ (momsR rs).Pairwise (· < ·) ∧ ∀ n ∈ momsR rs, lo ≤ n ∧ n < hi
def runV (r : RunD) : HO := .tup [.int (r.1 : Nat), .int (r.2.1 : Nat), .int (r.2.2 : Nat)]
def RunsL (H : Hp) (as : List Addr) (rs : List RunD) : Prop := Paired (fun a r => H a = some (runV r)) as rs
def RunsAt (H : Hp) (p : Addr) (rs : List RunD) : Prop := ∃ as, H p = some (.lst (as.map V.ref)) ∧ RunsL H as rs
theorem RunsL.imp {H H' : Hp} {as : List Addr} {rs : List RunD} (k : ∀ b o, (∀ ys, o ≠ .lst ys) → H b = some o → H' b = some o) (h : RunsL H as rs) : RunsL H' as rs := by
  unfold RunsL at h ⊢
  induction h with
  | nil => exact .nil
  | cons h1 _ ih => exact .cons (k _ _ nofun h1) ih
theorem RunsL.mono {H H' : Hp} {as : List Addr} {rs : List RunD} (h : RunsL H as rs) (e : Ex H H') : RunsL H' as rs := h.imp fun _ _ _ z => e _ _ z
theorem RunsAt.mono {H H' : Hp} {p : Addr} {rs : List RunD} (h : RunsAt H p rs) (e : Ex H H') : RunsAt H' p rs := let ⟨as, h1, h2⟩ := h; ⟨as, e _ _ h1, h2.mono e⟩
theorem paired_get {α β : Type} {F : α → β → Prop} {as : List α} {bs : List β} {i : Nat} {a : α} (h : Paired F as bs) (e : as[i]? = some a) : ∃ b, bs[i]? = some b ∧ F a b := by
  induction h generalizing i with
  | nil => cases e
  | cons h1 _ ih =>
    cases i with
    | zero =>
      cases e
      exact ⟨_, rfl, h1⟩
    | succ i => exact ih e
theorem momsR_app (rs us : List RunD) : momsR (rs ++ us) = momsR rs ++ momsR us := List.flatMap_append
theorem momsR_one (r : RunD) : momsR [r] = runM r := by simp [momsR]
theorem mem_runM {r : RunD} {n : Nat} : n ∈ runM r ↔ ∃ k, k < r.2.1 ∧ n = r.1 + r.2.2 * k := by
  unfold runM
  rw [List.mem_map]
  constructor
  · rintro ⟨k, hk, e⟩
    exact ⟨k, List.mem_range.mp hk, e.symm⟩
  · rintro ⟨k, hk, e⟩
    exact ⟨k, List.mem_range.mpr hk, e.symm⟩
theorem runM_lt {r : RunD} (h : 1 ≤ r.2.2) : (runM r).Pairwise (· < ·) := by
  unfold runM
  rw [List.pairwise_map]
  refine List.pairwise_lt_range.imp fun {a b} z => ?_
  have := Nat.mul_lt_mul_of_pos_left z (show 0 < r.2.2 by omega)
  omega
theorem runsOk_snoc {lo hi hj : Nat} {rs : List RunD} {r : RunD} (h : RunsOk lo hi rs) (hr : okRun r) (h1 : hi ≤ r.1) (h0 : lo ≤ hi) (h2 : r.1 + (r.2.1 - 1) * r.2.2 < hj) : RunsOk lo hj (rs ++ [r]) := by
  obtain ⟨a, b, c⟩ := h
  have top : ∀ n ∈ runM r, r.1 ≤ n ∧ n < hj := fun n hn => by
    obtain ⟨k, hk, rfl⟩ := mem_runM.mp hn
    have : r.2.2 * k ≤ (r.2.1 - 1) * r.2.2 := by
      rw [Nat.mul_comm]
      exact Nat.mul_le_mul_right _ (by omega)
    omega
  have l1 : r.1 < hj := by omega
  refine ⟨fun x hx => ?_, ?_, fun n hn => ?_⟩
  · rcases List.mem_append.mp hx with h | h
    · exact a x h
    · rw [List.mem_singleton.mp h]
      exact hr
  · rw [momsR_app, momsR_one, List.pairwise_append]
    refine ⟨b, runM_lt hr.2.2.1, fun x hx y hy => ?_⟩
    have := (c x hx).2
    have := (top y hy).1
    omega
  · rw [momsR_app, momsR_one] at hn
    rcases List.mem_append.mp hn with h | h
    · have := c n h
      omega
    · have := top n h
      omega
theorem runsOk_nil {lo hi : Nat} : RunsOk lo hi [] := ⟨nofun, .nil, nofun⟩
theorem moms_runT {r : RunD} (h : okRun r) : (runT r).moms = runM r := by
  unfold runT
  by_cases c : r.2.1 = 1
  · rw [if_pos c]
    unfold Tr.moms runM
    rw [c]
    show [r.1] = [r.1 + r.2.2 * 0]
    rw [Nat.mul_zero, Nat.add_zero]
  · rw [if_neg c]
    unfold Tr.moms runM overN
    rw [List.map_eq_flatMap]
    show (List.range r.2.1).flatMap (fun t => [r.1 + t * r.2.2]) = _
    simp only [Nat.mul_comm]
theorem moms_runs {rs : List RunD} (h : ∀ r ∈ rs, okRun r) : momsL (rs.map runT) = momsR rs := by
  induction rs with
  | nil => rfl
  | cons r rs ih =>
    show (runT r).moms ++ momsL (rs.map runT) = runM r ++ momsR rs
    rw [moms_runT (h r List.mem_cons_self), ih fun x hx => h x (List.mem_cons_of_mem _ hx)]
theorem momsR_len {rs : List RunD} (h : ∀ r ∈ rs, okRun r) : (momsR rs).length ≤ 4 * rs.length := by
  induction rs with
  | nil => exact Nat.le_refl _
  | cons r rs ih =>
    have h1 := ih fun x hx => h x (List.mem_cons_of_mem _ hx)
    have h2 := (h r List.mem_cons_self).2.1
    show (runM r ++ momsR rs).length ≤ 4 * (rs.length + 1)
    rw [List.length_append]
    unfold runM
    rw [List.length_map, List.length_range]
    omega
theorem atI_natV {ns : List Nat} {d : Int} (h0 : 0 ≤ d) (h1 : d < (ns.length : Nat)) : ∃ n : Nat, n ∈ ns ∧ atI (natV ns) d = some (.int (n : Nat)) := by
  obtain ⟨k, rfl⟩ := Int.eq_ofNat_of_zero_le h0
  have hk : k < ns.length := Int.ofNat_lt.mp h1
  refine ⟨ns[k], List.getElem_mem hk, atI_nat ?_⟩
  unfold natV
  rw [List.getElem?_map, List.getElem?_eq_getElem hk]
  rfl
theorem log_lt {n : Nat} (h : n < 10 ^ 200) : ((n : Nat) : Int).natAbs.log2 < 9000 := Nat.lt_trans (log_of (n := n) h) (by decide)
theorem lt_200 {n : Nat} (h : n < 10000) : n < 10 ^ 200 := Nat.lt_of_lt_of_le h (Nat.le_trans (show 10000 ≤ 10 ^ 4 by decide) (Nat.pow_le_pow_right (by decide) (by decide)))
end
section
def sp__law_runs (K : PySem.W.Frag) : Sp := fun vs H Q _ => ∃ (p : Addr) (m b t : Nat), vs = [.ref p, .int (b : Nat), .int (t : Nat)] ∧ PotN m H p ∧ m ≤ 4611686018427370000 ∧ t ≤ 20000 ∧ ∀ (a : Addr) (rs : List RunD) H', RunsOk b (b + t) rs → rs.length ≤ 6 → H a = none → a ≠ p → RunsAt H' a rs → PotOnN (m + 50) H H' p → Q (.ref a) H'
theorem fb__law_runs {P : Program} {w : World} {K : PySem.W.Frag} {mg : Str → Option Value} {base : Heap} (T : Env K mg) : ∃ fd, FunD K "_law_runs" "_law_runs" (defArgs s__law_runs) (defBody s__law_runs) (defScope s__law_runs) [] [] (He.ga K "_law_runs") fd ∧ Fb P w K mg base 2 (He.ga K "_law_runs") fd ["_law_pot_here", "_law_begin", "_law_top"] (sp__law_runs K) := by
  obtain ⟨fd, F⟩ := T.f__law_runs
  refine ⟨fd, F, fb_of F sc__law_runs (fun vs H Q E h => ?_) (fun cdv A outer s H vs Q E hr h => ?_)⟩
  · obtain ⟨p, m, b, t, rfl, _⟩ := h
    rfl
  · obtain ⟨p, m, b, t, rfl, hp, hm, ht, q⟩ := h
    refine ⟨_, (pss_cons (ps_set (i := 3) sc__law_runs.nd rfl (Or.inl rfl) (pe_lst pa_nil))
      (pss_cons (ps_set (i := 4) sc__law_runs.nd rfl (Or.inl rfl) pe_int)
      (pss_cons (ps_for (passes_of rfl) rfl (pi_range1 (by rfl) T.n_range (pa_cons (pe_ix ix_list (pe_lst (pa_cons pe_int (pa_cons pe_int (pa_cons pe_int (pa_cons pe_int (pa_cons pe_int (pa_cons pe_int pa_nil))))))) (c_call (ok__law_take T) (hr.mono (by decide)) T.g__law_take T.k__law_take takes0 (pa_cons (pv 0) (pa_cons pe_int pa_nil))) (fun _ _ => rfl)) pa_nil)) (pg_name (i := 5) sc__law_runs.nd rfl (Or.inl rfl))
      (pss_cons (ps_set (i := 6) sc__law_runs.nd rfl (Or.inl rfl) (pe_op op_add (pv 4) (c_call (ok__law_take T) (hr.mono (by decide)) T.g__law_take T.k__law_take takes0 (pa_cons (pv 0) (pa_cons (pe_ix ix_list (pe_lst (pa_cons pe_int (pa_cons pe_int (pa_cons pe_int (pa_cons pe_int pa_nil))))) (c_call (ok__law_take T) (hr.mono (by decide)) T.g__law_take T.k__law_take takes0 (pa_cons (pv 0) (pa_cons pe_int pa_nil))) (fun _ _ => rfl)) pa_nil)))))
      (pss_cons (ps_set (i := 7) sc__law_runs.nd rfl (Or.inl rfl) (pe_op op_add pe_int (c_call (ok__law_take T) (hr.mono (by decide)) T.g__law_take T.k__law_take takes0 (pa_cons (pv 0) (pa_cons (pe_ix ix_list (pe_lst (pa_cons pe_int (pa_cons pe_int (pa_cons pe_int pa_nil)))) (c_call (ok__law_take T) (hr.mono (by decide)) T.g__law_take T.k__law_take takes0 (pa_cons (pv 0) (pa_cons pe_int pa_nil))) (fun _ _ => rfl)) pa_nil)))))
      (pss_cons (ps_set (i := 8) sc__law_runs.nd rfl (Or.inl rfl) (pe_op op_add pe_int (c_call (ok__law_take T) (hr.mono (by decide)) T.g__law_take T.k__law_take takes0 (pa_cons (pv 0) (pa_cons pe_int pa_nil)))))
      (pss_one (ps_if (pt_cmpR op_lt (pv 6) (pv 2) (nomark _))
      (pss_cons (ps_set (i := 8) sc__law_runs.nd rfl (Or.inl rfl) (pe_callB (call_min2 rfl) (by rfl) T.n_min (by decide +kernel) (pa_cons (pv 8) (pa_cons (pe_op op_add pe_int (pe_op op_fdiv (pe_op op_sub (pe_op op_sub (pv 2) pe_int) (pv 6)) (pv 7))) pa_nil))))
      (pss_cons (ps_expr (pe_bm PySem.F.plainAttrs_list PySem.F.slot_list_append PySem.F.type_list_append mt_append (pv 3) (pa_cons (pe_tup (pa_cons (pe_op op_add (pv 1) (pv 6)) (pa_cons (pv 8) (pa_cons (pv 7) pa_nil)))) pa_nil)))
      (pss_one (ps_set (i := 4) sc__law_runs.nd rfl (Or.inl rfl) (pe_op op_add (pe_op op_add (pv 6) (pe_op op_mul (pe_op op_sub (pv 8) pe_int) (pv 7))) pe_int)))))
      pss_nil))))))
      (pss_one (ps_ret (pv 3)))))), ?_⟩
    refine ⟨(by decide), ?_⟩
    intro a na
    have Xa := ex_new (o := HO.lst []) na
    have ha : upd H a (HO.lst []) a = some (HO.lst []) := upd_same
    generalize upd H a (HO.lst []) = G0 at Xa ha ⊢
    have P0 := hp.refl.ex2 Xa
    have ap : a ≠ p := pot_ne hp.refl.on na
    refine ⟨(by decide), ?_⟩
    intro a1 na1
    have Xa1 := ex_new (o := HO.lst [V.int 0, V.int 1, V.int 1, V.int 2, V.int 3, V.int 4]) na1
    have ha1 : upd G0 a1 (HO.lst [V.int 0, V.int 1, V.int 1, V.int 2, V.int 3, V.int 4]) a1 = some (HO.lst [V.int 0, V.int 1, V.int 1, V.int 2, V.int 3, V.int 4]) := upd_same
    generalize upd G0 a1 (HO.lst [V.int 0, V.int 1, V.int 1, V.int 2, V.int 3, V.int 4]) = Ga1 at Xa1 ha1 ⊢
    have P1 := P0.ex2 Xa1
    have a1p : a1 ≠ p := pot_ne P0.on na1
    have ha0 := Xa1 _ _ ha
    refine ⟨_, rfl, p, m, 6, rfl, P1.1, by omega, by decide, by decide, fun d G1 d0 d1 S1 => ?_⟩
    have S01 := P1.trans S1
    obtain ⟨n, hn, en⟩ := atI_natV (ns := [0, 1, 1, 2, 3, 4]) d0 d1
    have n6 : n ≤ 6 := by
      simp only [List.mem_cons, List.not_mem_nil, or_false] at hn
      omega
    refine ⟨a1, _, d, _, rfl, rfl, sq_lst (S1.2 _ _ a1p ha1), en, _, rfl, by omega, by omega, ?_⟩
    refine for_range (fun i σ G => PotOnN (m + 1 + 5 * i) H G p ∧ ∃ (rs : List RunD) (at_ : Nat) (v : Nat → Option V), σ = [some (.ref p), some (.int (b : Nat)), some (.int (t : Nat)), some (.ref a), some (.int (at_ : Nat)), v 5, v 6, v 7, v 8] ∧ RunsAt G a rs ∧ RunsOk b (b + at_) rs ∧ RunsOk b (b + t) rs ∧ rs.length ≤ i) ⟨S01, [], 0, fun _ => none, rfl, ⟨[], S1.2 _ _ ap ha0, .nil⟩, runsOk_nil, runsOk_nil, Nat.le_refl _⟩ ?_ ?_
    · rintro i σ G hi ⟨PG, rs, at_, v, rfl, ⟨as, gA, hL⟩, hR, hR2, lr⟩
      have i6 : i < 6 := by omega
      refine ⟨_, rfl, _, rfl, (by decide), ?_⟩
      intro a2 na2
      have Xa2 := ex_new (o := HO.lst [V.int 1, V.int 60, V.int 500, V.int 1440]) na2
      have ha2 : upd G a2 (HO.lst [V.int 1, V.int 60, V.int 500, V.int 1440]) a2 = some (HO.lst [V.int 1, V.int 60, V.int 500, V.int 1440]) := upd_same
      generalize upd G a2 (HO.lst [V.int 1, V.int 60, V.int 500, V.int 1440]) = Ga2 at Xa2 ha2 ⊢
      have Q2 := PG.ex2 Xa2
      have a2p : a2 ≠ p := pot_ne PG.on na2
      refine ⟨_, rfl, p, m + 1 + 5 * i, 4, rfl, Q2.1, by omega, by decide, by decide, fun d1 G2 x0 x1 S2 => ?_⟩
      have Q3 := Q2.trans S2
      obtain ⟨n1, hn1, en1⟩ := atI_natV (ns := [1, 60, 500, 1440]) x0 x1
      have n1b : 1 ≤ n1 ∧ n1 ≤ 1440 := by
        simp only [List.mem_cons, List.not_mem_nil, or_false] at hn1
        omega
      refine ⟨a2, _, d1, _, rfl, rfl, sq_lst (S2.2 _ _ a2p ha2), en1, p, m + 1 + 5 * i + 1, (n1 : Nat), rfl, S2.1, by omega, by omega, log_lt (lt_200 (by omega)), fun f G3 f0 f1 S3 => ?_⟩
      obtain ⟨f, rfl⟩ := Int.eq_ofNat_of_zero_le f0
      have Q4 := Q3.trans S3
      refine ⟨_, _, rfl, rfl, ?_⟩
      show gName 6 (V.int ((at_ : Int) + (f : Int))) _ _ _
      rw [show (at_ : Int) + (f : Int) = ((at_ + f : Nat) : Int) by omega]
      refine ⟨_, rfl, (by decide), ?_⟩
      intro a3 na3
      have Xa3 := ex_new (o := HO.lst [V.int 1, V.int 30, V.int 240]) na3
      have ha3 : upd G3 a3 (HO.lst [V.int 1, V.int 30, V.int 240]) a3 = some (HO.lst [V.int 1, V.int 30, V.int 240]) := upd_same
      generalize upd G3 a3 (HO.lst [V.int 1, V.int 30, V.int 240]) = Ga3 at Xa3 ha3 ⊢
      have a3p : a3 ≠ p := pot_ne Q4.on na3
      have Q5 := Q4.ex2 Xa3
      refine ⟨_, rfl, p, m + 1 + 5 * i + 1 + 1, 3, rfl, Q5.1, by omega, by decide, by decide, fun d2 G4 x2 x3 S4 => ?_⟩
      have Q6 := Q5.trans S4
      obtain ⟨n2, hn2, en2⟩ := atI_natV (ns := [1, 30, 240]) x2 x3
      have n2b : 1 ≤ n2 ∧ n2 ≤ 240 := by
        simp only [List.mem_cons, List.not_mem_nil, or_false] at hn2
        omega
      refine ⟨a3, _, d2, _, rfl, rfl, sq_lst (S4.2 _ _ a3p ha3), en2, p, m + 1 + 5 * i + 1 + 1 + 1, (n2 : Nat), rfl, S4.1, by omega, by omega, log_lt (lt_200 (by omega)), fun s G5 s0 s1 S5 => ?_⟩
      obtain ⟨s, rfl⟩ := Int.eq_ofNat_of_zero_le s0
      have Q7 := Q6.trans S5
      refine ⟨_, _, rfl, rfl, ?_⟩
      show gName 7 (V.int ((1 : Int) + (s : Int))) _ _ _
      rw [show (1 : Int) + (s : Int) = ((1 + s : Nat) : Int) by omega]
      refine ⟨_, rfl, p, m + 1 + 5 * i + 1 + 1 + 1 + 1, 4, rfl, S5.1, by omega, by decide, by decide, fun k G6 k0 k1 S6 => ?_⟩
      obtain ⟨k, rfl⟩ := Int.eq_ofNat_of_zero_le k0
      have Q8 := Q7.trans S6
      have kp : ∀ z o, z ≠ p → G z = some o → G6 z = some o := fun z o hz e => S6.2 _ _ hz (S5.2 _ _ hz (S4.2 _ _ hz (Xa3 _ _ (S3.2 _ _ hz (S2.2 _ _ hz (Xa2 _ _ e))))))
      have gA6 := kp _ _ ap gA
      have npot : ∀ z o, (∀ ys, o ≠ .lst ys) → G z = some o → z ≠ p := fun z o ho e zp => by
        obtain ⟨u1, u2, u3, u4, _⟩ := PG.1
        rw [zp, u4] at e
        cases e
        exact ho _ rfl
      refine ⟨_, _, rfl, rfl, ?_⟩
      show gName 8 (V.int ((1 : Int) + (k : Int))) _ _ _
      rw [show (1 : Int) + (k : Int) = ((1 + k : Nat) : Int) by omega]
      generalize hF : at_ + f = F at *
      generalize hS : 1 + s = st at *
      generalize hM : 1 + k = mn at *
      by_cases c : F < t
      · refine ⟨_, rfl, _, rfl, _, _, rfl, rfl, _, rfl, ?_⟩
        rw [decide_eq_true (show ((F : Nat) : Int) < ((t : Nat) : Int) by omega)]
        refine iteT ?_
        obtain ⟨mm, em, mm1, mm4, mmt⟩ : ∃ mm : Nat, (if 1 + (((t : Nat) : Int) - 1 - ((F : Nat) : Int)) / ((st : Nat) : Int) < ((mn : Nat) : Int) then 1 + (((t : Nat) : Int) - 1 - ((F : Nat) : Int)) / ((st : Nat) : Int) else ((mn : Nat) : Int)) = ((mm : Nat) : Int) ∧ 1 ≤ mm ∧ mm ≤ 4 ∧ F + (mm - 1) * st < t := by
          rw [show (((t : Nat) : Int) - 1 - ((F : Nat) : Int)) = ((t - 1 - F : Nat) : Int) by omega]
          have e2 : ((t - 1 - F : Nat) : Int) / ((st : Nat) : Int) = (((t - 1 - F) / st : Nat) : Int) := rfl
          rw [e2]
          have dm := Nat.div_mul_le_self (t - 1 - F) st
          generalize hD : (t - 1 - F) / st = D at dm ⊢
          by_cases h : 1 + D < mn
          · rw [if_pos (by omega)]
            refine ⟨1 + D, by omega, by omega, by omega, ?_⟩
            rw [show 1 + D - 1 = D by omega]
            omega
          · rw [if_neg (by omega)]
            refine ⟨mn, rfl, by omega, by omega, ?_⟩
            have := Nat.mul_le_mul_right st (show mn - 1 ≤ D by omega)
            omega
        refine ⟨_, rfl, _, rfl, _, _, rfl, rfl, _, rfl, _, _, rfl, rfl, _, rfl, _, _, rfl, rfl, ⟨(by omega), (by omega)⟩, _, _, rfl, rfl, _, _, rfl, ?_⟩
        rw [em]
        have gA6' := gA6
        refine ⟨_, rfl, (.inl ⟨rfl, ⟨_, (sq_lst gA6)⟩⟩), _, rfl, _, rfl, _, _, rfl, rfl, _, rfl, _, rfl, (by show 3 ≤ sizeLine; decide), fun w nw => ?_⟩
        have Xw := ex_new (o := HO.tup [V.int (((b : Nat) : Int) + ((F : Nat) : Int)), V.int ((mm : Nat) : Int), V.int ((st : Nat) : Int)]) nw
        have hw : upd G6 w (HO.tup [V.int (((b : Nat) : Int) + ((F : Nat) : Int)), V.int ((mm : Nat) : Int), V.int ((st : Nat) : Int)]) w = some (HO.tup [V.int (((b : Nat) : Int) + ((F : Nat) : Int)), V.int ((mm : Nat) : Int), V.int ((st : Nat) : Int)]) := upd_same
        generalize upd G6 w (HO.tup [V.int (((b : Nat) : Int) + ((F : Nat) : Int)), V.int ((mm : Nat) : Int), V.int ((st : Nat) : Int)]) = G7 at Xw hw ⊢
        have Q9 := Q8.ex2 Xw
        have wa : w ≠ a := (ne_of_none gA6 nw).symm
        have hw' : G7 w = some (runV (b + F, mm, st)) := by
          rw [hw, show ((b : Nat) : Int) + ((F : Nat) : Int) = ((b + F : Nat) : Int) by omega]
          rfl
        have la := Paired.length hL
        refine ⟨_, _, _, rfl, rfl, (Xw _ _ gA6), small_len (by rw [List.length_map]; omega), ?_⟩
        refine ⟨_, rfl, _, rfl, _, _, rfl, rfl, _, rfl, _, _, rfl, rfl, .inl ⟨by omega, by omega⟩, _, _, rfl, rfl, _, _, rfl, rfl, ?_⟩
        have e7 : ((F : Nat) : Int) + (((mm : Nat) : Int) - 1) * ((st : Nat) : Int) + 1 = ((F + (mm - 1) * st + 1 : Nat) : Int) := by
          rw [show ((mm : Nat) : Int) - 1 = ((mm - 1 : Nat) : Int) by omega, Int.natCast_add, Int.natCast_add, Int.natCast_mul]
          rfl
        have hk : okRun (b + F, mm, st) := ⟨mm1, mm4, by show 1 ≤ st; omega, by show st ≤ 300; omega⟩
        have hRs : RunsL (upd G7 a (HO.lst (as.map V.ref ++ [V.ref w]))) (as ++ [w]) (rs ++ [(b + F, mm, st)]) := by
          refine Paired.snoc (hL.imp fun z o ho e => ?_) ?_
          · rw [upd_ne (fun za => by rw [za, gA] at e; cases e; exact ho _ rfl)]
            exact Xw _ _ (kp _ _ (npot z o ho e) e)
          · rw [upd_ne wa]
            exact hw'
        refine ⟨(Q9.upd na ap).le (by omega), rs ++ [(b + F, mm, st)], F + (mm - 1) * st + 1, (fun z => if z = 5 then some (.int (0 + (i : Nat))) else if z = 6 then some (.int (F : Nat)) else if z = 7 then some (.int (st : Nat)) else some (.int (mm : Nat))), ?_, ⟨as ++ [w], by rw [List.map_append]; exact upd_same, hRs⟩, runsOk_snoc hR hk (by show b + at_ ≤ b + F; omega) (by omega) (by show b + F + (mm - 1) * st < _; omega), runsOk_snoc hR hk (by show b + at_ ≤ b + F; omega) (by omega) (by show b + F + (mm - 1) * st < _; omega), by rw [List.length_append]; show rs.length + 1 ≤ _; omega⟩
        rw [← e7]
        rfl
      · refine ⟨_, rfl, _, rfl, _, _, rfl, rfl, _, rfl, ?_⟩
        rw [decide_eq_false (show ¬ ((F : Nat) : Int) < ((t : Nat) : Int) by omega)]
        refine iteF ?_
        exact ⟨Q8.le (by omega), rs, at_, (fun z => if z = 5 then some (.int (0 + (i : Nat))) else if z = 6 then some (.int (F : Nat)) else if z = 7 then some (.int (st : Nat)) else some (.int (mn : Nat))), rfl, ⟨as, gA6, hL.imp fun z o ho e => kp _ _ (npot z o ho e) e⟩, hR, hR2, by omega⟩
    · rintro σ G ⟨PG, rs, at_, v, rfl, hA, hR, hR2, lr⟩
      exact ⟨_, rfl, q a rs G hR2 (by omega) na ap hA (PG.le (by omega))⟩
theorem ok__law_runs {P : Program} {w : World} {K : PySem.W.Frag} {mg : Str → Option Value} {base : Heap} (T : Env K mg) : Fc P w K mg base 2 (He.ga K "_law_runs") [] (sp__law_runs K ) := by
  obtain ⟨fd, D, F⟩ := fb__law_runs T
  exact F.all (D.bindsN fun _ _ _ _ _ _ us hl => match us, hl with | [_, _, _], _ => rfl)
end
section
theorem rs_take {rs : List RunD} {i : Nat} {r : RunD} (_ : ∀ r ∈ rs, okRun r) (er : rs[i]? = some r) : momsR (rs.take (i + 1)) = momsR (rs.take i) ++ runM r := by
  rw [take_snoc er, momsR_app, momsR_one]
theorem natV_app (xs ys : List Nat) : natV (xs ++ ys) = natV xs ++ natV ys := List.map_append
def sp__law_moments_of (K : PySem.W.Frag) : Sp := fun vs H Q _ => ∃ (p : Addr) (rs : List RunD), vs = [.ref p] ∧ RunsAt H p rs ∧ (∀ r ∈ rs, okRun r) ∧ rs.length ≤ 6 ∧ ∀ a H', Ex H H' → H a = none → H' a = some (.lst (natV (momsR rs))) → Q (.ref a) H'
theorem fb__law_moments_of {P : Program} {w : World} {K : PySem.W.Frag} {mg : Str → Option Value} {base : Heap} (T : Env K mg) : ∃ fd, FunD K "_law_moments_of" "_law_moments_of" (defArgs s__law_moments_of) (defBody s__law_moments_of) (defScope s__law_moments_of) [] [] (He.ga K "_law_moments_of") fd ∧ Fb P w K mg base 1 (He.ga K "_law_moments_of") fd ["_law_runs_here"] (sp__law_moments_of K) := by
  obtain ⟨fd, F⟩ := T.f__law_moments_of
  refine ⟨fd, F, fb_of F sc__law_moments_of (fun vs H Q E h => ?_) (fun cdv A outer s H vs Q E hr h => ?_)⟩
  · obtain ⟨p, rs, rfl, _⟩ := h
    rfl
  · obtain ⟨p, rs, rfl, ⟨as, hp, hL⟩, hr, lr, q⟩ := h
    refine ⟨_, (pss_cons (ps_set (i := 1) sc__law_moments_of.nd rfl (Or.inl rfl) (pe_lst pa_nil))
      (pss_cons (ps_for (passes_of rfl) rfl (pi_list (pv 0)) (pg_tup (by rfl) (pgs_cons (pg_name (i := 2) sc__law_moments_of.nd rfl (Or.inr rfl)) (pgs_cons (pg_name (i := 3) sc__law_moments_of.nd rfl (Or.inl rfl)) (pgs_cons (pg_name (i := 4) sc__law_moments_of.nd rfl (Or.inr rfl)) pgs_nil))))
      (pss_one (ps_expr (pe_bm PySem.F.plainAttrs_list PySem.F.slot_list_extend PySem.F.type_list_extend mt_extend (pv 1) (pa_cons (pe_lc (own := [("_law_k", 5)]) (by rfl) sc__law_moments_of.nd (pi_range1 (by rfl) T.n_range (pa_cons (pv 3) pa_nil)) (blkOk_by (own := [("_law_k", 5)]) (N := ["_law_runs_here", "_law_found", "_law_first_here", "_law_many_here", "_law_step", "_law_k"]) (sc := defScope s__law_moments_of) (by decide +kernel)) (fun _ _ _ _ _ => (pg_name (i := 5) sc__law_moments_of.nd rfl (Or.inl rfl))) (fun _ _ _ _ _ => pts_nil) (fun _ _ _ _ _ => (pe_op op_add (pv 2) (pe_op op_mul (pv 4) (pv 5))))) pa_nil)))))
      (pss_one (ps_ret (pv 1))))), ?_⟩
    refine ⟨(by decide), ?_⟩
    intro a na
    have Xa := ex_new (o := HO.lst []) na
    have ha : upd H a (HO.lst []) a = some (HO.lst []) := upd_same
    generalize upd H a (HO.lst []) = G0 at Xa ha ⊢
    have pa : p ≠ a := ne_of_none hp na
    refine ⟨_, rfl, p, rfl, ⟨_, sq_lst (Xa _ _ hp)⟩, for_on as V.ref L2.walk_list (fun i σ G => Oth a G0 G ∧ ∃ v : Nat → Option V, σ = [some (.ref p), some (.ref a), v 2, v 3, v 4, v 5] ∧ G a = some (.lst (natV (momsR (rs.take i))))) ⟨Oth.refl _ _, fun _ => none, rfl, ha⟩ (fun i σ G z => sq_lst (z.1 _ _ pa (Xa _ _ hp))) ?_ ?_⟩
    · rintro i b σ G hb ⟨OG, v, rfl, gA⟩
      obtain ⟨r, er, hbr⟩ := paired_get hL hb
      have ba : b ≠ a := ne_of_none hbr na
      have gB : G b = some (runV r) := OG _ _ ba (Xa _ _ hbr)
      have rk := hr r (List.mem_of_getElem? er)
      have r4 := rk.2.1
      have r300 := rk.2.2.2
      refine ⟨_, _, rfl, (sq_tup gB), rfl, _, _, rfl, _, _, rfl, _, _, rfl, rfl, _, rfl, (.inl ⟨rfl, ⟨_, (sq_lst gA)⟩⟩), _, rfl, _, rfl, (by omega), (by omega), fun A nA => ?_⟩
      have aA : a ≠ A := ne_of_none gA nA
      refine lc_fm (n := r.2.1) (J := Itr 0 r.2.1) L2.walk_range (fun k => some (.int ((r.1 + r.2.2 * k : Nat) : Int))) (fun H' => Ex G H') (fun H' z e => ex_mut e nA) (.refl _) (by omega) (fun _ _ => trivial) (fun k x H5 H6 acc N hk e hD la y kk => ?_) fun H5 e hD => ?_
      · obtain ⟨rfl, rfl⟩ := y
        show L3.Turn _ _ _ _ _ _ (V.int (0 + ((k : Nat) : Int))) _ _
        rw [show (0 : Int) + (k : Nat) = (k : Nat) by omega]
        refine ⟨rfl, _, rfl, _, rfl, _, rfl, _, _, rfl, rfl, .inl ⟨by omega, by omega⟩, _, _, rfl, rfl, acc, hD, la, ?_⟩
        have ee : ((r.1 : Nat) : Int) + ((r.2.2 : Nat) : Int) * ((k : Nat) : Int) = ((r.1 + r.2.2 * k : Nat) : Int) := by
          rw [Int.natCast_add, Int.natCast_mul]
        show N (upd _ A (HO.lst (acc ++ [V.int (((r.1 : Nat) : Int) + ((r.2.2 : Nat) : Int) * ((k : Nat) : Int))])))
        rw [ee]
        exact kk _ e hD
      · have ed : (List.range r.2.1).filterMap (fun k => some (V.int ((r.1 + r.2.2 * k : Nat) : Int))) = natV (runM r) := by
          unfold natV runM
          rw [List.filterMap_eq_map', List.map_map]
          rfl
        rw [ed] at hD
        have hn := rs_take hr er
        have l1 := momsR_len (rs := rs.take i) fun x hx => hr x (List.mem_of_mem_take hx)
        have l2 : (rs.take i).length ≤ 6 := by
          rw [List.length_take]
          omega
        have l3 : (runM r).length = r.2.1 := by
          unfold runM
          rw [List.length_map, List.length_range]
        refine ⟨a, A, _, _, rfl, rfl, e _ _ gA, hD, sz_le (by rw [natV_len, natV_len]; omega), ?_⟩
        refine ⟨(OG.trans (ex_oth e)).upd, (fun z => if z = 2 then some (.int (r.1 : Nat)) else if z = 3 then some (.int (r.2.1 : Nat)) else if z = 4 then some (.int (r.2.2 : Nat)) else v z), rfl, ?_⟩
        rw [upd_same, hn, natV_app]
    · rintro σ G ⟨OG, v, rfl, gA⟩
      have la := Paired.length hL
      rw [la, List.take_length] at gA
      exact ⟨_, rfl, q a G (Oth.ex Xa na OG) na gA⟩
theorem ok__law_moments_of {P : Program} {w : World} {K : PySem.W.Frag} {mg : Str → Option Value} {base : Heap} (T : Env K mg) : Fc P w K mg base 1 (He.ga K "_law_moments_of") [] (sp__law_moments_of K ) := by
  obtain ⟨fd, D, F⟩ := fb__law_moments_of T
  exact F.all (D.bindsN fun _ _ _ _ _ _ us hl => match us, hl with | [_], _ => rfl)
end
section
theorem runT_ok {rs : List RunD} (h : ∀ r ∈ rs, okRun r) : okL_ (rs.map runT) := by
  induction rs with
  | nil =>
    show okL_ []
    unfold okL_
    trivial
  | cons r rs ih =>
    show okL_ (runT r :: rs.map runT)
    unfold okL_
    refine ⟨?_, ih fun x hx => h x (List.mem_cons_of_mem _ hx)⟩
    obtain ⟨r1, r2, r3, r4⟩ := h r List.mem_cons_self
    unfold runT
    split
    · unfold Tr.ok
      trivial
    · rename_i c
      unfold Tr.ok
      refine ⟨nofun, by omega, r3, ?_, ?_, List.pairwise_singleton _ _, ?_⟩
      · show r.2.1 * 1 ≤ 1440
        omega
      · show r.1 < r.2.2 + r.1
        omega
      · unfold okL_ Tr.ok
        exact ⟨trivial, by unfold okL_; trivial⟩
theorem runT_nest {rs : List RunD} (h : ∀ r ∈ rs, okRun r) : nestL (rs.map runT) ≤ 8 := by
  induction rs with
  | nil => exact Nat.zero_le _
  | cons r rs ih =>
    show max (runT r).nest (nestL (rs.map runT)) ≤ 8
    have h1 := ih fun x hx => h x (List.mem_cons_of_mem _ hx)
    have h2 : (runT r).nest ≤ 1 := by
      unfold runT
      split
      · exact Nat.zero_le _
      · exact Nat.le_refl _
    omega
theorem runT_spr {rs : List RunD} {lo hi : Nat} (h : RunsOk lo hi rs) (l : rs.length ≤ 6) : sprB (rs.map runT) = true := by
  have e := moms_runs h.1
  have h2 := momsR_len h.1
  unfold sprB
  rw [decide_eq_true (by rw [e]; omega), Bool.and_true]
  exact ris_of (runT_ok h.1) (by rw [e]; exact h.2.1)
def sp__law_spread (K : PySem.W.Frag) : Sp := fun vs H Q _ => ∃ (p : Addr) (rs : List RunD) (lo hi : Nat), vs = [.ref p] ∧ RunsAt H p rs ∧ RunsOk lo hi rs ∧ rs.length ≤ 6 ∧ ∀ y H', Ex H H' → H y = none → SprAt K H' y (rs.map runT) → HeldN K (fun b => H b = none) H' y → Q (.ref y) H'
theorem fb__law_spread {P : Program} {w : World} {K : PySem.W.Frag} {mg : Str → Option Value} {base : Heap} (T : Env K mg) : ∃ fd, FunD K "_law_spread" "_law_spread" (defArgs s__law_spread) (defBody s__law_spread) (defScope s__law_spread) [] [] (He.ga K "_law_spread") fd ∧ Fb P w K mg base 66 (He.ga K "_law_spread") fd ["_law_runs_here"] (sp__law_spread K) := by
  obtain ⟨fd, F⟩ := T.f__law_spread
  refine ⟨fd, F, fb_of F sc__law_spread (fun vs H Q E h => ?_) (fun cdv A outer s H vs Q E hr h => ?_)⟩
  · obtain ⟨p, rs, lo, hi, rfl, _⟩ := h
    rfl
  · obtain ⟨p, rs, lo, hi, rfl, ⟨as, hp, hL⟩, hR, lr, q⟩ := h
    refine ⟨_, (pss_cons (ps_set (i := 1) sc__law_spread.nd rfl (Or.inl rfl) (pe_lst pa_nil))
      (pss_cons (ps_for (passes_of rfl) rfl (pi_list (pv 0)) (pg_tup (by rfl) (pgs_cons (pg_name (i := 2) sc__law_spread.nd rfl (Or.inl rfl)) (pgs_cons (pg_name (i := 3) sc__law_spread.nd rfl (Or.inl rfl)) (pgs_cons (pg_name (i := 4) sc__law_spread.nd rfl (Or.inl rfl)) pgs_nil))))
      (pss_one (ps_expr (pe_bm PySem.F.plainAttrs_list PySem.F.slot_list_append PySem.F.type_list_append mt_append (pv 1) (pa_cons (pe_ifExp (pt_cmpR op_eq (pv 3) pe_int (nomark _)) (c_make T.mk_At (ok_At_init T) (hr.mono (by decide)) T.g_At takes0 (pa_cons (pv 2) pa_nil)) (c_make T.mk_Over (ok_Over_init T) (hr.mono (by decide)) T.g_Over takes0 (pa_cons (pe_lst (pa_cons (c_make T.mk_At (ok_At_init T) (hr.mono (by decide)) T.g_At takes0 (pa_cons (pv 2) pa_nil)) pa_nil)) (pa_cons (pv 3) (pa_cons (pv 4) pa_nil))))) pa_nil)))))
      (pss_one (ps_ret (c_make T.mk_Spread (ok_Spread_init T) (hr.mono (by decide)) T.g_Spread takes0 (pa_cons (pv 1) pa_nil)))))), ?_⟩
    refine ⟨(by decide), ?_⟩
    intro a na
    have Xa := ex_new (o := HO.lst []) na
    have ha : upd H a (HO.lst []) a = some (HO.lst []) := upd_same
    generalize upd H a (HO.lst []) = G0 at Xa ha ⊢
    have pa : p ≠ a := ne_of_none hp na
    refine ⟨_, rfl, p, rfl, ⟨_, sq_lst (Xa _ _ hp)⟩, for_on as V.ref L2.walk_list (fun i σ G => Oth a G0 G ∧ ∃ (v : Nat → Option V) (bs : List Addr), σ = [some (.ref p), some (.ref a), v 2, v 3, v 4] ∧ G a = some (.lst (bs.map V.ref)) ∧ ShsAt K G ((rs.take i).map runT) bs) ⟨Oth.refl _ _, fun _ => none, [], rfl, ha, by unfold ShsAt; rfl⟩ (fun i σ G z => sq_lst (z.1 _ _ pa (Xa _ _ hp))) ?_ ?_⟩
    · rintro i b σ G hb ⟨OG, v, bs, rfl, gA, hS⟩
      obtain ⟨r, er, hbr⟩ := paired_get hL hb
      have ba : b ≠ a := ne_of_none hbr na
      have gB : G b = some (runV r) := OG _ _ ba (Xa _ _ hbr)
      have rk := hR.1 r (List.mem_of_getElem? er)
      have nx : ∀ {x : Addr} {H4 : Hp}, Ex G H4 → x ≠ a → ShAt K H4 (runT r) x → rAppend (V.ref a) [V.ref x] H4 fun _ H1 => Oth a G0 H1 ∧ ∃ (v_1 : Nat → Option V) (bs : List Addr), [some (V.ref p), some (V.ref a), some (V.int (r.1 : Nat)), some (V.int (r.2.1 : Nat)), some (V.int (r.2.2 : Nat))] = [some (V.ref p), some (V.ref a), v_1 2, v_1 3, v_1 4] ∧ H1 a = some (HO.lst (List.map V.ref bs)) ∧ ShsAt K H1 (List.map runT (List.take (i + 1) rs)) bs := fun {x H4} X4 xa hx => by
        have lb := hS.len
        rw [List.length_map, List.length_take] at lb
        refine ⟨a, _, _, rfl, rfl, X4 _ _ gA, small_len (by rw [List.length_map]; omega), (OG.trans (ex_oth X4)).upd, (fun z => if z = 2 then some (.int (r.1 : Nat)) else if z = 3 then some (.int (r.2.1 : Nat)) else some (.int (r.2.2 : Nat))), bs ++ [x], rfl, by rw [List.map_append]; exact upd_same, ?_⟩
        rw [take_snoc er, List.map_append]
        have h1 := ((hS.mono X4).snoc hx)
        exact h1.oth ((Oth.refl a H4).upd) fun ob h => by
          rw [X4 _ _ gA] at h
          cases h
          exact ⟨_, rfl⟩
      refine ⟨_, _, rfl, (sq_tup gB), rfl, _, _, rfl, _, _, rfl, _, _, rfl, rfl, _, rfl, (.inl ⟨rfl, ⟨_, (sq_lst gA)⟩⟩), _, rfl, rfl, _, rfl, ?_⟩
      by_cases c : r.2.1 = 1
      · rw [decide_eq_true (show V.int ((r.2.1 : Nat) : Int) = V.int 1 by rw [c]; rfl)]
        refine iteT ⟨_, rfl, fun x dx n1 n2 n3 => at_new n1 n2 n3 fun H4 X4 hx => ⟨rfl, ?_⟩⟩
        refine nx X4 (ne_of_none gA n1).symm ?_
        unfold runT
        rw [if_pos c]
        unfold ShAt
        exact hx
      · rw [decide_eq_false (show ¬ V.int ((r.2.1 : Nat) : Int) = V.int 1 from fun z => c (by injection z with z; omega))]
        refine iteF ⟨_, rfl, fun x dx n1 n2 n3 => at_new n1 n2 n3 fun H4 X4 hx => ⟨rfl, ?_⟩⟩
        refine ⟨by show 1 ≤ sizeLine; decide, fun l nl => ?_⟩
        have Xl := ex_new (o := HO.lst [V.ref x]) nl
        have hl : upd H4 l (HO.lst [V.ref x]) l = some (HO.lst [V.ref x]) := upd_same
        have hx5 := hx.mono Xl
        generalize upd H4 l (HO.lst [V.ref x]) = H5 at Xl hl hx5 ⊢
        have h1 : ShsAt K H5 [.at r.1] [x] := by
          unfold ShsAt
          exact ⟨x, [], rfl, by unfold ShAt; exact hx5, by unfold ShsAt; rfl⟩
        obtain ⟨r1, r2, r3, r4⟩ := rk
        refine ⟨_, rfl, _, rfl, fun y dy m1 m2 m3 => ⟨rfl, ?_⟩⟩
        show sp_Over_init K [.ref y, .ref l, .int (r.2.1 : Nat), .int (r.2.2 : Nat)] _ _ _
        refine over_newT (as := [x]) m1 m2 m3 (.inl hl) h1 ?_ ?_ fun H6 X6 hy => ⟨rfl, ?_⟩
        · unfold Tr.ok
          refine ⟨nofun, by omega, r3, ?_, ?_, List.pairwise_singleton _ _, ?_⟩
          · show r.2.1 * 1 ≤ 1440
            omega
          · show r.1 < r.2.2 + r.1
            omega
          · unfold okL_ Tr.ok
            exact ⟨trivial, by unfold okL_; trivial⟩
        · show 1 + max 0 0 ≤ 8
          decide
        refine nx ((X4.trans Xl).trans X6) (ne_of_none ((X4.trans Xl) _ _ gA) m1).symm ?_
        unfold runT
        rw [if_neg c]
        exact hy
    · rintro σ G ⟨OG, v, bs, rfl, gA, hS⟩
      have la := Paired.length hL
      rw [la, List.take_length] at hS
      refine ⟨_, rfl, fun y dy n1 n2 n3 => ?_⟩
      have XG := Oth.ex Xa na OG
      exact spread_newH n1 n2 n3 (.inl gA) hS (runT_nest hR.1) (runT_ok hR.1) (runT_spr hR lr) fun H4 X4 hy hN => ⟨rfl, q y H4 (XG.trans X4) (ex_fresh XG n1) hy fun dx kp hd e => ex_fresh XG (hN dx kp hd e)⟩
theorem ok__law_spread {P : Program} {w : World} {K : PySem.W.Frag} {mg : Str → Option Value} {base : Heap} (T : Env K mg) : Fc P w K mg base 66 (He.ga K "_law_spread") [] (sp__law_spread K ) := by
  obtain ⟨fd, D, F⟩ := fb__law_spread T
  exact F.all (D.bindsN fun _ _ _ _ _ _ us hl => match us, hl with | [_], _ => rfl)
end
section
/-- at t what a law has drawn for days -/
def SomeAt (H : Hp) (t g m : Addr) (D : DaysD) : Prop := H t = some (.tup [.str (SX.S D.bits), .int (D.since : Nat), optV D.till, .ref g, .ref m]) ∧ H g = some (.lst (natV D.out)) ∧ H m = some (.lst (natV D.also))
theorem SomeAt.mono {H H' : Hp} {t g m : Addr} {D : DaysD} (h : SomeAt H t g m D) (e : Ex H H') : SomeAt H' t g m D := ⟨e _ _ h.1, e _ _ h.2.1, e _ _ h.2.2⟩
end
section
/-- no number of these days is n or more -/
def DaysD.upto (D : DaysD) (n : Nat) : Prop := D.since < n ∧ (∀ u, D.till = some u → u < n) ∧ (∀ x ∈ D.out, x < n) ∧ ∀ x ∈ D.also, x < n
def sp__law_days_drawn (K : PySem.W.Frag) : Sp := fun vs H Q _ => ∃ (p : Addr) (m b : Nat), vs = [.ref p, .int (b : Nat)] ∧ PotN m H p ∧ m ≤ 4611686018427370000 ∧ ∀ (t g l : Addr) (D : DaysD) H', D.ok → SomeAt H' t g l D → D.upto (b + 20) → H t = none → t ≠ p → H g = none → g ≠ p → H l = none → l ≠ p → PotOnN (m + 60) H H' p → Q (.ref t) H'
theorem fb__law_days_drawn {P : Program} {w : World} {K : PySem.W.Frag} {mg : Str → Option Value} {base : Heap} (T : Env K mg) : ∃ fd, FunD K "_law_days_drawn" "_law_days_drawn" (defArgs s__law_days_drawn) (defBody s__law_days_drawn) (defScope s__law_days_drawn) [] [] (He.ga K "_law_days_drawn") fd ∧ Fb P w K mg base 2 (He.ga K "_law_days_drawn") fd ["_law_pot_here", "_law_base"] (sp__law_days_drawn K) := by
  obtain ⟨fd, F⟩ := T.f__law_days_drawn
  refine ⟨fd, F, fb_of F sc__law_days_drawn (fun vs H Q E h => ?_) (fun cdv A outer s H vs Q E hr h => ?_)⟩
  · obtain ⟨p, m, b, rfl, _⟩ := h
    rfl
  · obtain ⟨p, m, b, rfl, hp, hm, q⟩ := h
    refine ⟨_, (pss_cons (ps_set (i := 2) sc__law_days_drawn.nd rfl (Or.inl rfl) (pe_join pe_str (pe_lc (own := [("_law_k", 7)]) (by rfl) sc__law_days_drawn.nd (pi_range1 (by rfl) T.n_range (pa_cons (pe_ix ix_list (pe_lst (pa_cons pe_int (pa_cons pe_int (pa_cons pe_int (pa_cons pe_int (pa_cons pe_int (pa_cons pe_int pa_nil))))))) (c_call (ok__law_take T) (hr.mono (by decide)) T.g__law_take T.k__law_take takes0 (pa_cons (pv 0) (pa_cons pe_int pa_nil))) (fun _ _ => rfl)) pa_nil)) (blkOk_by (own := [("_law_k", 7)]) (N := ["_law_pot_here", "_law_base", "_law_ring", "_law_since", "_law_till", "_law_out", "_law_also", "_law_k", "_law_day"]) (sc := defScope s__law_days_drawn) (by decide +kernel)) (fun _ _ _ _ _ => (pg_name (i := 7) sc__law_days_drawn.nd rfl (Or.inl rfl))) (fun _ _ _ _ _ => pts_nil) (fun _ _ _ _ _ => (pe_ix ix_str pe_str (c_call (ok__law_take T) (hr.mono (by decide)) T.g__law_take T.k__law_take takes0 (pa_cons (pv 0) (pa_cons pe_int pa_nil))) (fun _ _ => rfl))))))
      (pss_cons (ps_set (i := 3) sc__law_days_drawn.nd rfl (Or.inl rfl) (pe_ix ix_list (pe_lst (pa_cons pe_int (pa_cons (pv 1) (pa_cons (pe_op op_add (pv 1) pe_int) pa_nil)))) (c_call (ok__law_take T) (hr.mono (by decide)) T.g__law_take T.k__law_take takes0 (pa_cons (pv 0) (pa_cons pe_int pa_nil))) (fun _ _ => rfl)))
      (pss_cons (ps_set (i := 4) sc__law_days_drawn.nd rfl (Or.inl rfl) (pe_ix ix_list (pe_lst (pa_cons pe_non (pa_cons pe_non (pa_cons (pe_op op_add (pv 3) (c_call (ok__law_take T) (hr.mono (by decide)) T.g__law_take T.k__law_take takes0 (pa_cons (pv 0) (pa_cons pe_int pa_nil)))) pa_nil)))) (c_call (ok__law_take T) (hr.mono (by decide)) T.g__law_take T.k__law_take takes0 (pa_cons (pv 0) (pa_cons pe_int pa_nil))) (fun _ _ => rfl)))
      (pss_cons (ps_set (i := 5) sc__law_days_drawn.nd rfl (Or.inl rfl) (pe_lst pa_nil))
      (pss_cons (ps_set (i := 6) sc__law_days_drawn.nd rfl (Or.inl rfl) (pe_lst pa_nil))
      (pss_cons (ps_for (passes_of rfl) rfl (pi_range1 (by rfl) T.n_range (pa_cons (pe_ix ix_list (pe_lst (pa_cons pe_int (pa_cons pe_int (pa_cons pe_int (pa_cons pe_int (pa_cons pe_int (pa_cons pe_int pa_nil))))))) (c_call (ok__law_take T) (hr.mono (by decide)) T.g__law_take T.k__law_take takes0 (pa_cons (pv 0) (pa_cons pe_int pa_nil))) (fun _ _ => rfl)) pa_nil)) (pg_name (i := 7) sc__law_days_drawn.nd rfl (Or.inl rfl))
      (pss_cons (ps_set (i := 8) sc__law_days_drawn.nd rfl (Or.inl rfl) (pe_op op_add (pv 1) (c_call (ok__law_take T) (hr.mono (by decide)) T.g__law_take T.k__law_take takes0 (pa_cons (pv 0) (pa_cons pe_int pa_nil)))))
      (pss_one (ps_if (pt_cmpR op_notIn_seq (pv 8) (pe_op op_cat (pv 5) (pv 6)) (by rfl))
      (pss_one (ps_expr (pe_bm PySem.F.plainAttrs_list PySem.F.slot_list_append PySem.F.type_list_append mt_append (pe_ix ix_list (pe_lst (pa_cons (pv 5) (pa_cons (pv 6) pa_nil))) (c_call (ok__law_take T) (hr.mono (by decide)) T.g__law_take T.k__law_take takes0 (pa_cons (pv 0) (pa_cons pe_int pa_nil))) (fun _ _ => rfl)) (pa_cons (pv 8) pa_nil))))
      pss_nil))))
      (pss_one (ps_ret (pe_tup (pa_cons (pv 2) (pa_cons (pv 3) (pa_cons (pv 4) (pa_cons (pv 5) (pa_cons (pv 6) pa_nil)))))))))))))), ?_⟩
    refine ⟨⟨_, rfl⟩, (by decide), ?_⟩
    intro a1 na1
    have Xa1 := ex_new (o := HO.lst [V.int 1, V.int 1, V.int 2, V.int 3, V.int 4, V.int 7]) na1
    have ha1 : upd H a1 (HO.lst [V.int 1, V.int 1, V.int 2, V.int 3, V.int 4, V.int 7]) a1 = some (HO.lst [V.int 1, V.int 1, V.int 2, V.int 3, V.int 4, V.int 7]) := upd_same
    generalize upd H a1 (HO.lst [V.int 1, V.int 1, V.int 2, V.int 3, V.int 4, V.int 7]) = Ga1 at Xa1 ha1 ⊢
    have P0 := hp.refl.ex2 Xa1
    have a1p : a1 ≠ p := pot_ne hp.refl.on na1
    refine ⟨_, rfl, p, m, 6, rfl, P0.1, by omega, by decide, by decide, fun d G1 d0 d1 S1 => ?_⟩
    obtain ⟨nb, hnb, enb⟩ := atI_natV (ns := [1, 1, 2, 3, 4, 7]) d0 d1
    have nb7 : 1 ≤ nb ∧ nb ≤ 7 := by
      simp only [List.mem_cons, List.not_mem_nil, or_false] at hnb
      omega
    have P1 := P0.trans S1
    refine ⟨a1, _, d, _, rfl, rfl, sq_lst (S1.2 _ _ a1p ha1), enb, _, rfl, by omega, by omega, fun A nA => ?_⟩
    have Ap : A ≠ p := pot_ne P1.on nA
    have nA0 : H A = none := P1.on.fresh nA
    refine lc_any (n := ((nb : Nat) : Int).toNat) (J := Itr 0 ((nb : Nat) : Int).toNat) L2.walk_range (fun i acc G => PotOnN (m + 1 + i) H G p ∧ ∃ l : List Nat, acc = l.map (fun c => V.str (SX.S [c])) ∧ l.length = i ∧ l.all (fun c => c == 48 || c == 49) = true) (fun i acc G l e => ⟨e.1.upd nA0 Ap, e.2⟩) ⟨P1, [], rfl, rfl, rfl⟩ (by omega) (fun i acc G e => ?_) (fun _ _ _ _ => trivial) (fun i x H2 H3 acc N hi e hD la y k _ => ?_) (fun acc G2 e hD => ?_)
    · obtain ⟨_, l, rfl, hl, _⟩ := e
      simp [hl]
    · obtain ⟨rfl, rfl⟩ := y
      obtain ⟨P2, l, rfl, hl, ha⟩ := e
      refine ⟨rfl, _, rfl, p, m + 1 + i, 2, rfl, P2.1, by omega, by decide, by decide, fun b H4 b0 b1 P4 => ?_⟩
      obtain ⟨mm, rfl⟩ := Int.eq_ofNat_of_zero_le b0
      have hm : mm = 0 ∨ mm = 1 := by omega
      have e4 := P4.2 _ _ Ap hD
      rcases hm with rfl | rfl
      · refine ⟨_, _, 48, rfl, rfl, by show 2 ≤ sizeLine; decide, rfl, _, e4, la, ?_⟩
        exact k _ H4 e4 ⟨(P2.trans P4).le (by omega), l ++ [48], by simp, by simp [hl], by simp [ha]⟩
      · refine ⟨_, _, 49, rfl, rfl, by show 2 ≤ sizeLine; decide, rfl, _, e4, la, ?_⟩
        exact k _ H4 e4 ⟨(P2.trans P4).le (by omega), l ++ [49], by simp, by simp [hl], by simp [ha]⟩
    obtain ⟨P2, bits, rfl, hl, hb01⟩ := e
    refine ⟨_, _, bits.map (fun c => SX.S [c]), rfl, rfl, .inl (sq_lst (by rw [hD, List.map_map]; rfl)), ?_, ?_⟩
    · have : ∀ l : List Nat, ((l.map (fun c => SX.S [c])).map (·.length)).sum = l.length := fun l => by
        induction l with
        | nil => rfl
        | cons c r ih =>
          show 1 + ((r.map (fun c => SX.S [c])).map (·.length)).sum = r.length + 1
          omega
      rw [this, List.length_map]
      have z : (Str.ofString "").length = 0 := rfl
      rw [z]
      omega
    rw [join_signs]
    have hsg : sgn bits = true := by
      unfold sgn
      rw [hb01, decide_eq_true (by omega)]
      rfl
    have P2 := P2.le (n := m + 8) (by omega)
    clear hD S1 P1 P0 nA nA0
    refine ⟨_, rfl, _, rfl, _, _, rfl, rfl, (by show 3 ≤ sizeLine; decide), ?_⟩
    intro a2 na2
    have Xa2 := ex_new (o := HO.lst [V.int 0, V.int (↑b : Int), V.int ((↑b : Int) + 3)]) na2
    have ha2 : upd G2 a2 (HO.lst [V.int 0, V.int (↑b : Int), V.int ((↑b : Int) + 3)]) a2 = some (HO.lst [V.int 0, V.int (↑b : Int), V.int ((↑b : Int) + 3)]) := upd_same
    generalize upd G2 a2 (HO.lst [V.int 0, V.int (↑b : Int), V.int ((↑b : Int) + 3)]) = Ga2 at Xa2 ha2 ⊢
    have P3 := P2.ex2 Xa2
    have a2p : a2 ≠ p := pot_ne P2.on na2
    refine ⟨_, rfl, p, m + 8, 3, rfl, P3.1, by omega, by decide, by decide, fun d2 G3 x0 x1 S3 => ?_⟩
    obtain ⟨s, es, hs3⟩ : ∃ s : Nat, atI [V.int 0, V.int (b : Nat), V.int ((b : Nat) + 3)] d2 = some (.int (s : Nat)) ∧ s ≤ b + 3 := by
      rcases (by omega : d2 = 0 ∨ d2 = 1 ∨ d2 = 2) with rfl | rfl | rfl
      · exact ⟨0, rfl, by omega⟩
      · exact ⟨b, rfl, by omega⟩
      · exact ⟨b + 3, rfl, by omega⟩
    have P4 := P3.trans S3
    refine ⟨a2, _, d2, _, rfl, rfl, sq_lst (S3.2 _ _ a2p ha2), es, ?_⟩
    refine ⟨_, rfl, _, rfl, p, m + 8 + 1, 12, rfl, P4.1, by omega, by decide, by decide, fun k G4 k0 k1 S4 => ?_⟩
    obtain ⟨k, rfl⟩ := Int.eq_ofNat_of_zero_le k0
    have P5 := P4.trans S4
    refine ⟨_, _, rfl, rfl, by show 3 ≤ sizeLine; decide, fun a3 na3 => ?_⟩
    have Xa3 := ex_new (o := HO.lst [V.non, V.non, V.int ((s : Nat) + (k : Nat))]) na3
    have ha3 : upd G4 a3 (HO.lst [V.non, V.non, V.int ((s : Nat) + (k : Nat))]) a3 = some (HO.lst [V.non, V.non, V.int ((s : Nat) + (k : Nat))]) := upd_same
    generalize upd G4 a3 (HO.lst [V.non, V.non, V.int ((s : Nat) + (k : Nat))]) = Ga3 at Xa3 ha3 ⊢
    have P6 := P5.ex2 Xa3
    have a3p : a3 ≠ p := pot_ne P5.on na3
    refine ⟨_, rfl, p, m + 8 + 1 + 1, 3, rfl, P6.1, by omega, by decide, by decide, fun d3 G5 y0 y1 S5 => ?_⟩
    obtain ⟨o, eo, ho⟩ : ∃ o : Option Nat, atI [V.non, V.non, V.int ((s : Nat) + (k : Nat))] d3 = some (optV o) ∧ ∀ u, o = some u → s ≤ u ∧ u < s + 12 := by
      rcases (by omega : d3 = 0 ∨ d3 = 1 ∨ d3 = 2) with rfl | rfl | rfl
      · exact ⟨none, rfl, nofun⟩
      · exact ⟨none, rfl, nofun⟩
      · exact ⟨some (s + k), rfl, fun u e => by cases e; exact ⟨by omega, by omega⟩⟩
    have P7 := P6.trans S5
    refine ⟨a3, _, d3, _, rfl, rfl, sq_lst (S5.2 _ _ a3p ha3), eo, ?_⟩
    refine ⟨by decide, fun f nf => ?_⟩
    have Xf := ex_new (o := HO.lst []) nf
    have hf : upd G5 f (HO.lst []) f = some (HO.lst []) := upd_same
    generalize upd G5 f (HO.lst []) = G6 at Xf hf ⊢
    have fp : f ≠ p := pot_ne P7.on nf
    have nf0 := P7.on.fresh nf
    have P8 := P7.ex2 Xf
    refine ⟨by decide, fun g ng => ?_⟩
    have Xg := ex_new (o := HO.lst []) ng
    have hg : upd G6 g (HO.lst []) g = some (HO.lst []) := upd_same
    have hf7 := Xg _ _ hf
    have fg : f ≠ g := ne_of_none hf ng
    generalize upd G6 g (HO.lst []) = G7 at Xg hg hf7 ⊢
    have gp : g ≠ p := pot_ne P8.on ng
    have ng0 := P8.on.fresh ng
    have P9 := (P8.ex2 Xg).le (n := m + 20) (by omega)
    refine ⟨by show 6 ≤ sizeLine; decide, fun a4 na4 => ?_⟩
    have Xa4 := ex_new (o := HO.lst [V.int 0, V.int 0, V.int 1, V.int 2, V.int 4, V.int 8]) na4
    have ha4 : upd G7 a4 (HO.lst [V.int 0, V.int 0, V.int 1, V.int 2, V.int 4, V.int 8]) a4 = some (HO.lst [V.int 0, V.int 0, V.int 1, V.int 2, V.int 4, V.int 8]) := upd_same
    have hf8 := Xa4 _ _ hf7
    have hg8 := Xa4 _ _ hg
    generalize upd G7 a4 (HO.lst [V.int 0, V.int 0, V.int 1, V.int 2, V.int 4, V.int 8]) = G8 at Xa4 ha4 hf8 hg8 ⊢
    have a4p : a4 ≠ p := pot_ne P9.on na4
    have P10 := P9.ex2 Xa4
    refine ⟨_, rfl, p, m + 20, 6, rfl, P10.1, by omega, by decide, by decide, fun d4 G9 z0 z1 S9 => ?_⟩
    obtain ⟨nt, hnt, ent⟩ := atI_natV (ns := [0, 0, 1, 2, 4, 8]) z0 z1
    have nt8 : nt ≤ 8 := by
      simp only [List.mem_cons, List.not_mem_nil, or_false] at hnt
      omega
    have P11 := P10.trans S9
    refine ⟨a4, _, d4, _, rfl, rfl, sq_lst (S9.2 _ _ a4p ha4), ent, _, rfl, by omega, by omega, ?_⟩
    refine for_range (fun i σ G => PotOnN (m + 21 + 2 * i) H G p ∧ ∃ (D : DaysD) (v7 v8 : Option V), σ = [some (.ref p), some (.int (b : Nat)), some (.str (SX.S bits)), some (.int (s : Nat)), some (optV o), some (.ref f), some (.ref g), v7, v8] ∧ D.bits = bits ∧ D.since = s ∧ D.till = o ∧ G f = some (.lst (natV D.out)) ∧ G g = some (.lst (natV D.also)) ∧ D.out.length + D.also.length ≤ i ∧ (D.out ++ D.also).Nodup ∧ ∀ x ∈ D.out ++ D.also, x < b + 20) ⟨P11, ⟨bits, s, o, [], []⟩, _, _, rfl, rfl, rfl, rfl, S9.2 _ _ fp hf8, S9.2 _ _ gp hg8, by show 0 + 0 ≤ 0; omega, List.nodup_nil, nofun⟩ ?_ ?_
    · rintro i σ G hi ⟨PG, D, v7, v8, rfl, e1, e2, e3, hF, hG, hl, hd, hx⟩
      have i8 : i < 8 := by omega
      refine ⟨_, rfl, _, rfl, p, m + 21 + 2 * i, 12, rfl, PG.1, by omega, by decide, by decide, fun k G1 k0 k1 S1 => ?_⟩
      obtain ⟨k, rfl⟩ := Int.eq_ofNat_of_zero_le k0
      have Q1 := PG.trans S1
      have hF1 := S1.2 _ _ fp hF
      have hG1 := S1.2 _ _ gp hG
      refine ⟨_, _, rfl, rfl, ?_⟩
      show gName 8 (V.int ((b : Int) + (k : Int))) _ _ _
      rw [show (b : Int) + (k : Int) = ((b + k : Nat) : Int) by omega]
      have nb20 : b + k < b + 20 := by omega
      generalize b + k = n at nb20 ⊢
      refine ⟨_, rfl, _, rfl, _, rfl, f, g, _, _, rfl, rfl, hF1, hG1, ?_, fun c2 nc => ?_⟩
      · rw [natV_len, natV_len]
        exact Nat.le_of_lt (small_len (by omega))
      have ea : natV D.out ++ natV D.also = natV (D.out ++ D.also) := by
        unfold natV
        rw [List.map_append]
      rw [ea]
      have Xc := ex_new (o := HO.lst (natV (D.out ++ D.also))) nc
      have hc : upd G1 c2 (HO.lst (natV (D.out ++ D.also))) c2 = some (HO.lst (natV (D.out ++ D.also))) := upd_same
      have hF2 := Xc _ _ hF1
      have hG2 := Xc _ _ hG1
      have Q2 := Q1.ex2 Xc
      generalize upd G1 c2 (HO.lst (natV (D.out ++ D.also))) = G2 at hc hF2 hG2 Q2 ⊢
      refine ⟨c2, _, rfl, .inl (sq_lst hc), rfl, flat_nat _, _, rfl, ?_⟩
      rw [inV_nat]
      by_cases hm : n ∈ D.out ++ D.also
      · rw [decide_eq_true hm]
        refine iteF ?_
        exact ⟨Q2.le (by omega), D, _, _, rfl, e1, e2, e3, hF2, hG2, by omega, hd, hx⟩
      · rw [decide_eq_false hm]
        refine iteT ?_
        refine ⟨_, rfl, _, rfl, by show 2 ≤ sizeLine; decide, fun a5 na5 => ?_⟩
        have X5 := ex_new (o := HO.lst [V.ref f, V.ref g]) na5
        have h5 : upd G2 a5 (HO.lst [V.ref f, V.ref g]) a5 = some (HO.lst [V.ref f, V.ref g]) := upd_same
        have hF3 := X5 _ _ hF2
        have hG3 := X5 _ _ hG2
        have Q3 := Q2.ex2 X5
        have a5p : a5 ≠ p := pot_ne Q2.on na5
        generalize upd G2 a5 (HO.lst [V.ref f, V.ref g]) = G3 at h5 hF3 hG3 Q3 ⊢
        refine ⟨_, rfl, p, m + 21 + 2 * i + 1, 2, rfl, Q3.1, by omega, by decide, by decide, fun d G4 d0 d1 S4 => ?_⟩
        have hF4 := S4.2 _ _ fp hF3
        have hG4 := S4.2 _ _ gp hG3
        have Q4 := Q3.trans S4
        have hnd := List.nodup_append.mp hd
        have nO : n ∉ D.out := fun z => hm (List.mem_append_left _ z)
        have nA : n ∉ D.also := fun z => hm (List.mem_append_right _ z)
        rcases (by omega : d = 0 ∨ d = 1) with rfl | rfl
        · refine ⟨a5, _, _, _, rfl, rfl, sq_lst (S4.2 _ _ a5p h5), rfl, (.inl ⟨rfl, ⟨_, sq_lst hF4⟩⟩), _, rfl, f, _, _, rfl, rfl, hF4, small_len (by rw [natV_len]; omega), ?_⟩
          refine ⟨(Q4.upd nf0 fp).le (by omega), { D with out := D.out ++ [n] }, _, _, rfl, e1, e2, e3, ?_, by rw [upd_ne (Ne.symm fg)]; exact hG4, by show (D.out ++ [n]).length + D.also.length ≤ _; rw [List.length_append]; show D.out.length + 1 + _ ≤ _; omega, ?_, fun x hx' => ?_⟩
          · rw [upd_same]
            unfold natV
            show some (HO.lst (List.map _ D.out ++ [V.int n])) = some (HO.lst (List.map _ (D.out ++ [n])))
            rw [List.map_append]
            rfl
          · show ((D.out ++ [n]) ++ D.also).Nodup
            rw [List.append_assoc]
            refine List.nodup_append.mpr ⟨hnd.1, List.nodup_cons.mpr ⟨nA, hnd.2.1⟩, fun x hx y hy e => ?_⟩
            rcases List.mem_cons.mp hy with h | h
            · rw [← h, ← e] at nO
              exact nO hx
            · exact hnd.2.2 x hx y h e
          · rcases List.mem_append.mp hx' with h | h
            · rcases List.mem_append.mp h with h | h
              · exact hx x (List.mem_append_left _ h)
              · rw [List.mem_singleton.mp h]
                exact nb20
            · exact hx x (List.mem_append_right _ h)
        · refine ⟨a5, _, _, _, rfl, rfl, sq_lst (S4.2 _ _ a5p h5), rfl, (.inl ⟨rfl, ⟨_, sq_lst hG4⟩⟩), _, rfl, g, _, _, rfl, rfl, hG4, small_len (by rw [natV_len]; omega), ?_⟩
          refine ⟨(Q4.upd ng0 gp).le (by omega), { D with also := D.also ++ [n] }, _, _, rfl, e1, e2, e3, by rw [upd_ne fg]; exact hF4, ?_, by show D.out.length + (D.also ++ [n]).length ≤ _; rw [List.length_append]; show _ + (D.also.length + 1) ≤ _; omega, ?_, fun x hx' => ?_⟩
          · rw [upd_same]
            unfold natV
            show some (HO.lst (List.map _ D.also ++ [V.int n])) = some (HO.lst (List.map _ (D.also ++ [n])))
            rw [List.map_append]
            rfl
          · show (D.out ++ (D.also ++ [n])).Nodup
            rw [← List.append_assoc]
            exact List.nodup_append.mpr ⟨hd, List.pairwise_singleton _ _, fun x hx y hy e => by rw [List.mem_singleton.mp hy] at e; rw [e] at hx; exact hm hx⟩
          · rcases List.mem_append.mp hx' with h | h
            · exact hx x (List.mem_append_left _ h)
            · rcases List.mem_append.mp h with h | h
              · exact hx x (List.mem_append_right _ h)
              · rw [List.mem_singleton.mp h]
                exact nb20
    · rintro σ G ⟨PG, D, v7, v8, rfl, rfl, rfl, rfl, hF, hG, hl, hd, hx⟩
      refine ⟨_, rfl, _, rfl, _, rfl, _, rfl, _, rfl, (by show 5 ≤ sizeLine; decide), ?_⟩
      intro a5 na5
      have Xa5 := ex_new (o := HO.tup [V.str (SX.S (DaysD.bits D)), V.int (↑(DaysD.since D) : Int), optV (DaysD.till D), V.ref f, V.ref g]) na5
      have ha5 : upd G a5 (HO.tup [V.str (SX.S (DaysD.bits D)), V.int (↑(DaysD.since D) : Int), optV (DaysD.till D), V.ref f, V.ref g]) a5 = some (HO.tup [V.str (SX.S (DaysD.bits D)), V.int (↑(DaysD.since D) : Int), optV (DaysD.till D), V.ref f, V.ref g]) := upd_same
      generalize upd G a5 (HO.tup [V.str (SX.S (DaysD.bits D)), V.int (↑(DaysD.since D) : Int), optV (DaysD.till D), V.ref f, V.ref g]) = Ga5 at Xa5 ha5 ⊢
      have hnd := List.nodup_append.mp hd
      have a5p : a5 ≠ p := pot_ne PG.on na5
      exact q a5 f g D Ga5 ⟨hsg, fun u e => (ho u e).1, by omega, by omega, hnd.1, hnd.2.1, fun x hx hy => hnd.2.2 x hy x hx rfl⟩ ⟨ha5, Xa5 _ _ hF, Xa5 _ _ hG⟩ ⟨by omega, fun u e => by have := (ho u e).2; omega, fun x h => hx x (List.mem_append_left _ h), fun x h => hx x (List.mem_append_right _ h)⟩ (PG.on.fresh na5) a5p nf0 fp ng0 gp ((PG.ex2 Xa5).le (by omega))
theorem ok__law_days_drawn {P : Program} {w : World} {K : PySem.W.Frag} {mg : Str → Option Value} {base : Heap} (T : Env K mg) : Fc P w K mg base 2 (He.ga K "_law_days_drawn") [] (sp__law_days_drawn K ) := by
  obtain ⟨fd, D, F⟩ := fb__law_days_drawn T
  exact F.all (D.bindsN fun _ _ _ _ _ _ us hl => match us, hl with | [_, _], _ => rfl)
end
section
def sp__law_has (K : PySem.W.Frag) : Sp := fun vs H Q _ => ∃ (t g m : Addr) (D : DaysD) (d : Nat), vs = [.ref t, .int d] ∧ SomeAt H t g m D ∧ D.ok ∧ Q (.bl (dHas D d)) H
theorem fb__law_has {P : Program} {w : World} {K : PySem.W.Frag} {mg : Str → Option Value} {base : Heap} (T : Env K mg) : ∃ fd, FunD K "_law_has" "_law_has" (defArgs s__law_has) (defBody s__law_has) (defScope s__law_has) [] [] (He.ga K "_law_has") fd ∧ Fb P w K mg base 1 (He.ga K "_law_has") fd ["_law_days", "_law_day"] (sp__law_has K) := by
  obtain ⟨fd, F⟩ := T.f__law_has
  refine ⟨fd, F, fb_of F sc__law_has (fun vs H Q E h => ?_) (fun cdv A outer s H vs Q E hr h => ?_)⟩
  · obtain ⟨t, g, m, D, d, rfl, _⟩ := h
    rfl
  · obtain ⟨t, g, m, D, d, rfl, hS, hD, q⟩ := h
    refine ⟨_, (pss_cons (ps_asg (pv 0) (pg_tup (by rfl) (pgs_cons (pg_name (i := 2) sc__law_has.nd rfl (Or.inl rfl)) (pgs_cons (pg_name (i := 3) sc__law_has.nd rfl (Or.inl rfl)) (pgs_cons (pg_name (i := 4) sc__law_has.nd rfl (Or.inl rfl)) (pgs_cons (pg_name (i := 5) sc__law_has.nd rfl (Or.inl rfl)) (pgs_cons (pg_name (i := 6) sc__law_has.nd rfl (Or.inl rfl)) pgs_nil)))))))
      (pss_cons (ps_if (pt_cmpR op_in_seq (pv 1) (pv 6) (by rfl))
      (pss_one (ps_ret pe_bl))
      pss_nil)
      (pss_cons (ps_if (PW.pt (pw_or (pt_cmpR op_in_seq (pv 1) (pv 5) (by rfl)) (pw_or (pt_cmpR op_lt (pv 1) (pv 3) (nomark _)) (pw_or1 (PW.pt (pw_and (pt_cmpR op_notN (pv 4) pe_non (nomark _)) (pw_and1 (pt_cmpR op_gt (pv 1) (pv 4) (nomark _)))))))))
      (pss_one (ps_ret pe_bl))
      pss_nil)
      (pss_one (ps_ret (pe_cmpR op_eq (pe_ix ix_str (pv 2) (pe_op op_mod (pv 1) (pe_callB call_len (by rfl) T.n_len (by decide +kernel) (pa_cons (pv 2) pa_nil))) (fun _ _ => rfl)) pe_str (nomark _))))))), ?_⟩
    obtain ⟨h1, h3, h4⟩ := hS
    obtain ⟨hs, ht, _⟩ := hD
    have h7 : 1 ≤ D.bits.length ∧ D.bits.length ≤ 7 := of_decide_eq_true (Bool.and_eq_true_iff.mp hs).1
    have ls : (SX.S D.bits).length ≤ sizeLine := Nat.le_of_lt (small_len (by rw [SX.S_len]; omega))
    refine ⟨_, rfl, _, _, rfl, (sq_tup h1), rfl, _, _, rfl, _, _, rfl, _, _, rfl, _, _, rfl, _, _, rfl, rfl, _, rfl, _, rfl, _, _, rfl, (.inl (sq_lst h4)), rfl, flat_nat _, _, rfl, ?_⟩
    rw [inV_nat]
    by_cases c1 : d ∈ D.also
    · rw [decide_eq_true c1]
      rw [show dHas D d = true by unfold dHas; rw [decide_eq_true c1]; rfl] at q
      exact q
    · rw [decide_eq_false c1]
      refine iteF ?_
      refine ⟨_, rfl, _, rfl, g, _, rfl, .inl (sq_lst h3), rfl, flat_nat _, _, rfl, ?_⟩
      rw [inV_nat]
      by_cases c3 : d ∈ D.out
      · rw [decide_eq_true c3]
        rw [show dHas D d = false by unfold dHas; rw [decide_eq_false c1, decide_eq_true c3]; cases D.till <;> simp] at q
        exact q
      · rw [decide_eq_false c3]
        refine iteF ?_
        refine ⟨_, rfl, _, rfl, _, _, rfl, rfl, _, rfl, ?_⟩
        by_cases c2 : d < D.since
        · rw [decide_eq_true (show ((d : Nat) : Int) < ((D.since : Nat) : Int) by omega)]
          rw [show dHas D d = false by unfold dHas; rw [decide_eq_false c1, decide_eq_true c2]; rfl] at q
          exact q
        · rw [decide_eq_false (show ¬ ((d : Nat) : Int) < ((D.since : Nat) : Int) by omega)]
          refine iteF ?_
          have fin : dHas D d = (D.bits.getD (d % D.bits.length) 0 == 49) → tRet (tOp rEq (tOp rIxS (tVar 2) (tOp (rI (fun x j => 0 < j) fun i j => V.int (i % j)) (tVar 1) (tCB (fun xs H_1 Q => ∃ x n, xs = [x] ∧ LenV K x H_1 n ∧ Q (V.int ((n : Nat) : Int)) H_1) (tCons (tVar 2) tNil)))) (tC (V.str (Str.ofString "1")))) { nx := fun _ H' => Q V.non H', rt := Q } [some (.ref t), some (.int (d : Nat)), some (.str (SX.S D.bits)), some (.int (D.since : Nat)), some (optV D.till), some (.ref g), some (.ref m)] H := fun eq => by
            obtain ⟨c, ec, dc⟩ := sgn_at (d := d) hs
            refine ⟨_, rfl, _, rfl, _, rfl, _, D.bits.length, rfl, ⟨ls, (SX.S_len D.bits).symm⟩, _, _, rfl, rfl, (by show (0 : Int) < D.bits.length; omega), ?_⟩
            refine ⟨_, _, c, rfl, rfl, ls, ec, rfl, ?_⟩
            rw [dc, ← eq]
            exact q
          cases hT : D.till with
          | none =>
            refine ⟨_, rfl, rfl, _, rfl, ?_⟩
            rw [hT] at fin
            exact fin (by unfold dHas; rw [hT, decide_eq_false c1, decide_eq_false c2, decide_eq_false c3]; rfl)
          | some u =>
            refine ⟨_, rfl, rfl, _, rfl, ?_⟩
            rw [hT] at fin
            refine iteT ?_
            refine ⟨_, rfl, _, rfl, _, _, rfl, rfl, _, rfl, ?_⟩
            by_cases c4 : u < d
            · rw [decide_eq_true (show ((u : Nat) : Int) < ((d : Nat) : Int) by omega)]
              rw [show dHas D d = false by unfold dHas; rw [hT, decide_eq_false c1, decide_eq_false c2]; show (false || (!(false || (decide (u < d) || decide (d ∈ D.out))) && _)) = false; rw [decide_eq_true c4]; rfl] at q
              exact q
            · rw [decide_eq_false (show ¬ ((u : Nat) : Int) < ((d : Nat) : Int) by omega)]
              exact fin (by unfold dHas; rw [hT, decide_eq_false c1, decide_eq_false c2]; show (false || (!(false || (decide (u < d) || decide (d ∈ D.out))) && _)) = _; rw [decide_eq_false c4, decide_eq_false c3]; rfl)
theorem ok__law_has {P : Program} {w : World} {K : PySem.W.Frag} {mg : Str → Option Value} {base : Heap} (T : Env K mg) : Fc P w K mg base 1 (He.ga K "_law_has") [] (sp__law_has K ) := by
  obtain ⟨fd, D, F⟩ := fb__law_has T
  exact F.all (D.bindsN fun _ _ _ _ _ _ us hl => match us, hl with | [_, _], _ => rfl)
end
section
def sp__law_days_made (K : PySem.W.Frag) : Sp := fun vs H Q _ => ∃ (t g m : Addr) (D : DaysD), vs = [.ref t] ∧ SomeAt H t g m D ∧ D.ok ∧ ∀ x H', Ex H H' → H x = none → DaysAt K H' x D → Q (.ref x) H'
theorem fb__law_days_made {P : Program} {w : World} {K : PySem.W.Frag} {mg : Str → Option Value} {base : Heap} (T : Env K mg) : ∃ fd, FunD K "_law_days_made" "_law_days_made" (defArgs s__law_days_made) (defBody s__law_days_made) (defScope s__law_days_made) [] [] (He.ga K "_law_days_made") fd ∧ Fb P w K mg base 7 (He.ga K "_law_days_made") fd ["_law_days"] (sp__law_days_made K) := by
  obtain ⟨fd, F⟩ := T.f__law_days_made
  refine ⟨fd, F, fb_of F sc__law_days_made (fun vs H Q E h => ?_) (fun cdv A outer s H vs Q E hr h => ?_)⟩
  · obtain ⟨t, g, m, D, rfl, _⟩ := h
    rfl
  · obtain ⟨t, g, m, D, rfl, hS, hD, q⟩ := h
    refine ⟨_, (pss_cons (ps_asg (pv 0) (pg_tup (by rfl) (pgs_cons (pg_name (i := 1) sc__law_days_made.nd rfl (Or.inl rfl)) (pgs_cons (pg_name (i := 2) sc__law_days_made.nd rfl (Or.inl rfl)) (pgs_cons (pg_name (i := 3) sc__law_days_made.nd rfl (Or.inl rfl)) (pgs_cons (pg_name (i := 4) sc__law_days_made.nd rfl (Or.inl rfl)) (pgs_cons (pg_name (i := 5) sc__law_days_made.nd rfl (Or.inl rfl)) pgs_nil)))))))
      (pss_one (ps_ret (c_make T.mk_Days (ok_Days_init T) (hr.mono (by decide)) T.g_Days takes0 (pa_cons (c_make T.mk_Ring (ok_Ring_init T) (hr.mono (by decide)) T.g_Ring takes0 (pa_cons (pv 1) pa_nil)) (pa_cons (pv 2) (pa_cons (pv 3) (pa_cons (pe_callTy call_list_of (by rfl) T.n_list (by decide +kernel) (pa_cons (pv 4) pa_nil)) (pa_cons (pe_callTy call_list_of (by rfl) T.n_list (by decide +kernel) (pa_cons (pv 5) pa_nil)) pa_nil))))))))), ?_⟩
    obtain ⟨h1, h3, h4⟩ := id hS
    obtain ⟨hs, ht, lo, la, no, na, hdj⟩ := id hD
    refine ⟨_, rfl, t, _, rfl, sq_tup h1, rfl, _, _, rfl, _, _, rfl, _, _, rfl, _, _, rfl, _, _, rfl, rfl, ?_⟩
    refine ⟨_, rfl, fun r dr nr ndr ner => ring_new nr ndr ner hs fun H1 X1 R1 => ⟨rfl, ?_⟩⟩
    have h31 := X1 _ _ h3
    have h41 := X1 _ _ h4
    refine ⟨_, rfl, _, rfl, _, rfl, g, _, rfl, .inl (sq_lst h31), fun l1 n1 => ?_⟩
    have X2 := ex_new (o := .lst (natV D.out)) n1
    refine ⟨_, rfl, m, _, rfl, .inl (sq_lst (X2 _ _ h41)), fun l2 n2 => ?_⟩
    have X3 := X2.trans (ex_new (o := .lst (natV D.also)) n2)
    refine fun x dx nx nd ne => ⟨rfl, days_new nx nd ne (R1.mono X3) hD (.inr ⟨l1, rfl, .inl (ex_new n2 _ _ upd_same), lo, no⟩) (.inr ⟨l2, rfl, .inl upd_same, la, na⟩) fun H4 X4 D4 => ⟨rfl, ?_⟩⟩
    exact q x H4 ((X1.trans X3).trans X4) (ex_fresh (X1.trans X3) nx) D4
theorem ok__law_days_made {P : Program} {w : World} {K : PySem.W.Frag} {mg : Str → Option Value} {base : Heap} (T : Env K mg) : Fc P w K mg base 7 (He.ga K "_law_days_made") [] (sp__law_days_made K ) := by
  obtain ⟨fd, D, F⟩ := fb__law_days_made T
  exact F.all (D.bindsN fun _ _ _ _ _ _ us hl => match us, hl with | [_], _ => rfl)
end
section
inductive TelD where
  | once (rs : List RunD) (ws : List Str)
  | every (D : DaysD) (rs : List RunD) (ws : List Str)
  | join (cs : List TelD)
  | less (c d : TelD)
  | swap (c : TelD) (D : DaysD) (d : TelD)
  | later (c : TelD) (m : Nat)
  | noted (c : TelD) (z : Str)
  | as_ (z : Str)
mutual
/-- the card that is told -/
def TelD.card : TelD → CardD
  | .once rs ws => .once (rs.map runT) (srtS ws)
  | .every D rs ws => .every D (rs.map runT) (srtS ws)
  | .join cs => .join (cardL cs)
  | .less c d => .less c.card d.card
  | .swap c D d => .swap c.card D d.card
  | .later c m => .later c.card m
  | .noted c z => .noted c.card z
  | .as_ z => .as_ z
def cardL : List TelD → List CardD
  | [] => []
  | c :: cs => c.card :: cardL cs
end
/-- some notes that are drawn -/
def TagsOk (ws : List Str) : Prop := Nms ws ∧ ws.Nodup ∧ ws.length ≤ 7
mutual
def TelD.ok (b : Nat) : TelD → Prop
  | .once rs ws => RunsOk (b * 1440) (b * 1440 + 17280) rs ∧ rs.length ≤ 6 ∧ TagsOk ws
  | .every D rs ws => D.ok ∧ RunsOk 0 1440 rs ∧ rs.length ≤ 6 ∧ D.upto (b + 20) ∧ TagsOk ws
  | .join cs => okTs b cs ∧ cs ≠ [] ∧ wtL (cardL cs) < 60
  | .less c d => c.ok b ∧ d.ok b
  | .swap c D d => c.ok b ∧ D.ok ∧ D.upto (b + 20) ∧ d.ok b
  | .later c m => c.ok b ∧ m ≤ 10080
  | .noted c z => c.ok b ∧ nmN z.cps.toList = true ∧ c.card.wt < 60
  | .as_ z => nmN z.cps.toList = true
def okTs (b : Nat) : List TelD → Prop
  | [] => True
  | c :: cs => c.ok b ∧ okTs b cs
end
mutual
def TelN (N : Addr → Prop) (H : Hp) : TelD → Addr → Prop
  | .once rs ws, t => ∃ r w, H t = some (.tup [.str (Str.ofString "once"), .ref r, .ref w]) ∧ RunsAt H r rs ∧ H w = some (.lst (ws.map V.str)) ∧ N r ∧ N w
  | .every D rs ws, t => ∃ x g l r w, H t = some (.tup [.str (Str.ofString "every"), .ref x, .ref r, .ref w]) ∧ SomeAt H x g l D ∧ RunsAt H r rs ∧ H w = some (.lst (ws.map V.str)) ∧ N g ∧ N l ∧ N r ∧ N w
  | .join cs, t => ∃ l as, H t = some (.tup [.str (Str.ofString "join"), .ref l]) ∧ H l = some (.lst (as.map V.ref)) ∧ N l ∧ TelsN N H cs as
  | .less c d, t => ∃ a b, H t = some (.tup [.str (Str.ofString "less"), .ref a, .ref b]) ∧ TelN N H c a ∧ TelN N H d b
  | .swap c D d, t => ∃ a x g l b, H t = some (.tup [.str (Str.ofString "swap"), .ref a, .ref x, .ref b]) ∧ SomeAt H x g l D ∧ N g ∧ N l ∧ TelN N H c a ∧ TelN N H d b
  | .later c m, t => ∃ a, H t = some (.tup [.str (Str.ofString "later"), .ref a, .int (m : Nat)]) ∧ TelN N H c a
  | .noted c z, t => ∃ a, H t = some (.tup [.str (Str.ofString "noted"), .ref a, .str z]) ∧ TelN N H c a
  | .as_ z, t => H t = some (.tup [.str (Str.ofString "as"), .str z])
def TelsN (N : Addr → Prop) (H : Hp) : List TelD → List Addr → Prop
  | [], as => as = []
  | c :: cs, as => ∃ a r, as = a :: r ∧ TelN N H c a ∧ TelsN N H cs r
end
theorem SomeAt.keepN {N : Addr → Prop} {H H' : Hp} {t g l : Addr} {D : DaysD} (h : SomeAt H t g l D) (n1 : N g) (n2 : N l) (k1 : ∀ b o, (∀ ys, o ≠ .lst ys) → H b = some o → H' b = some o) (k2 : ∀ b o, N b → H b = some o → H' b = some o) : SomeAt H' t g l D := ⟨k1 _ _ nofun h.1, k2 _ _ n1 h.2.1, k2 _ _ n2 h.2.2⟩
mutual
theorem TelN.keep {N M : Addr → Prop} {H H' : Hp} (nm : ∀ b o, N b → H b = some o → M b) (k1 : ∀ b o, (∀ ys, o ≠ .lst ys) → H b = some o → H' b = some o) (k2 : ∀ b o, N b → H b = some o → H' b = some o) : ∀ {d : TelD} {t : Addr}, TelN N H d t → TelN M H' d t
  | .once rs ws, t, h => by
    unfold TelN at h ⊢
    obtain ⟨r, w, h1, ⟨as, h2, h3⟩, h4, n1, n2⟩ := h
    exact ⟨r, w, k1 _ _ nofun h1, ⟨as, k2 _ _ n1 h2, h3.imp k1⟩, k2 _ _ n2 h4, nm _ _ n1 h2, nm _ _ n2 h4⟩
  | .every D rs ws, t, h => by
    unfold TelN at h ⊢
    obtain ⟨x, g, l, r, w, h1, h0, ⟨as, h2, h3⟩, h4, n1, n2, n3, n4⟩ := h
    exact ⟨x, g, l, r, w, k1 _ _ nofun h1, h0.keepN n1 n2 k1 k2, ⟨as, k2 _ _ n3 h2, h3.imp k1⟩, k2 _ _ n4 h4, nm _ _ n1 h0.2.1, nm _ _ n2 h0.2.2, nm _ _ n3 h2, nm _ _ n4 h4⟩
  | .join cs, t, h => by
    unfold TelN at h ⊢
    obtain ⟨l, as, h1, h2, n, h3⟩ := h
    exact ⟨l, as, k1 _ _ nofun h1, k2 _ _ n h2, nm _ _ n h2, TelsN.keep nm k1 k2 h3⟩
  | .less c d, t, h => by
    unfold TelN at h ⊢
    obtain ⟨a, b, h1, h2, h3⟩ := h
    exact ⟨a, b, k1 _ _ nofun h1, TelN.keep nm k1 k2 h2, TelN.keep nm k1 k2 h3⟩
  | .swap c D d, t, h => by
    unfold TelN at h ⊢
    obtain ⟨a, x, g, l, b, h1, h0, n1, n2, h2, h3⟩ := h
    exact ⟨a, x, g, l, b, k1 _ _ nofun h1, h0.keepN n1 n2 k1 k2, nm _ _ n1 h0.2.1, nm _ _ n2 h0.2.2, TelN.keep nm k1 k2 h2, TelN.keep nm k1 k2 h3⟩
  | .later c m, t, h => by
    unfold TelN at h ⊢
    obtain ⟨a, h1, h2⟩ := h
    exact ⟨a, k1 _ _ nofun h1, TelN.keep nm k1 k2 h2⟩
  | .noted c z, t, h => by
    unfold TelN at h ⊢
    obtain ⟨a, h1, h2⟩ := h
    exact ⟨a, k1 _ _ nofun h1, TelN.keep nm k1 k2 h2⟩
  | .as_ z, t, h => by
    unfold TelN at h ⊢
    exact k1 _ _ nofun h
theorem TelsN.keep {N M : Addr → Prop} {H H' : Hp} (nm : ∀ b o, N b → H b = some o → M b) (k1 : ∀ b o, (∀ ys, o ≠ .lst ys) → H b = some o → H' b = some o) (k2 : ∀ b o, N b → H b = some o → H' b = some o) : ∀ {cs : List TelD} {as : List Addr}, TelsN N H cs as → TelsN M H' cs as
  | [], as, h => by
    unfold TelsN at h ⊢
    exact h
  | c :: cs, as, h => by
    unfold TelsN at h ⊢
    obtain ⟨a, r, h1, h2, h3⟩ := h
    exact ⟨a, r, h1, TelN.keep nm k1 k2 h2, TelsN.keep nm k1 k2 h3⟩
end
theorem TelN.mono {N : Addr → Prop} {H H' : Hp} {d : TelD} {t : Addr} (h : TelN N H d t) (e : Ex H H') : TelN N H' d t := h.keep (fun _ _ z _ => z) (fun _ _ _ z => e _ _ z) fun _ _ _ z => e _ _ z
theorem TelsN.mono {N : Addr → Prop} {H H' : Hp} {cs : List TelD} {as : List Addr} (h : TelsN N H cs as) (e : Ex H H') : TelsN N H' cs as := h.keep (fun _ _ z _ => z) (fun _ _ _ z => e _ _ z) fun _ _ _ z => e _ _ z
theorem TelN.imp {N M : Addr → Prop} {H : Hp} {d : TelD} {t : Addr} (h : TelN N H d t) (nm : ∀ b, N b → M b) : TelN M H d t := h.keep (fun b _ z _ => nm b z) (fun _ _ _ z => z) fun _ _ _ z => z
theorem TelN.live {N : Addr → Prop} {H : Hp} {d : TelD} {t : Addr} (h : TelN N H d t) : TelN (fun b => H b ≠ none) H d t := h.keep (fun b o _ e z => by rw [e] at z; cases z) (fun _ _ _ z => z) fun _ _ _ z => z
theorem TelsN.len {N : Addr → Prop} {H : Hp} : ∀ {cs : List TelD} {as : List Addr}, TelsN N H cs as → as.length = cs.length
  | [], as, h => by
    unfold TelsN at h
    rw [h]
    rfl
  | c :: cs, as, h => by
    unfold TelsN at h
    obtain ⟨a, r, rfl, _, h3⟩ := h
    rw [List.length_cons, List.length_cons, h3.len]
theorem TelsN.get {N : Addr → Prop} {H : Hp} : ∀ {cs : List TelD} {as : List Addr} {i : Nat} {a : Addr}, TelsN N H cs as → as[i]? = some a → ∃ c, cs[i]? = some c ∧ TelN N H c a
  | [], as, i, a, h, e => by
    unfold TelsN at h
    rw [h] at e
    cases e
  | c :: cs, as, i, a, h, e => by
    unfold TelsN at h
    obtain ⟨b, r, rfl, h2, h3⟩ := h
    cases i with
    | zero =>
      cases e
      exact ⟨c, rfl, h2⟩
    | succ i => exact h3.get e
theorem cardL_len : ∀ cs : List TelD, (cardL cs).length = cs.length
  | [] => rfl
  | c :: cs => by
    show (cardL cs).length + 1 = cs.length + 1
    rw [cardL_len cs]
theorem cardL_map : ∀ cs : List TelD, cardL cs = cs.map TelD.card
  | [] => rfl
  | c :: cs => by
    show c.card :: cardL cs = c.card :: cs.map TelD.card
    rw [cardL_map cs]
theorem okTs_mem {b : Nat} : ∀ {cs : List TelD} {c : TelD}, okTs b cs → c ∈ cs → c.ok b
  | x :: r, c, h, m => by
    unfold okTs at h
    rcases List.mem_cons.mp m with rfl | m
    · exact h.1
    · exact okTs_mem h.2 m
theorem TagsOk.srt {ws : List Str} (h : TagsOk ws) : Nms (srtS ws) ∧ (srtS ws).Nodup ∧ (srtS ws).length ≤ 16 := by
  have p := srtS_perm ws
  exact ⟨nms_perm p h.1, p.nodup_iff.mpr h.2.1, by rw [p.length_eq]; have := h.2.2; omega⟩
theorem runs_moms {lo hi : Nat} {rs : List RunD} (h : RunsOk lo hi rs) (l : rs.length ≤ 6) : (momsL (rs.map runT)).Pairwise (· < ·) ∧ (momsL (rs.map runT)).length ≤ 1440 := by
  rw [moms_runs h.1]
  have := momsR_len h.1
  exact ⟨h.2.1, by omega⟩
mutual
theorem TelD.card_ok {b : Nat} : ∀ {d : TelD}, d.ok b → d.card.ok
  | .once rs ws, h => by
    unfold TelD.ok at h
    unfold TelD.card CardD.ok
    obtain ⟨h1, h2, h3⟩ := h
    have s := h3.srt
    exact ⟨s.1, s.2.1, s.2.2, (runs_moms h1 h2).2⟩
  | .every D rs ws, h => by
    unfold TelD.ok at h
    unfold TelD.card CardD.ok
    obtain ⟨h0, h1, h2, _, h3⟩ := h
    have s := h3.srt
    exact ⟨h0, s.1, s.2.1, s.2.2, (runs_moms h1 h2).2⟩
  | .join cs, h => by
    unfold TelD.ok at h
    unfold TelD.card CardD.ok
    refine ⟨cardL_ok h.1, h.2.2, fun z => h.2.1 ?_⟩
    have l := cardL_len cs
    rw [z] at l
    exact List.length_eq_zero_iff.mp l.symm
  | .less c d, h => by
    unfold TelD.ok at h
    unfold TelD.card CardD.ok
    exact ⟨TelD.card_ok h.1, TelD.card_ok h.2⟩
  | .swap c D d, h => by
    unfold TelD.ok at h
    unfold TelD.card CardD.ok
    exact ⟨TelD.card_ok h.1, h.2.1, TelD.card_ok h.2.2.2⟩
  | .later c m, h => by
    unfold TelD.ok at h
    unfold TelD.card CardD.ok
    exact ⟨TelD.card_ok h.1, h.2⟩
  | .noted c z, h => by
    unfold TelD.ok at h
    unfold TelD.card CardD.ok
    exact ⟨TelD.card_ok h.1, h.2⟩
  | .as_ z, h => by
    unfold TelD.ok at h
    unfold TelD.card CardD.ok
    exact h
theorem cardL_ok {b : Nat} : ∀ {cs : List TelD}, okTs b cs → okCs (cardL cs)
  | [], _ => by
    unfold cardL okCs
    trivial
  | c :: cs, h => by
    unfold okTs at h
    unfold cardL okCs
    exact ⟨TelD.card_ok h.1, cardL_ok h.2⟩
end
/-- a card that is no other one's -/
def TelD.leaf : TelD → Bool
  | .once _ _ => true
  | .every _ _ _ => true
  | .as_ _ => true
  | _ => false
theorem once_nts {lo hi : Nat} {rs : List RunD} (h : RunsOk lo hi rs) (ws : List Str) (n : Nat) : (TelD.once rs ws).card.nts n = if n ∈ momsR rs then some (srtS ws) else none := by
  unfold TelD.card CardD.nts
  rw [moms_runs h.1]
theorem every_nts {lo hi : Nat} {rs : List RunD} (h : RunsOk lo hi rs) (D : DaysD) (ws : List Str) (n : Nat) : (TelD.every D rs ws).card.nts n = if n % 1440 ∈ momsR rs then (if dHas D (n / 1440) then some (srtS ws) else none) else none := by
  unfold TelD.card CardD.nts
  rw [moms_runs h.1]
theorem leaf_wt {d : TelD} (h : d.leaf = true) : d.card.wt = 1 := by
  cases d with
  | once rs ws => rfl
  | every D rs ws => rfl
  | as_ z => rfl
  | _ => cases h
end
section
theorem PotOnN.lists {m : Nat} {H H' : Hp} {p : Addr} {n : Nat} (P : PotOnN m H H' p) (h : PotN n H p) : ∀ b o, (∀ ys, o ≠ .lst ys) → H b = some o → H' b = some o := fun b o ho e => P.2 b o (fun z => by
  obtain ⟨u1, u2, u3, u4, _⟩ := h
  rw [z, u4] at e
  cases e
  exact ho _ rfl) e
theorem PotN.keep {m : Nat} {G G' : Hp} {p : Addr} (h : PotN m G p) (k : ∀ o, G p = some o → G' p = some o) : PotN m G' p := by
  obtain ⟨x, y, z, e, r⟩ := h
  exact ⟨x, y, z, k _ e, r⟩
theorem PotN.some {m : Nat} {G : Hp} {p b : Addr} (h : PotN m G p) (n : G b = none) : b ≠ p := fun z => by
  obtain ⟨x, y, w, e, r⟩ := h
  rw [z, e] at n
  cases n
end
section
/-- what a draw from the pot p makes: lists that were not there -/
def NewN (H : Hp) (p : Addr) (b : Addr) : Prop := H b = none ∧ b ≠ p
theorem PotOnN.new {m : Nat} {H H' : Hp} {p t : Addr} (P : PotOnN m H H' p) (n : H' t = none) : NewN H p t := by
  have tp : t ≠ p := P.1.some n
  refine ⟨?_, tp⟩
  cases e : H t with
  | none => rfl
  | some o =>
    rw [P.2 _ _ tp e] at n
    cases n
theorem NewN.back {m : Nat} {H H1 : Hp} {p b : Addr} (P : PotOnN m H H1 p) (h : NewN H1 p b) : NewN H p b := P.new h.1
theorem RunsAt.pot {m n : Nat} {H H' : Hp} {p r : Addr} {rs : List RunD} (h : RunsAt H r rs) (hp : PotN n H p) (rp : r ≠ p) (P : PotOnN m H H' p) : RunsAt H' r rs := let ⟨as, h1, h2⟩ := h; ⟨as, P.2 _ _ rp h1, h2.imp (P.lists hp)⟩
theorem SomeAt.pot {m n : Nat} {H H' : Hp} {p t g l : Addr} {D : DaysD} (h : SomeAt H t g l D) (hp : PotN n H p) (gp : g ≠ p) (lp : l ≠ p) (P : PotOnN m H H' p) : SomeAt H' t g l D := ⟨P.lists hp _ _ nofun h.1, P.2 _ _ gp h.2.1, P.2 _ _ lp h.2.2⟩
theorem TelN.pot {m n : Nat} {N : Addr → Prop} {H H' : Hp} {p t : Addr} {d : TelD} (h : TelN N H d t) (hp : PotN n H p) (np : ∀ b, N b → b ≠ p) (P : PotOnN m H H' p) : TelN N H' d t := h.keep (fun _ _ z _ => z) (P.lists hp) fun b o nb e => P.2 b o (np b nb) e
theorem TelsN.pot {m n : Nat} {N : Addr → Prop} {H H' : Hp} {p : Addr} {cs : List TelD} {as : List Addr} (h : TelsN N H cs as) (hp : PotN n H p) (np : ∀ b, N b → b ≠ p) (P : PotOnN m H H' p) : TelsN N H' cs as := h.keep (fun _ _ z _ => z) (P.lists hp) fun b o nb e => P.2 b o (np b nb) e
end
section
def sp__law_leaf (K : PySem.W.Frag) : Sp := fun vs H Q _ => ∃ (p : Addr) (m b w : Nat), vs = [.ref p, .int (b : Nat), .int (w : Nat)] ∧ PotN m H p ∧ m ≤ 4611686018427360000 ∧ ∀ (t : Addr) (d : TelD) H', d.ok b → d.leaf = true → H t = none → t ≠ p → TelN (NewN H p) H' d t → PotOnN (m + 300) H H' p → Q (.ref t) H'
theorem fb__law_leaf {P : Program} {w : World} {K : PySem.W.Frag} {mg : Str → Option Value} {base : Heap} (T : Env K mg) : ∃ fd, FunD K "_law_leaf" "_law_leaf" (defArgs s__law_leaf) (defBody s__law_leaf) (defScope s__law_leaf) [] [] (He.ga K "_law_leaf") fd ∧ Fb P w K mg base 4 (He.ga K "_law_leaf") fd ["_law_pot_here", "_law_base", "_law_way"] (sp__law_leaf K) := by
  obtain ⟨fd, F⟩ := T.f__law_leaf
  refine ⟨fd, F, fb_of F sc__law_leaf (fun vs H Q E h => ?_) (fun cdv A outer s H vs Q E hr h => ?_)⟩
  · obtain ⟨p, m, b, w, rfl, _⟩ := h
    rfl
  · obtain ⟨p, m, b, w, rfl, hp, hm, q⟩ := h
    refine ⟨_, (pss_cons (ps_if (pt_cmpR op_eq (pv 2) pe_int (nomark _))
      (pss_one (ps_ret (pe_tup (pa_cons pe_str (pa_cons (c_call (ok__law_runs T) (hr.mono (by decide)) T.g__law_runs T.k__law_runs takes0 (pa_cons (pv 0) (pa_cons (pe_op op_mul (pv 1) pe_int) (pa_cons pe_int pa_nil)))) (pa_cons (c_call (ok__law_notes_drawn T) (hr.mono (by decide)) T.g__law_notes_drawn T.k__law_notes_drawn takes0 (pa_cons (pv 0) pa_nil)) pa_nil))))))
      pss_nil)
      (pss_cons (ps_if (pt_cmpR op_eq (c_call (ok__law_take T) (hr.mono (by decide)) T.g__law_take T.k__law_take takes0 (pa_cons (pv 0) (pa_cons pe_int pa_nil))) pe_int (nomark _))
      (pss_one (ps_ret (pe_tup (pa_cons pe_str (pa_cons (c_call (ok__law_name T) (hr.mono (by decide)) T.g__law_name T.k__law_name takes0 (pa_cons (pv 0) pa_nil)) pa_nil)))))
      pss_nil)
      (pss_one (ps_ret (pe_tup (pa_cons pe_str (pa_cons (c_call (ok__law_days_drawn T) (hr.mono (by decide)) T.g__law_days_drawn T.k__law_days_drawn takes0 (pa_cons (pv 0) (pa_cons (pv 1) pa_nil))) (pa_cons (c_call (ok__law_runs T) (hr.mono (by decide)) T.g__law_runs T.k__law_runs takes0 (pa_cons (pv 0) (pa_cons pe_int (pa_cons pe_int pa_nil)))) (pa_cons (c_call (ok__law_notes_drawn T) (hr.mono (by decide)) T.g__law_notes_drawn T.k__law_notes_drawn takes0 (pa_cons (pv 0) pa_nil)) pa_nil))))))))), ?_⟩
    by_cases c : w = 0
    · subst c
      refine ⟨_, rfl, rfl, _, rfl, iteT ?_⟩
      refine ⟨_, rfl, _, rfl, _, _, rfl, rfl, .inr ⟨by decide, by decide⟩, p, m, b * 1440, 17280, rfl, hp, (by omega), (by decide), fun r rs H1 hR lr nr rp hr P1 => ?_⟩
      refine ⟨_, rfl, p, _, rfl, P1.1, by omega, fun w ws H2 nW dW lW nw wp hw P2 => ?_⟩
      refine ⟨by show 3 ≤ sizeLine; decide, fun t nt => ?_⟩
      have P12 := P1.trans P2
      have Xt := ex_new (o := HO.tup [V.str (Str.ofString "once"), V.ref r, V.ref w]) nt
      refine q t (.once rs ws) _ (by unfold TelD.ok; exact ⟨hR, lr, nW, dW, lW⟩) rfl (P12.new nt).1 (P12.new nt).2 ?_ ((P12.ex2 Xt).le (by omega))
      unfold TelN
      exact ⟨r, w, upd_same, (hr.pot P1.1 rp P2).mono Xt, Xt _ _ hw, ⟨nr, rp⟩, P1.new nw⟩
    · refine ⟨_, rfl, rfl, _, rfl, ?_⟩
      rw [decide_eq_false (show ¬ V.int ((w : Nat) : Int) = V.int 0 from fun z => c (by injection z with z; omega))]
      refine iteF ?_
      refine ⟨_, rfl, p, m, 3, rfl, hp, by omega, by decide, by decide, fun k3 H0 _ _ P0 => ⟨rfl, _, rfl, ite2 (fun _ => ?_) (fun _ => ?_)⟩⟩
      · refine ⟨_, rfl, p, m + 1, rfl, P0.1, by omega, fun z H1 hz P1 => ⟨by show 2 ≤ sizeLine; decide, fun t nt => ?_⟩⟩
        have P01 := P0.trans P1
        have Xt := ex_new (o := HO.tup [V.str (Str.ofString "as"), V.str z]) nt
        refine q t (.as_ z) _ (by unfold TelD.ok; exact hz) rfl (P01.new nt).1 (P01.new nt).2 ?_ ((P01.ex2 Xt).le (by omega))
        unfold TelN
        exact upd_same
      replace q : ∀ (t : Addr) (d : TelD) H', d.ok b → d.leaf = true → H0 t = none → t ≠ p → TelN (NewN H0 p) H' d t → PotOnN (m + 300) H0 H' p → Q (.ref t) H' := fun t d H' h1 h2 h3 h4 h5 h6 => q t d H' h1 h2 (P0.new h3).1 h4 (h5.imp fun b h => NewN.back P0 h) (P0.trans h6)
      have hp := P0.1
      refine ⟨_, rfl, _, rfl, _, _, _, rfl, hp, (by omega), fun x g l D H1 hD hS hU nx xp ng gp nl lp P1 => ?_⟩
      refine ⟨_, rfl, p, _, 0, 1440, rfl, P1.1, by omega, by decide, fun r rs H2 hR lr nr rp hr P2 => ?_⟩
      refine ⟨_, rfl, p, _, rfl, P2.1, by omega, fun w ws H3 nW dW lW nw wp hw P3 => ?_⟩
      refine ⟨by show 4 ≤ sizeLine; decide, fun t nt => ?_⟩
      have P12 := P1.trans P2
      have P13 := P12.trans P3
      have Xt := ex_new (o := HO.tup [V.str (Str.ofString "every"), V.ref x, V.ref r, V.ref w]) nt
      refine q t (.every D rs ws) _ (by unfold TelD.ok; exact ⟨hD, by simpa using hR, lr, hU, nW, dW, lW⟩) rfl (P13.new nt).1 (P13.new nt).2 ?_ ((P13.ex2 Xt).le (by omega))
      unfold TelN
      exact ⟨x, g, l, r, w, upd_same, ((hS.pot P1.1 gp lp P2).pot P2.1 gp lp P3).mono Xt, (hr.pot P2.1 rp P3).mono Xt, Xt _ _ hw, ⟨ng, gp⟩, ⟨nl, lp⟩, P1.new nr, P12.new nw⟩
theorem ok__law_leaf {P : Program} {w : World} {K : PySem.W.Frag} {mg : Str → Option Value} {base : Heap} (T : Env K mg) : Fc P w K mg base 4 (He.ga K "_law_leaf") [] (sp__law_leaf K ) := by
  obtain ⟨fd, D, F⟩ := fb__law_leaf T
  exact F.all (D.bindsN fun _ _ _ _ _ _ us hl => match us, hl with | [_, _, _], _ => rfl)
end
section
theorem paired_imp {α β : Type} {F G : α → β → Prop} (k : ∀ a b, F a b → G a b) {as : List α} {bs : List β} (h : Paired F as bs) : Paired G as bs := by
  induction h with
  | nil => exact .nil
  | cons h1 _ ih => exact .cons (k _ _ h1) ih
theorem paired_snoc {α β : Type} {F : α → β → Prop} {a : α} {b : β} {as : List α} {bs : List β} (h : Paired F as bs) (k : F a b) : Paired F (as ++ [a]) (bs ++ [b]) := by
  induction h with
  | nil => exact .cons k .nil
  | cons h1 _ ih => exact .cons h1 ih
theorem paired_len {α β : Type} {F : α → β → Prop} {as : List α} {bs : List β} (h : Paired F as bs) : as.length = bs.length := by
  induction h with
  | nil => rfl
  | cons _ _ ih => rw [List.length_cons, List.length_cons, ih]
end
section
theorem TelsN.cons {N : Addr → Prop} {H : Hp} {c : TelD} {a : Addr} {cs : List TelD} {as : List Addr} (h : TelN N H c a) (t : TelsN N H cs as) : TelsN N H (c :: cs) (a :: as) := by
  unfold TelsN
  exact ⟨a, as, rfl, h, t⟩
theorem TelsN.nil {N : Addr → Prop} {H : Hp} : TelsN N H [] [] := by
  unfold TelsN
  rfl
theorem TelsN.one {N : Addr → Prop} {H : Hp} {c : TelD} {a : Addr} (h : TelN N H c a) : TelsN N H [c] [a] := .cons h .nil
theorem TelsN.app {N : Addr → Prop} {H : Hp} : ∀ {cs ds : List TelD} {as bs : List Addr}, TelsN N H cs as → TelsN N H ds bs → TelsN N H (cs ++ ds) (as ++ bs)
  | [], ds, as, bs, h, t => by
    unfold TelsN at h
    rw [h]
    exact t
  | c :: cs, ds, as, bs, h, t => by
    unfold TelsN at h
    obtain ⟨a, r, rfl, h1, h2⟩ := h
    exact .cons h1 (TelsN.app h2 t)
theorem TelsN.snoc {N : Addr → Prop} {H : Hp} {c : TelD} {a : Addr} {cs : List TelD} {as : List Addr} (t : TelsN N H cs as) (h : TelN N H c a) : TelsN N H (cs ++ [c]) (as ++ [a]) := t.app (.one h)
theorem TelsN.imp {N M : Addr → Prop} {H : Hp} {cs : List TelD} {as : List Addr} (h : TelsN N H cs as) (nm : ∀ b, N b → M b) : TelsN M H cs as := h.keep (fun b _ z _ => nm b z) (fun _ _ _ z => z) fun _ _ _ z => z
theorem TelsN.updD {N : Addr → Prop} {H : Hp} {D : Addr} {l ys : List V} {cs : List TelD} {as : List Addr} (h : TelsN N H cs as) (nD : ¬ N D) (hD : H D = some (.lst ys)) : TelsN N (upd H D (.lst l)) cs as :=
  h.keep (fun _ _ z _ => z) (fun b o ho e => by
    rw [upd_ne (fun z => by rw [z, hD] at e; cases e; exact ho _ rfl)]
    exact e) fun b o nb e => by
    rw [upd_ne (fun z => by subst z; exact nD nb)]
    exact e
/-- the cards within a told one -/
def TelD.inn : TelD → List TelD
  | .once _ _ => []
  | .every _ _ _ => []
  | .join cs => cs
  | .less c d => [c, d]
  | .swap c _ d => [c, d]
  | .later c _ => [c]
  | .noted c _ => [c]
  | .as_ _ => []
theorem okTs_of {b : Nat} : ∀ {cs : List TelD}, (∀ c ∈ cs, c.ok b) → okTs b cs
  | [], _ => by
    unfold okTs
    exact trivial
  | c :: cs, h => by
    unfold okTs
    exact ⟨h c List.mem_cons_self, okTs_of fun x hx => h x (List.mem_cons_of_mem _ hx)⟩
theorem TelD.inn_ok {b : Nat} {c e : TelD} (h : c.ok b) (m : e ∈ c.inn) : e.ok b := by
  cases c with
  | once rs ws => cases m
  | every D rs ws => cases m
  | as_ z => cases m
  | join cs =>
    unfold TelD.ok at h
    exact okTs_mem h.1 m
  | less c d =>
    unfold TelD.ok at h
    simp only [TelD.inn, List.mem_cons, List.not_mem_nil, or_false] at m
    rcases m with rfl | rfl
    · exact h.1
    · exact h.2
  | swap c D d =>
    unfold TelD.ok at h
    simp only [TelD.inn, List.mem_cons, List.not_mem_nil, or_false] at m
    rcases m with rfl | rfl
    · exact h.1
    · exact h.2.2.2
  | later c n =>
    unfold TelD.ok at h
    simp only [TelD.inn, List.mem_cons, List.not_mem_nil, or_false] at m
    rw [m]
    exact h.1
  | noted c z =>
    unfold TelD.ok at h
    simp only [TelD.inn, List.mem_cons, List.not_mem_nil, or_false] at m
    rw [m]
    exact h.1
theorem wtL_memT {c : TelD} : ∀ {cs : List TelD}, c ∈ cs → c.card.wt ≤ wtL (cardL cs)
  | x :: r, m => by
    show _ ≤ wtL (x.card :: cardL r)
    unfold wtL
    rcases List.mem_cons.mp m with rfl | m
    · omega
    · have := wtL_memT m
      omega
theorem TelD.inn_wt {c e : TelD} (m : e ∈ c.inn) : e.card.wt < c.card.wt := by
  cases c with
  | once rs ws => cases m
  | every D rs ws => cases m
  | as_ z => cases m
  | join cs =>
    have := wtL_memT (show e ∈ cs from m)
    rw [TelD.card, CardD.wt]
    omega
  | less c d =>
    simp only [TelD.inn, List.mem_cons, List.not_mem_nil, or_false] at m
    rw [TelD.card, CardD.wt]
    rcases m with rfl | rfl <;> omega
  | swap c D d =>
    simp only [TelD.inn, List.mem_cons, List.not_mem_nil, or_false] at m
    rw [TelD.card, CardD.wt]
    rcases m with rfl | rfl <;> omega
  | later c n =>
    simp only [TelD.inn, List.mem_cons, List.not_mem_nil, or_false] at m
    rw [TelD.card, CardD.wt, m]
    omega
  | noted c z =>
    simp only [TelD.inn, List.mem_cons, List.not_mem_nil, or_false] at m
    rw [TelD.card, CardD.wt, m]
    omega
theorem NtAt.put {H : Hp} {x : V} {r : Option (List Str)} {D : Addr} {xs ys : List V} (h : NtAt H x r) (e : H D = some (.lst xs)) : NtAt (upd H D (.lst ys)) x r := by
  cases r with
  | none => exact h
  | some ws =>
    obtain ⟨p, rfl, hp⟩ := h
    exact ⟨p, rfl, by rw [upd_ne (fun z => by rw [z, e] at hp; cases hp)]; exact hp⟩
theorem ex_upd {G H : Hp} {D : Addr} {o : HO} (k : ∀ b u, b ≠ D → G b = some u → H b = some u) : Ex (upd G D o) (upd H D o) := fun b u e => by
  by_cases c : b = D
  · subst c
    rw [upd_same] at e ⊢
    exact e
  · rw [upd_ne c] at e ⊢
    exact k b u c e
theorem upd_upd {G : Hp} {D : Addr} {o u : HO} : upd (upd G D o) D u = upd G D u := funext fun b => by
  by_cases c : b = D
  · subst c
    rw [upd_same, upd_same]
  · rw [upd_ne c, upd_ne c, upd_ne c]
theorem upd_self {G : Hp} {D : Addr} {o : HO} (h : G D = some o) : upd G D o = G := funext fun b => by
  by_cases c : b = D
  · subst c
    rw [upd_same, h]
  · rw [upd_ne c]
def NtsAt (H : Hp) (n : Nat) : List V → List TelD → Prop := Paired fun x c => NtAt H x (c.card.nts n)
/-- a comprehension over told cards, of their notes at n -/
theorem lc_nts {J : It} {Gd Qd : Hp → Prop} {G0 : Hp} {D : Addr} {as : List Addr} {cs : List TelD} {n : Nat} {g : TG} {tt : TT} {te : TE} {vs : List Nat} {σ : L2.St} (nD : G0 D = none) (w : L2.Walk J (as.map V.ref).length Gd (L2.YAt (as.map V.ref))) (hG : ∀ H, Ex G0 H → Gd H) (hl : as.length = cs.length) (hn : cs.length ≤ 2000)
    (hs : ∀ (i : Nat) (a : Addr) (c : TelD) (H : Hp) (acc : List V) (N : Hp → Prop), as[i]? = some a → cs[i]? = some c → Ex G0 H → H D = some (.lst acc) → acc.length < sizeLine → (∀ x H4, Ex H H4 → NtAt H4 x (c.card.nts n) → N (upd H4 D (.lst (acc ++ [x])))) → Turn g tt te vs σ D (.ref a) H N)
    (hd : ∀ xs H, Ex G0 H → NtsAt H n xs cs → H D = some (.lst xs) → Qd H) :
    ∃ W : Nat → Nat → Hp → Prop, (∃ m, W 0 m (upd G0 D (.lst []))) ∧ ∀ i m H, W i m H →
      (J.stop i H ∧ Qd H) ∨ (J.go i H ∧ ∃ Nx : Hp → Prop, (∀ H', Nx H' → ∃ m', m' < m ∧ W (i + 1) m' H') ∧ ∀ x H', J.yld i H x H' → Turn g tt te vs σ D x H' Nx) := by
  refine lc_any w (fun i acc G => Ex G0 G ∧ acc.length = i ∧ ∀ ys, NtsAt (upd G D (.lst ys)) n acc (cs.take i)) (fun i acc H l h => ⟨ex_mut h.1 nD, h.2.1, fun ys => by rw [upd_upd]; exact h.2.2 ys⟩) ⟨.refl _, rfl, fun _ => .nil⟩ (by rw [List.length_map]; omega) (fun i acc H h => by rw [h.2.1]; exact Nat.le_refl _) (fun i acc H h => hG H h.1) ?_ ?_
  · rintro i x H H' acc N hi ⟨X, la, hN⟩ hD ls ⟨rfl, hx⟩ k _
    rw [List.getElem?_map] at hx
    obtain ⟨a, ha, rfl⟩ := Option.map_eq_some_iff.mp hx
    rw [List.length_map] at hi
    have hc : cs[i]? = some cs[i] := List.getElem?_eq_getElem (by omega)
    refine hs i a cs[i] _ acc N ha hc X hD ls fun x H4 X4 hx => k x H4 (X4 _ _ hD) ⟨X.trans X4, by rw [List.length_append, la]; rfl, fun ys => ?_⟩
    rw [take_snoc hc]
    exact paired_snoc (paired_imp (fun a c h => h.mono (ex_upd fun b u _ e => X4 b u e)) (hN ys)) (hx.put (X4 _ _ hD))
  · rintro acc H ⟨X, la, hN⟩ hD
    have h := hN acc
    rw [upd_self hD, List.length_map, hl, List.take_length] at h
    exact hd acc H X h hD
theorem inn_sum (c : TelD) : wtL (cardL c.inn) < c.card.wt := by
  cases c with
  | once rs ws =>
    show 0 < _
    exact (TelD.once rs ws).card.wt_pos
  | every D rs ws =>
    show 0 < _
    exact (TelD.every D rs ws).card.wt_pos
  | as_ z =>
    show 0 < _
    exact (TelD.as_ z).card.wt_pos
  | join cs =>
    rw [TelD.card, CardD.wt]
    show wtL (cardL cs) < _
    omega
  | less c d =>
    rw [TelD.card, CardD.wt]
    show c.card.wt + (d.card.wt + 0) < _
    omega
  | swap c D d =>
    rw [TelD.card, CardD.wt]
    show c.card.wt + (d.card.wt + 0) < _
    omega
  | later c m =>
    rw [TelD.card, CardD.wt]
    show c.card.wt + 0 < _
    omega
  | noted c z =>
    rw [TelD.card, CardD.wt]
    show c.card.wt + 0 < _
    omega
theorem wtL_app : ∀ cs ds : List CardD, wtL (cs ++ ds) = wtL cs + wtL ds
  | [], ds => by
    show wtL ds = 0 + wtL ds
    omega
  | c :: cs, ds => by
    show c.wt + wtL (cs ++ ds) = c.wt + wtL cs + wtL ds
    rw [wtL_app cs ds]
    omega
theorem wtL_takeT {cs : List TelD} {i : Nat} {c : TelD} (h : cs[i]? = some c) : wtL (cardL (cs.take (i + 1))) = wtL (cardL (cs.take i)) + c.card.wt ∧ wtL (cardL (cs.take i)) + c.card.wt ≤ wtL (cardL cs) := by
  have e : cs.take (i + 1) = cs.take i ++ [c] := take_snoc h
  have e1 : wtL (cardL (cs.take (i + 1))) = wtL (cardL (cs.take i)) + c.card.wt := by
    rw [e, cardL_map, List.map_append, wtL_app, cardL_map]
    rfl
  refine ⟨e1, ?_⟩
  rw [← e1]
  have e2 : cs = cs.take (i + 1) ++ cs.drop (i + 1) := (List.take_append_drop _ _).symm
  have e3 : wtL (cardL cs) = wtL (cardL (cs.take (i + 1))) + wtL (cardL (cs.drop (i + 1))) := by
    rw [cardL_map, cardL_map, cardL_map, ← wtL_app, ← List.map_append, List.take_append_drop]
  omega
theorem fstL_mem : ∀ {cs : List CardD} {c : CardD}, fstL cs = none → c ∈ cs → c.fst = none
  | x :: r, c, h, m => by
    rw [fstL_cons] at h
    cases e : x.fst with
    | some z => rw [e] at h; cases h
    | none =>
      rw [e] at h
      rcases List.mem_cons.mp m with rfl | m
      · exact e
      · exact fstL_mem h m
theorem TelD.inn_fst {c e : TelD} (h : c.card.fst = none) (m : e ∈ c.inn) : e.card.fst = none := by
  have two : ∀ a b : CardD, (match a.fst with | some z => some z | none => b.fst) = none → a.fst = none ∧ b.fst = none := fun a b h => by
    cases ea : a.fst with
    | some z => rw [ea] at h; cases h
    | none =>
      rw [ea] at h
      exact ⟨rfl, h⟩
  cases c with
  | once rs ws => cases m
  | every D rs ws => cases m
  | as_ z => cases m
  | join cs =>
    rw [TelD.card, CardD.fst] at h
    refine fstL_mem h ?_
    rw [cardL_map]
    exact List.mem_map.mpr ⟨e, m, rfl⟩
  | less c d =>
    rw [TelD.card, CardD.fst] at h
    simp only [TelD.inn, List.mem_cons, List.not_mem_nil, or_false] at m
    rcases m with rfl | rfl
    · exact (two _ _ h).1
    · exact (two _ _ h).2
  | swap c D d =>
    rw [TelD.card, CardD.fst] at h
    simp only [TelD.inn, List.mem_cons, List.not_mem_nil, or_false] at m
    rcases m with rfl | rfl
    · exact (two _ _ h).1
    · exact (two _ _ h).2
  | later c n =>
    rw [TelD.card, CardD.fst] at h
    simp only [TelD.inn, List.mem_cons, List.not_mem_nil, or_false] at m
    rw [m]
    exact h
  | noted c z =>
    rw [TelD.card, CardD.fst] at h
    simp only [TelD.inn, List.mem_cons, List.not_mem_nil, or_false] at m
    rw [m]
    exact h
end
section
def wtD : Nat → Nat
  | 0 => 1
  | n + 1 => 1 + 3 * wtD n
def csD (n : Nat) : Nat := 1000 * 4 ^ n
theorem csD_succ (n : Nat) : csD (n + 1) = 4 * csD n := by
  unfold csD
  rw [Nat.pow_succ]
  omega
theorem csD_pos (n : Nat) : 1000 ≤ csD n := Nat.le_mul_of_pos_right 1000 (Nat.pow_pos (by decide))
theorem wtD_two {e : Nat} (h : e ≤ 2) : wtD e ≤ 13 := by
  rcases (by omega : e = 0 ∨ e = 1 ∨ e = 2) with rfl | rfl | rfl <;> decide
theorem csD_three {e : Nat} (h : e ≤ 3) : csD e ≤ 64000 := by
  rcases (by omega : e = 0 ∨ e = 1 ∨ e = 2 ∨ e = 3) with rfl | rfl | rfl | rfl <;> decide
theorem wtD_pos : ∀ e, 1 ≤ wtD e
  | 0 => Nat.le_refl _
  | e + 1 => by
    unfold wtD
    omega
theorem wtL_le {W : Nat} : ∀ {cs : List TelD}, (∀ c ∈ cs, c.card.wt ≤ W) → wtL (cardL cs) ≤ cs.length * W
  | [], _ => Nat.zero_le _
  | c :: cs, h => by
    have := wtL_le fun x hx => h x (List.mem_cons_of_mem _ hx)
    have h1 := h c List.mem_cons_self
    show wtL (c.card :: cardL cs) ≤ (cs.length + 1) * W
    unfold wtL
    rw [Nat.succ_mul]
    omega
def sp__law_card (K : PySem.W.Frag) (d : Nat) : Sp := fun vs H Q _ => ∃ (p : Addr) (m b e : Nat), vs = [.ref p, .int (b : Nat), .int (e : Nat)] ∧ PotN m H p ∧ m + csD e ≤ 4611686018427300000 ∧ b < 10 ^ 57 ∧ e < d ∧ e ≤ 3 ∧ ∀ (t : Addr) (c : TelD) H', c.ok b → c.card.wt ≤ wtD e → H t = none → t ≠ p → TelN (NewN H p) H' c t → PotOnN (m + csD e) H H' p → Q (.ref t) H'
theorem fb__law_card {P : Program} {w : World} {K : PySem.W.Frag} {mg : Str → Option Value} {base : Heap} (T : Env K mg) {d L : Nat} (hL : 60 ≤ L) (r__law_card : Fc P w K mg base L (He.ga K "_law_card") [] (sp__law_card K d)) : ∃ fd, FunD K "_law_card" "_law_card" (defArgs s__law_card) (defBody s__law_card) (defScope s__law_card) [] [] (He.ga K "_law_card") fd ∧ Fb P w K mg base (L + 1) (He.ga K "_law_card") fd ["_law_pot_here", "_law_base", "_law_deep"] (sp__law_card K (d + 1)) := by
  obtain ⟨fd, F⟩ := T.f__law_card
  refine ⟨fd, F, fb_of F sc__law_card (fun vs H Q E h => ?_) (fun cdv A outer s H vs Q E hr h => ?_)⟩
  · obtain ⟨p, m, b, e, rfl, _⟩ := h
    rfl
  · obtain ⟨p, m, b, e, rfl, hp, hm, hb, hd, he, q⟩ := h
    refine ⟨_, (pss_cons (ps_if (pt_cmpR op_eq (pv 2) pe_int (nomark _))
      (pss_one (ps_ret (c_call (ok__law_leaf T) (hr.mono (by omega)) T.g__law_leaf T.k__law_leaf takes0 (pa_cons (pv 0) (pa_cons (pv 1) (pa_cons (c_call (ok__law_take T) (hr.mono (by omega)) T.g__law_take T.k__law_take takes0 (pa_cons (pv 0) (pa_cons pe_int pa_nil))) pa_nil))))))
      pss_nil)
      (pss_cons (ps_set (i := 3) sc__law_card.nd rfl (Or.inl rfl) (c_call (ok__law_take T) (hr.mono (by omega)) T.g__law_take T.k__law_take takes0 (pa_cons (pv 0) (pa_cons pe_int pa_nil))))
      (pss_cons (ps_if (pt_cmpR op_lt (pv 3) pe_int (nomark _))
      (pss_one (ps_ret (c_call (ok__law_leaf T) (hr.mono (by omega)) T.g__law_leaf T.k__law_leaf takes0 (pa_cons (pv 0) (pa_cons (pv 1) (pa_cons (pv 3) pa_nil))))))
      pss_nil)
      (pss_cons (ps_set (i := 4) sc__law_card.nd rfl (Or.inl rfl) (c_call r__law_card (hr.mono (by omega)) T.g__law_card T.k__law_card takes0 (pa_cons (pv 0) (pa_cons (pv 1) (pa_cons (pe_op op_sub (pv 2) pe_int) pa_nil)))))
      (pss_cons (ps_if (pt_cmpR op_eq (pv 3) pe_int (nomark _))
      (pss_one (ps_ret (pe_tup (pa_cons pe_str (pa_cons (pe_op op_cat (pe_lst (pa_cons (pv 4) pa_nil)) (pe_lc (own := [("_law_k", 5)]) (by rfl) sc__law_card.nd (pi_range1 (by rfl) T.n_range (pa_cons (c_call (ok__law_take T) (hr.mono (by omega)) T.g__law_take T.k__law_take takes0 (pa_cons (pv 0) (pa_cons pe_int pa_nil))) pa_nil)) (blkOk_by (own := [("_law_k", 5)]) (N := ["_law_pot_here", "_law_base", "_law_deep", "_law_way", "_law_one", "_law_k"]) (sc := defScope s__law_card) (by decide +kernel)) (fun _ _ _ _ _ => (pg_name (i := 5) sc__law_card.nd rfl (Or.inl rfl))) (fun _ _ _ _ _ => pts_nil) (fun _ _ _ _ _ => (c_call r__law_card (hr.mono (by omega)) T.g__law_card T.k__law_card takes0 (pa_cons (pv 0) (pa_cons (pv 1) (pa_cons (pe_op op_sub (pv 2) pe_int) pa_nil))))))) pa_nil)))))
      pss_nil)
      (pss_cons (ps_if (pt_cmpR op_eq (pv 3) pe_int (nomark _))
      (pss_one (ps_ret (pe_tup (pa_cons pe_str (pa_cons (pv 4) (pa_cons (c_call r__law_card (hr.mono (by omega)) T.g__law_card T.k__law_card takes0 (pa_cons (pv 0) (pa_cons (pv 1) (pa_cons (pe_op op_sub (pv 2) pe_int) pa_nil)))) pa_nil))))))
      pss_nil)
      (pss_cons (ps_if (pt_cmpR op_eq (pv 3) pe_int (nomark _))
      (pss_one (ps_ret (pe_tup (pa_cons pe_str (pa_cons (pv 4) (pa_cons (c_call (ok__law_days_drawn T) (hr.mono (by omega)) T.g__law_days_drawn T.k__law_days_drawn takes0 (pa_cons (pv 0) (pa_cons (pv 1) pa_nil))) (pa_cons (c_call r__law_card (hr.mono (by omega)) T.g__law_card T.k__law_card takes0 (pa_cons (pv 0) (pa_cons (pv 1) (pa_cons (pe_op op_sub (pv 2) pe_int) pa_nil)))) pa_nil)))))))
      pss_nil)
      (pss_cons (ps_if (pt_cmpR op_eq (pv 3) pe_int (nomark _))
      (pss_one (ps_ret (pe_tup (pa_cons pe_str (pa_cons (pv 4) (pa_cons (c_call (ok__law_take T) (hr.mono (by omega)) T.g__law_take T.k__law_take takes0 (pa_cons (pv 0) (pa_cons (pe_ix ix_list (pe_lst (pa_cons pe_int (pa_cons pe_int (pa_cons pe_int (pa_cons pe_int pa_nil))))) (c_call (ok__law_take T) (hr.mono (by omega)) T.g__law_take T.k__law_take takes0 (pa_cons (pv 0) (pa_cons pe_int pa_nil))) (fun _ _ => rfl)) pa_nil))) pa_nil))))))
      pss_nil)
      (pss_one (ps_ret (pe_tup (pa_cons pe_str (pa_cons (pv 4) (pa_cons (c_call (ok__law_name T) (hr.mono (by omega)) T.g__law_name T.k__law_name takes0 (pa_cons (pv 0) pa_nil)) pa_nil)))))))))))))), ?_⟩
    refine ⟨_, rfl, rfl, _, rfl, ?_⟩
    try dsimp only [tNil]
    have wp := wtD_pos e
    have cp := csD_pos e
    have leaf := fun (t : Addr) (c : TelD) (H1 H' : Hp) (n : Nat) (P1 : PotOnN n H H1 p) (k1 : c.ok b) (k2 : c.leaf = true) (k3 : H1 t = none) (k4 : t ≠ p) (k5 : TelN (NewN H1 p) H' c t) (P2 : PotOnN (n + 300) H1 H' p) (hn : n + 300 ≤ m + csD e) => q t c H' k1 (by rw [leaf_wt k2]; exact wp) (NewN.back P1 ⟨k3, k4⟩).1 k4 (k5.imp fun b h => NewN.back P1 h) ((P1.trans P2).le hn)
    by_cases c0 : e = 0
    · subst c0
      refine iteT ?_
      refine ⟨_, rfl, _, rfl, _, rfl, p, m, 3, rfl, hp, by omega, by decide, by decide, fun k H1 k0 k3 P1 => ?_⟩
      obtain ⟨k, rfl⟩ := Int.eq_ofNat_of_zero_le k0
      refine ⟨p, m + 1, b, k, rfl, P1.1, by omega, fun t c H2 h1 h2 h3 h4 h5 P2 => leaf t c H1 H2 _ P1 h1 h2 h3 h4 h5 P2 (by omega)⟩
    rw [decide_eq_false (show ¬ V.int ((e : Nat) : Int) = V.int 0 from fun z => c0 (by injection z with z; omega))]
    refine iteF ?_
    obtain ⟨e, rfl⟩ : ∃ e', e = e' + 1 := ⟨e - 1, by omega⟩
    rw [csD_succ] at q leaf hm
    have cp := csD_pos e
    have c3 := csD_three (e := e) (by omega)
    have w2 := wtD_two (e := e) (by omega)
    have ee : ((e + 1 : Nat) : Int) - 1 = ((e : Nat) : Int) := by omega
    refine ⟨_, rfl, p, m, 8, rfl, hp, by omega, by decide, by decide, fun k H1 k0 k8 P1 => ?_⟩
    obtain ⟨k, rfl⟩ := Int.eq_ofNat_of_zero_le k0
    refine ⟨_, rfl, _, _, rfl, rfl, _, rfl, ?_⟩
    try dsimp only [tNil]
    by_cases c1 : k < 3
    · rw [decide_eq_true (show ((k : Nat) : Int) < 3 by omega)]
      refine iteT ?_
      refine ⟨_, rfl, _, rfl, _, rfl, p, m + 1, b, k, rfl, P1.1, by omega, fun t c H2 h1 h2 h3 h4 h5 P2 => leaf t c H1 H2 _ P1 h1 h2 h3 h4 h5 P2 (by omega)⟩
    rw [decide_eq_false (show ¬ ((k : Nat) : Int) < 3 by omega)]
    refine iteF ?_
    refine ⟨_, rfl, _, rfl, _, rfl, _, _, rfl, rfl, p, m + 1, b, e, congrArg (fun z => [V.ref p, V.int (b : Nat), z]) (congrArg V.int ee), P1.1, by omega, hb, by omega, by omega, fun t1 x1 H2 ok1 wt1 n1 tp1 hT1 P2 => ?_⟩
    have P12 := P1.trans P2
    have hT1 := hT1.imp fun b h => NewN.back P1 h
    have W : wtD (e + 1) = 1 + 3 * wtD e := rfl
    rw [W] at q
    rcases (by omega : k = 3 ∨ k = 4 ∨ k = 5 ∨ k = 6 ∨ k = 7) with rfl | rfl | rfl | rfl | rfl
    · refine ⟨_, rfl, rfl, _, rfl, _, rfl, (by show 1 ≤ sizeLine; decide), ?_⟩
      intro a1 na1
      have Xa1 := ex_new (o := HO.lst [V.ref t1]) na1
      have ha1 : upd H2 a1 (HO.lst [V.ref t1]) a1 = some (HO.lst [V.ref t1]) := upd_same
      generalize upd H2 a1 (HO.lst [V.ref t1]) = Ga1 at Xa1 ha1 ⊢
      refine ⟨_, rfl, ?_⟩
      have P2a := P12.ex2 Xa1
      have a1p : a1 ≠ p := P2.1.some na1
      refine ⟨p, _, 3, rfl, P2a.1, by omega, by decide, by decide, fun n H3 n0 n3 P3 => ?_⟩
      have P13 := P2a.trans P3
      have hT1 := (hT1.mono Xa1).pot P2a.1 (fun b n => n.2) P3
      have ha1 := P3.2 _ _ a1p ha1
      refine ⟨_, rfl, by omega, by omega, fun A nA => ?_⟩
      have Ap : A ≠ p := P3.1.some nA
      have nA0 : H A = none := (P13.new nA).1
      refine lc_any (n := n.toNat) (J := Itr 0 n.toNat) L2.walk_range (fun j acc G => PotOnN (m + 1 + csD e + 1 + j * csD e) H3 G p ∧ ∃ (as : List Addr) (cs : List TelD), acc = as.map V.ref ∧ cs.length = j ∧ (∀ c ∈ cs, c.ok b ∧ c.card.wt ≤ wtD e) ∧ ((cs = [] ∧ as = []) ∨ ((∃ ys, G A = some (.lst ys)) ∧ TelsN (fun b => NewN H p b ∧ b ≠ A) G cs as))) (fun j acc G l h => ?_) ⟨P3.1.refl.le (by omega), [], [], rfl, rfl, nofun, .inl ⟨rfl, rfl⟩⟩ (by omega) (fun j acc G h => ?_) (fun _ _ _ _ => trivial) (fun j y G G' acc N hj h hD la yy kk _ => ?_) (fun acc G h hA => ?_)
      · obtain ⟨P, as, cs, e1, e2, e3, e4⟩ := h
        refine ⟨P.upd nA Ap, as, cs, e1, e2, e3, e4.imp id fun ⟨⟨ys, hy⟩, hN⟩ => ⟨⟨l, upd_same⟩, hN.updD (fun z => z.2 rfl) hy⟩⟩
      · obtain ⟨P, as, cs, rfl, e2, e3, e4⟩ := h
        rw [List.length_map]
        rcases e4 with ⟨e5, rfl⟩ | ⟨_, e4⟩
        · exact Nat.zero_le _
        · rw [e4.len, e2]
          exact Nat.le_refl _
      · obtain ⟨rfl, rfl⟩ := yy
        obtain ⟨P, as, cs, rfl, e2, e3, e4⟩ := h
        have hj3 : j < 3 := by omega
        have Pj := P13.trans P
        have hjc : j * csD e ≤ 1 * csD e := Nat.mul_le_mul_right _ (by omega)
        refine ⟨rfl, _, rfl, _, rfl, _, rfl, _, _, rfl, rfl, p, _, b, e, congrArg (fun z => [V.ref p, V.int (b : Nat), z]) (congrArg V.int ee), P.1, by omega, hb, by omega, by omega, fun t2 x2 H4 ok2 wt2 n2 tp2 hT2 P4 => ?_⟩
        have hD4 := P4.2 _ _ Ap hD
        have hT2 : TelN (fun b => NewN H p b ∧ b ≠ A) H4 x2 t2 := hT2.imp fun b h => ⟨NewN.back Pj h, fun z => by
          have := h.1
          rw [z, hD] at this
          cases this⟩
        refine ⟨_, hD4, la, kk _ H4 hD4 ⟨(P.trans P4).le (by rw [Nat.succ_mul]; omega), as ++ [t2], cs ++ [x2], by rw [List.map_append]; rfl, by rw [List.length_append, e2]; rfl, fun c hc => ?_, .inr ⟨⟨_, hD4⟩, ?_⟩⟩⟩
        · rcases List.mem_append.mp hc with h | h
          · exact e3 c h
          · rw [List.mem_singleton.mp h]
            exact ⟨ok2, wt2⟩
        · rcases e4 with ⟨rfl, rfl⟩ | ⟨_, e4⟩
          · exact .one hT2
          · exact (e4.pot P.1 (fun b n => n.1.2) P4).snoc hT2
      obtain ⟨P, as, cs, rfl, e2, e3, e4⟩ := h
      have hA1 := P.2 _ _ a1p ha1
      have hn3 : n.toNat ≤ 2 := by omega
      have hnc : n.toNat * csD e ≤ 2 * csD e := Nat.mul_le_mul_right _ hn3
      have hTs : TelsN (NewN H p) G cs as := by
        rcases e4 with ⟨rfl, rfl⟩ | ⟨_, e4⟩
        · exact .nil
        · exact e4.imp fun b h => h.1
      have hT1 := hT1.pot P3.1 (fun b n => n.2) P
      have P14 := P13.trans P
      have lt : as.length = n.toNat := by rw [hTs.len, e2]
      refine ⟨a1, A, _, _, rfl, rfl, hA1, hA, by rw [List.length_map, lt]; show 1 + n.toNat ≤ sizeLine; rw [sizeLine_eq]; omega, fun S nS => ?_⟩
      have XS := ex_new (o := HO.lst ([V.ref t1] ++ as.map V.ref)) nS
      have hS : upd G S (HO.lst ([V.ref t1] ++ as.map V.ref)) S = some (.lst ((t1 :: as).map V.ref)) := upd_same
      generalize upd G S (HO.lst ([V.ref t1] ++ as.map V.ref)) = G5 at XS hS ⊢
      refine ⟨by show 2 ≤ sizeLine; decide, fun t nt => ?_⟩
      have Xt := ex_new (o := HO.tup [V.str (Str.ofString "join"), V.ref S]) nt
      have P15 := P14.ex2 XS
      have okc : ∀ c ∈ x1 :: cs, c.ok b ∧ c.card.wt ≤ wtD e := fun c hc => (List.mem_cons.mp hc).elim (fun h => h ▸ ⟨ok1, wt1⟩) (e3 c)
      have wl : wtL (cardL (x1 :: cs)) ≤ (x1 :: cs).length * wtD e := wtL_le fun c hc => (okc c hc).2
      have ll : (x1 :: cs).length ≤ 3 := by rw [List.length_cons, e2]; omega
      have wl3 : (x1 :: cs).length * wtD e ≤ 3 * wtD e := Nat.mul_le_mul_right _ ll
      refine q t (.join (x1 :: cs)) _ ?_ ?_ (P15.new nt).1 (P15.new nt).2 ?_ ((P15.ex2 Xt).le (by omega))
      · unfold TelD.ok
        exact ⟨okTs_of fun c hc => (okc c hc).1, nofun, by omega⟩
      · rw [TelD.card, CardD.wt]
        omega
      · unfold TelN
        exact ⟨S, t1 :: as, upd_same, Xt _ _ hS, P14.new nS, ((TelsN.cons hT1 hTs).mono XS).mono Xt⟩
    · refine ⟨_, rfl, rfl, _, rfl, _, rfl, rfl, _, rfl, _, rfl, _, rfl, _, rfl, _, rfl, _, _, rfl, rfl, ?_⟩
      refine ⟨p, _, b, e, congrArg (fun z => [V.ref p, V.int (b : Nat), z]) (congrArg V.int ee), P2.1, by omega, hb, by omega, by omega, fun t2 x2 H3 ok2 wt2 n2 tp2 hT2 P3 => ?_⟩
      have P13 := P12.trans P3
      have hT1 := hT1.pot P2.1 (fun b n => n.2) P3
      have hT2 := hT2.imp fun b h => NewN.back P12 h
      refine ⟨by show 3 ≤ sizeLine; decide, fun t nt => ?_⟩
      have Xt := ex_new (o := HO.tup [V.str (Str.ofString "less"), V.ref t1, V.ref t2]) nt
      refine q t (.less x1 x2) _ (by unfold TelD.ok; exact ⟨ok1, ok2⟩) (by rw [TelD.card, CardD.wt]; omega) (P13.new nt).1 (P13.new nt).2 (by unfold TelN; exact ⟨t1, t2, upd_same, hT1.mono Xt, hT2.mono Xt⟩) ((P13.ex2 Xt).le (by omega))
    · refine ⟨_, rfl, rfl, _, rfl, _, rfl, rfl, _, rfl, _, rfl, rfl, _, rfl, _, rfl, _, rfl, _, rfl, ?_⟩
      refine ⟨p, _, b, rfl, P2.1, by omega, fun x g l D H3 hD hS hU nx xp ng gp nl lp P3 => ?_⟩
      have P13 := P12.trans P3
      have hT1 := hT1.pot P2.1 (fun b n => n.2) P3
      refine ⟨_, rfl, _, rfl, _, rfl, _, _, rfl, rfl, p, _, b, e, congrArg (fun z => [V.ref p, V.int (b : Nat), z]) (congrArg V.int ee), P3.1, by omega, hb, by omega, by omega, fun t2 x2 H4 ok2 wt2 n2 tp2 hT2 P4 => ?_⟩
      have P14 := P13.trans P4
      have hT1 := hT1.pot P3.1 (fun b n => n.2) P4
      have hS := hS.pot P3.1 gp lp P4
      have hT2 := hT2.imp fun b h => NewN.back P13 h
      refine ⟨by show 4 ≤ sizeLine; decide, fun t nt => ?_⟩
      have Xt := ex_new (o := HO.tup [V.str (Str.ofString "swap"), V.ref t1, V.ref x, V.ref t2]) nt
      refine q t (.swap x1 D x2) _ (by unfold TelD.ok; exact ⟨ok1, hD, hU, ok2⟩) (by rw [TelD.card, CardD.wt]; omega) (P14.new nt).1 (P14.new nt).2 (by unfold TelN; exact ⟨t1, x, g, l, t2, upd_same, hS.mono Xt, NewN.back P12 ⟨ng, gp⟩, NewN.back P12 ⟨nl, lp⟩, hT1.mono Xt, hT2.mono Xt⟩) ((P14.ex2 Xt).le (by omega))
    · refine ⟨_, rfl, rfl, _, rfl, _, rfl, rfl, _, rfl, _, rfl, rfl, _, rfl, _, rfl, rfl, _, rfl, _, rfl, _, rfl, (by decide), ?_⟩
      intro a1 na1
      have Xa1 := ex_new (o := HO.lst [V.int 1, V.int 60, V.int 1440, V.int 10081]) na1
      have ha1 : upd H2 a1 (HO.lst [V.int 1, V.int 60, V.int 1440, V.int 10081]) a1 = some (HO.lst [V.int 1, V.int 60, V.int 1440, V.int 10081]) := upd_same
      generalize upd H2 a1 (HO.lst [V.int 1, V.int 60, V.int 1440, V.int 10081]) = Ga1 at Xa1 ha1 ⊢
      refine ⟨_, rfl, ?_⟩
      have P2a := P12.ex2 Xa1
      have a1p : a1 ≠ p := P2.1.some na1
      refine ⟨p, _, 4, rfl, P2a.1, by omega, by decide, by decide, fun n H3 n0 n4 P3 => ?_⟩
      have P13 := P2a.trans P3
      have hT1 := (hT1.mono Xa1).pot P2a.1 (fun b n => n.2) P3
      obtain ⟨v, hv, ev⟩ := atI_natV (ns := [1, 60, 1440, 10081]) n0 n4
      have vb : 1 ≤ v ∧ v ≤ 10081 := by
        simp only [List.mem_cons, List.not_mem_nil, or_false] at hv
        omega
      refine ⟨a1, _, n, _, rfl, rfl, sq_lst (P3.2 _ _ a1p ha1), ev, p, _, (v : Nat), rfl, P3.1, by omega, by omega, log_lt (Nat.lt_of_le_of_lt vb.2 (by decide +kernel)), fun u H4 u0 u1 P4 => ?_⟩
      obtain ⟨u, rfl⟩ := Int.eq_ofNat_of_zero_le u0
      have P14 := P13.trans P4
      have hT1 := hT1.pot P3.1 (fun b n => n.2) P4
      refine ⟨by show 3 ≤ sizeLine; decide, fun t nt => ?_⟩
      have Xt := ex_new (o := HO.tup [V.str (Str.ofString "later"), V.ref t1, V.int (u : Nat)]) nt
      refine q t (.later x1 u) _ (by unfold TelD.ok; exact ⟨ok1, by omega⟩) (by rw [TelD.card, CardD.wt]; omega) (P14.new nt).1 (P14.new nt).2 (by unfold TelN; exact ⟨t1, upd_same, hT1.mono Xt⟩) ((P14.ex2 Xt).le (by omega))
    · refine ⟨_, rfl, rfl, _, rfl, _, rfl, rfl, _, rfl, _, rfl, rfl, _, rfl, _, rfl, rfl, _, rfl, _, rfl, _, rfl, ?_⟩
      refine ⟨p, _, rfl, P2.1, by omega, fun z H3 hz P3 => ?_⟩
      have P13 := P12.trans P3
      have hT1 := hT1.pot P2.1 (fun b n => n.2) P3
      refine ⟨by show 3 ≤ sizeLine; decide, fun t nt => ?_⟩
      have Xt := ex_new (o := HO.tup [V.str (Str.ofString "noted"), V.ref t1, V.str z]) nt
      refine q t (.noted x1 z) _ (by unfold TelD.ok; exact ⟨ok1, hz, by omega⟩) (by rw [TelD.card, CardD.wt]; omega) (P13.new nt).1 (P13.new nt).2 (by unfold TelN; exact ⟨t1, upd_same, hT1.mono Xt⟩) ((P13.ex2 Xt).le (by omega))
theorem ok__law_card {P : Program} {w : World} {K : PySem.W.Frag} {mg : Str → Option Value} {base : Heap} (T : Env K mg) {d L : Nat} (hL : 60 ≤ L) (r__law_card : Fc P w K mg base L (He.ga K "_law_card") [] (sp__law_card K d)) : Fc P w K mg base (L + 1) (He.ga K "_law_card") [] (sp__law_card K (d + 1)) := by
  obtain ⟨fd, D, F⟩ := fb__law_card T hL r__law_card
  exact F.all (D.bindsN fun _ _ _ _ _ _ us hl => match us, hl with | [_, _, _], _ => rfl)
theorem all_card {P : Program} {w : World} {K : PySem.W.Frag} {mg : Str → Option Value} {base : Heap} (T : Env K mg) : ∀ d, Fc P w K mg base (60 + d) (He.ga K "_law_card") [] (sp__law_card K d)
  | 0 => fc_no fun vs H Q E h => by
    obtain ⟨p, m, b, e, _, _, _, _, h, _⟩ := h
    omega
  | d + 1 => ok__law_card T (Nat.le_add_right 60 _) (all_card T d)
end
section
def sp__law_inner (K : PySem.W.Frag) : Sp := fun vs H Q _ => ∃ (N : Addr → Prop) (t : Addr) (c : TelD), vs = [.ref t] ∧ TelN N H c t ∧ ∀ a as H', Ex H H' → H a = none → H' a = some (.lst (as.map V.ref)) → TelsN N H' c.inn as → Q (.ref a) H'
theorem fb__law_inner {P : Program} {w : World} {K : PySem.W.Frag} {mg : Str → Option Value} {base : Heap} (T : Env K mg) : ∃ fd, FunD K "_law_inner" "_law_inner" (defArgs s__law_inner) (defBody s__law_inner) (defScope s__law_inner) [] [] (He.ga K "_law_inner") fd ∧ Fb P w K mg base 1 (He.ga K "_law_inner") fd ["_law_told"] (sp__law_inner K) := by
  obtain ⟨fd, F⟩ := T.f__law_inner
  refine ⟨fd, F, fb_of F sc__law_inner (fun vs H Q E h => ?_) (fun cdv A outer s H vs Q E hr h => ?_)⟩
  · obtain ⟨N, t, c, rfl, _⟩ := h
    rfl
  · obtain ⟨N, t, c, rfl, ht, q⟩ := h
    refine ⟨_, (pss_cons (ps_if (pt_cmpR op_eq (pe_ix ix_tup (pv 0) pe_int (fun _ _ => rfl)) pe_str (nomark _))
      (pss_one (ps_ret (pe_callTy call_list_of (by rfl) T.n_list (by decide +kernel) (pa_cons (pe_ix ix_tup (pv 0) pe_int (fun _ _ => rfl)) pa_nil))))
      pss_nil)
      (pss_cons (ps_if (pt_cmpR op_in_seq (pe_ix ix_tup (pv 0) pe_int (fun _ _ => rfl)) (pe_tup (pa_cons pe_str (pa_cons pe_str pa_nil))) (by rfl))
      (pss_one (ps_ret (pe_lst (pa_cons (pe_ix ix_tup (pv 0) pe_int (fun _ _ => rfl)) (pa_cons (pe_ix ix_tup (pv 0) (pe_un un_neg pe_int) (fun _ _ => rfl)) pa_nil)))))
      pss_nil)
      (pss_one (ps_ret (pe_ifExp (pt_cmpR op_in_seq (pe_ix ix_tup (pv 0) pe_int (fun _ _ => rfl)) (pe_tup (pa_cons pe_str (pa_cons pe_str pa_nil))) (by rfl)) (pe_lst (pa_cons (pe_ix ix_tup (pv 0) pe_int (fun _ _ => rfl)) pa_nil)) (pe_lst pa_nil)))))), ?_⟩
    cases c with
    | as_ z =>
      have h0 := ht
      unfold TelN at ht
      have h1 := ht
      refine ⟨_, rfl, _, _, _, _, rfl, rfl, (sq_tup h1), rfl, rfl, _, rfl, _, rfl, _, _, _, _, rfl, rfl, (sq_tup h1), rfl, (by decide), ?_⟩
      intro a1 na1
      have Xa1 := ex_new (o := HO.tup [V.str (Str.ofString "less"), V.str (Str.ofString "swap")]) na1
      have ha1 : upd H a1 (HO.tup [V.str (Str.ofString "less"), V.str (Str.ofString "swap")]) a1 = some (HO.tup [V.str (Str.ofString "less"), V.str (Str.ofString "swap")]) := upd_same
      generalize upd H a1 (HO.tup [V.str (Str.ofString "less"), V.str (Str.ofString "swap")]) = Ga1 at Xa1 ha1 ⊢
      refine ⟨_, _, rfl, (.inr (sq_tup ha1)), rfl, rfl, _, rfl, _, rfl, _, _, _, _, rfl, rfl, (sq_tup (Xa1 _ _ h1)), rfl, (by decide), ?_⟩
      intro a2 na2
      have Xa2 := ex_new (o := HO.tup [V.str (Str.ofString "later"), V.str (Str.ofString "noted")]) na2
      have ha2 : upd Ga1 a2 (HO.tup [V.str (Str.ofString "later"), V.str (Str.ofString "noted")]) a2 = some (HO.tup [V.str (Str.ofString "later"), V.str (Str.ofString "noted")]) := upd_same
      generalize upd Ga1 a2 (HO.tup [V.str (Str.ofString "later"), V.str (Str.ofString "noted")]) = Ga2 at Xa2 ha2 ⊢
      refine ⟨_, _, rfl, (.inr (sq_tup ha2)), rfl, rfl, _, rfl, (by decide), ?_⟩
      intro a3 na3
      have Xa3 := ex_new (o := HO.lst []) na3
      have ha3 : upd Ga2 a3 (HO.lst []) a3 = some (HO.lst []) := upd_same
      generalize upd Ga2 a3 (HO.lst []) = Ga3 at Xa3 ha3 ⊢
      exact q a3 [] _ (Xa1.trans (Xa2.trans Xa3)) (ex_fresh (Xa1.trans Xa2) na3) ha3 (by unfold TelD.inn; exact .nil)
    | once rs ws =>
      have h0 := ht
      unfold TelN at ht
      obtain ⟨r, w, h1, _⟩ := ht
      refine ⟨_, rfl, _, _, _, _, rfl, rfl, (sq_tup h1), rfl, rfl, _, rfl, _, rfl, _, _, _, _, rfl, rfl, (sq_tup h1), rfl, (by decide), ?_⟩
      intro a1 na1
      have Xa1 := ex_new (o := HO.tup [V.str (Str.ofString "less"), V.str (Str.ofString "swap")]) na1
      have ha1 : upd H a1 (HO.tup [V.str (Str.ofString "less"), V.str (Str.ofString "swap")]) a1 = some (HO.tup [V.str (Str.ofString "less"), V.str (Str.ofString "swap")]) := upd_same
      generalize upd H a1 (HO.tup [V.str (Str.ofString "less"), V.str (Str.ofString "swap")]) = Ga1 at Xa1 ha1 ⊢
      refine ⟨_, _, rfl, (.inr (sq_tup ha1)), rfl, rfl, _, rfl, _, rfl, _, _, _, _, rfl, rfl, (sq_tup (Xa1 _ _ h1)), rfl, (by decide), ?_⟩
      intro a2 na2
      have Xa2 := ex_new (o := HO.tup [V.str (Str.ofString "later"), V.str (Str.ofString "noted")]) na2
      have ha2 : upd Ga1 a2 (HO.tup [V.str (Str.ofString "later"), V.str (Str.ofString "noted")]) a2 = some (HO.tup [V.str (Str.ofString "later"), V.str (Str.ofString "noted")]) := upd_same
      generalize upd Ga1 a2 (HO.tup [V.str (Str.ofString "later"), V.str (Str.ofString "noted")]) = Ga2 at Xa2 ha2 ⊢
      refine ⟨_, _, rfl, (.inr (sq_tup ha2)), rfl, rfl, _, rfl, (by decide), ?_⟩
      intro a3 na3
      have Xa3 := ex_new (o := HO.lst []) na3
      have ha3 : upd Ga2 a3 (HO.lst []) a3 = some (HO.lst []) := upd_same
      generalize upd Ga2 a3 (HO.lst []) = Ga3 at Xa3 ha3 ⊢
      exact q a3 [] _ (Xa1.trans (Xa2.trans Xa3)) (ex_fresh (Xa1.trans Xa2) na3) ha3 (by unfold TelD.inn; exact .nil)
    | every D rs ws =>
      unfold TelN at ht
      obtain ⟨x, g, l, r, w, h1, _⟩ := ht
      refine ⟨_, rfl, _, _, _, _, rfl, rfl, (sq_tup h1), rfl, rfl, _, rfl, _, rfl, _, _, _, _, rfl, rfl, (sq_tup h1), rfl, (by decide), ?_⟩
      intro a1 na1
      have Xa1 := ex_new (o := HO.tup [V.str (Str.ofString "less"), V.str (Str.ofString "swap")]) na1
      have ha1 : upd H a1 (HO.tup [V.str (Str.ofString "less"), V.str (Str.ofString "swap")]) a1 = some (HO.tup [V.str (Str.ofString "less"), V.str (Str.ofString "swap")]) := upd_same
      generalize upd H a1 (HO.tup [V.str (Str.ofString "less"), V.str (Str.ofString "swap")]) = Ga1 at Xa1 ha1 ⊢
      refine ⟨_, _, rfl, (.inr (sq_tup ha1)), rfl, rfl, _, rfl, _, rfl, _, _, _, _, rfl, rfl, (sq_tup (Xa1 _ _ h1)), rfl, (by decide), ?_⟩
      intro a2 na2
      have Xa2 := ex_new (o := HO.tup [V.str (Str.ofString "later"), V.str (Str.ofString "noted")]) na2
      have ha2 : upd Ga1 a2 (HO.tup [V.str (Str.ofString "later"), V.str (Str.ofString "noted")]) a2 = some (HO.tup [V.str (Str.ofString "later"), V.str (Str.ofString "noted")]) := upd_same
      generalize upd Ga1 a2 (HO.tup [V.str (Str.ofString "later"), V.str (Str.ofString "noted")]) = Ga2 at Xa2 ha2 ⊢
      refine ⟨_, _, rfl, (.inr (sq_tup ha2)), rfl, rfl, _, rfl, (by decide), ?_⟩
      intro a3 na3
      have Xa3 := ex_new (o := HO.lst []) na3
      have ha3 : upd Ga2 a3 (HO.lst []) a3 = some (HO.lst []) := upd_same
      generalize upd Ga2 a3 (HO.lst []) = Ga3 at Xa3 ha3 ⊢
      exact q a3 [] _ (Xa1.trans (Xa2.trans Xa3)) (ex_fresh (Xa1.trans Xa2) na3) ha3 (by unfold TelD.inn; exact .nil)
    | join cs =>
      unfold TelN at ht
      obtain ⟨l, as, h1, h2, _, h3⟩ := ht
      refine ⟨_, rfl, _, _, _, _, rfl, rfl, (sq_tup h1), rfl, rfl, _, rfl, _, rfl, _, _, _, _, rfl, rfl, (sq_tup h1), rfl, _, _, rfl, (.inl (sq_lst h2)), ?_⟩
      intro a1 na1
      have Xa1 := ex_new (o := HO.lst (List.map V.ref as)) na1
      have ha1 : upd H a1 (HO.lst (List.map V.ref as)) a1 = some (HO.lst (List.map V.ref as)) := upd_same
      generalize upd H a1 (HO.lst (List.map V.ref as)) = Ga1 at Xa1 ha1 ⊢
      exact q a1 as _ Xa1 na1 ha1 (TelsN.mono h3 Xa1)
    | less c d =>
      unfold TelN at ht
      obtain ⟨a, b, h1, h2, h3⟩ := ht
      refine ⟨_, rfl, _, _, _, _, rfl, rfl, (sq_tup h1), rfl, rfl, _, rfl, _, rfl, _, _, _, _, rfl, rfl, (sq_tup h1), rfl, (by decide), ?_⟩
      intro a1 na1
      have Xa1 := ex_new (o := HO.tup [V.str (Str.ofString "less"), V.str (Str.ofString "swap")]) na1
      have ha1 : upd H a1 (HO.tup [V.str (Str.ofString "less"), V.str (Str.ofString "swap")]) a1 = some (HO.tup [V.str (Str.ofString "less"), V.str (Str.ofString "swap")]) := upd_same
      generalize upd H a1 (HO.tup [V.str (Str.ofString "less"), V.str (Str.ofString "swap")]) = Ga1 at Xa1 ha1 ⊢
      refine ⟨_, _, rfl, (.inr (sq_tup ha1)), rfl, rfl, _, rfl, _, rfl, _, _, _, _, rfl, rfl, (sq_tup (Xa1 _ _ h1)), rfl, _, rfl, _, rfl, _, _, _, _, rfl, rfl, (sq_tup (Xa1 _ _ h1)), rfl, (by show 2 ≤ sizeLine; decide), ?_⟩
      intro a2 na2
      have Xa2 := ex_new (o := HO.lst [V.ref a, V.ref b]) na2
      have ha2 : upd Ga1 a2 (HO.lst [V.ref a, V.ref b]) a2 = some (HO.lst [V.ref a, V.ref b]) := upd_same
      generalize upd Ga1 a2 (HO.lst [V.ref a, V.ref b]) = Ga2 at Xa2 ha2 ⊢
      exact q a2 [a, b] _ (Xa1.trans Xa2) (ex_fresh Xa1 na2) ha2 (.cons (h2.mono (Xa1.trans Xa2)) (.one (h3.mono (Xa1.trans Xa2))))
    | swap c D d =>
      unfold TelN at ht
      obtain ⟨a, x, g, l, b, h1, _, _, _, h2, h3⟩ := ht
      refine ⟨_, rfl, _, _, _, _, rfl, rfl, (sq_tup h1), rfl, rfl, _, rfl, _, rfl, _, _, _, _, rfl, rfl, (sq_tup h1), rfl, (by decide), ?_⟩
      intro a1 na1
      have Xa1 := ex_new (o := HO.tup [V.str (Str.ofString "less"), V.str (Str.ofString "swap")]) na1
      have ha1 : upd H a1 (HO.tup [V.str (Str.ofString "less"), V.str (Str.ofString "swap")]) a1 = some (HO.tup [V.str (Str.ofString "less"), V.str (Str.ofString "swap")]) := upd_same
      generalize upd H a1 (HO.tup [V.str (Str.ofString "less"), V.str (Str.ofString "swap")]) = Ga1 at Xa1 ha1 ⊢
      refine ⟨_, _, rfl, (.inr (sq_tup ha1)), rfl, rfl, _, rfl, _, rfl, _, _, _, _, rfl, rfl, (sq_tup (Xa1 _ _ h1)), rfl, _, rfl, _, rfl, _, _, _, _, rfl, rfl, (sq_tup (Xa1 _ _ h1)), rfl, (by show 2 ≤ sizeLine; decide), ?_⟩
      intro a2 na2
      have Xa2 := ex_new (o := HO.lst [V.ref a, V.ref b]) na2
      have ha2 : upd Ga1 a2 (HO.lst [V.ref a, V.ref b]) a2 = some (HO.lst [V.ref a, V.ref b]) := upd_same
      generalize upd Ga1 a2 (HO.lst [V.ref a, V.ref b]) = Ga2 at Xa2 ha2 ⊢
      exact q a2 [a, b] _ (Xa1.trans Xa2) (ex_fresh Xa1 na2) ha2 (.cons (h2.mono (Xa1.trans Xa2)) (.one (h3.mono (Xa1.trans Xa2))))
    | later c m =>
      unfold TelN at ht
      obtain ⟨a, h1, h2⟩ := ht
      refine ⟨_, rfl, _, _, _, _, rfl, rfl, (sq_tup h1), rfl, rfl, _, rfl, _, rfl, _, _, _, _, rfl, rfl, (sq_tup h1), rfl, (by decide), ?_⟩
      intro a1 na1
      have Xa1 := ex_new (o := HO.tup [V.str (Str.ofString "less"), V.str (Str.ofString "swap")]) na1
      have ha1 : upd H a1 (HO.tup [V.str (Str.ofString "less"), V.str (Str.ofString "swap")]) a1 = some (HO.tup [V.str (Str.ofString "less"), V.str (Str.ofString "swap")]) := upd_same
      generalize upd H a1 (HO.tup [V.str (Str.ofString "less"), V.str (Str.ofString "swap")]) = Ga1 at Xa1 ha1 ⊢
      refine ⟨_, _, rfl, (.inr (sq_tup ha1)), rfl, rfl, _, rfl, _, rfl, _, _, _, _, rfl, rfl, (sq_tup (Xa1 _ _ h1)), rfl, (by decide), ?_⟩
      intro a2 na2
      have Xa2 := ex_new (o := HO.tup [V.str (Str.ofString "later"), V.str (Str.ofString "noted")]) na2
      have ha2 : upd Ga1 a2 (HO.tup [V.str (Str.ofString "later"), V.str (Str.ofString "noted")]) a2 = some (HO.tup [V.str (Str.ofString "later"), V.str (Str.ofString "noted")]) := upd_same
      generalize upd Ga1 a2 (HO.tup [V.str (Str.ofString "later"), V.str (Str.ofString "noted")]) = Ga2 at Xa2 ha2 ⊢
      refine ⟨_, _, rfl, (.inr (sq_tup ha2)), rfl, rfl, _, rfl, _, rfl, _, _, _, _, rfl, rfl, (sq_tup (Xa2 _ _ (Xa1 _ _ h1))), rfl, (by show 1 ≤ sizeLine; decide), ?_⟩
      intro a3 na3
      have Xa3 := ex_new (o := HO.lst [V.ref a]) na3
      have ha3 : upd Ga2 a3 (HO.lst [V.ref a]) a3 = some (HO.lst [V.ref a]) := upd_same
      generalize upd Ga2 a3 (HO.lst [V.ref a]) = Ga3 at Xa3 ha3 ⊢
      exact q a3 [a] _ (Xa1.trans (Xa2.trans Xa3)) (ex_fresh (Xa1.trans Xa2) na3) ha3 (.one (h2.mono (Xa1.trans (Xa2.trans Xa3))))
    | noted c m =>
      unfold TelN at ht
      obtain ⟨a, h1, h2⟩ := ht
      refine ⟨_, rfl, _, _, _, _, rfl, rfl, (sq_tup h1), rfl, rfl, _, rfl, _, rfl, _, _, _, _, rfl, rfl, (sq_tup h1), rfl, (by decide), ?_⟩
      intro a1 na1
      have Xa1 := ex_new (o := HO.tup [V.str (Str.ofString "less"), V.str (Str.ofString "swap")]) na1
      have ha1 : upd H a1 (HO.tup [V.str (Str.ofString "less"), V.str (Str.ofString "swap")]) a1 = some (HO.tup [V.str (Str.ofString "less"), V.str (Str.ofString "swap")]) := upd_same
      generalize upd H a1 (HO.tup [V.str (Str.ofString "less"), V.str (Str.ofString "swap")]) = Ga1 at Xa1 ha1 ⊢
      refine ⟨_, _, rfl, (.inr (sq_tup ha1)), rfl, rfl, _, rfl, _, rfl, _, _, _, _, rfl, rfl, (sq_tup (Xa1 _ _ h1)), rfl, (by decide), ?_⟩
      intro a2 na2
      have Xa2 := ex_new (o := HO.tup [V.str (Str.ofString "later"), V.str (Str.ofString "noted")]) na2
      have ha2 : upd Ga1 a2 (HO.tup [V.str (Str.ofString "later"), V.str (Str.ofString "noted")]) a2 = some (HO.tup [V.str (Str.ofString "later"), V.str (Str.ofString "noted")]) := upd_same
      generalize upd Ga1 a2 (HO.tup [V.str (Str.ofString "later"), V.str (Str.ofString "noted")]) = Ga2 at Xa2 ha2 ⊢
      refine ⟨_, _, rfl, (.inr (sq_tup ha2)), rfl, rfl, _, rfl, _, rfl, _, _, _, _, rfl, rfl, (sq_tup (Xa2 _ _ (Xa1 _ _ h1))), rfl, (by show 1 ≤ sizeLine; decide), ?_⟩
      intro a3 na3
      have Xa3 := ex_new (o := HO.lst [V.ref a]) na3
      have ha3 : upd Ga2 a3 (HO.lst [V.ref a]) a3 = some (HO.lst [V.ref a]) := upd_same
      generalize upd Ga2 a3 (HO.lst [V.ref a]) = Ga3 at Xa3 ha3 ⊢
      exact q a3 [a] _ (Xa1.trans (Xa2.trans Xa3)) (ex_fresh (Xa1.trans Xa2) na3) ha3 (.one (h2.mono (Xa1.trans (Xa2.trans Xa3))))
theorem ok__law_inner {P : Program} {w : World} {K : PySem.W.Frag} {mg : Str → Option Value} {base : Heap} (T : Env K mg) : Fc P w K mg base 1 (He.ga K "_law_inner") [] (sp__law_inner K ) := by
  obtain ⟨fd, D, F⟩ := fb__law_inner T
  exact F.all (D.bindsN fun _ _ _ _ _ _ us hl => match us, hl with | [_], _ => rfl)
end
section
def strD (ws : List Str) : List PyData := ws.map PyData.str
theorem dp_strs (K : PySem.W.Frag) (H : Hp) : ∀ ws : List Str, DpAll K H (ws.map V.str) (strD ws)
  | [] => .nil
  | n :: ns => .cons (.str _) (dp_strs K H ns)
theorem strOk_nm {z : Str} (h : nmN z.cps.toList = true) : PyData.strOk z = true := by
  unfold PyData.strOk
  rw [← Array.all_toList]
  exact List.all_eq_true.mpr fun c hc => decide_eq_true (by have := (nm_facts h).2.2 c hc; omega)
theorem strD_lay : ∀ ns : List Str, Nms ns → PyData.canLayAll0 (strD ns) = true
  | [], _ => rfl
  | n :: ns, h => by
    show (PyData.strOk n && PyData.canLayAll0 (strD ns)) = true
    rw [strD_lay ns fun z hz => h z (List.mem_cons_of_mem _ hz), strOk_nm (h n List.mem_cons_self)]
    rfl
theorem strD_dep : ∀ ns : List Str, PyData.depthAll (strD ns) = 0
  | [] => rfl
  | n :: ns => by
    show max 0 (PyData.depthAll (strD ns)) = 0
    rw [strD_dep ns]
    rfl
theorem okT_nm {z : Str} (h : nmN z.cps.toList = true) : okT z = true := by
  unfold okT
  refine List.all_eq_true.mpr fun c hc => ?_
  have := (nm_facts h).2.2 c hc
  exact decide_eq_true (Nat.lt_of_lt_of_le this.2 (by decide))
theorem strD_ok : ∀ ws : List Str, Nms ws → okL (strD ws) = true
  | [], _ => rfl
  | z :: r, h => by
    show (okT z && okL (strD r)) = true
    rw [okT_nm (h z List.mem_cons_self), strD_ok r fun y hy => h y (List.mem_cons_of_mem _ hy)]
    rfl
theorem strD_sz : ∀ ws : List Str, Nms ws → szL (strD ws) ≤ 84 * ws.length
  | [], _ => Nat.le_refl _
  | z :: r, h => by
    have h1 := strD_sz r fun y hy => h y (List.mem_cons_of_mem _ hy)
    have h2 := (nm_facts (h z List.mem_cons_self)).2.1
    have h3 : z.length = z.cps.toList.length := rfl
    show 10 * z.length + 2 + 2 + szL (strD r) ≤ 84 * (r.length + 1)
    omega
end
section
def canonN (f : Option (List Str)) : Prop := ∀ u, f = some u → u.Nodup ∧ srtS u = u
def memN (f : Option (List Str)) (z : Str) : Prop := ∃ u, f = some u ∧ z ∈ u
theorem memN_some {u : List Str} {z : Str} : memN (some u) z ↔ z ∈ u := ⟨fun ⟨v, e, h⟩ => by cases e; exact h, fun h => ⟨u, rfl, h⟩⟩
theorem memN_none {z : Str} : ¬ memN none z := nofun
theorem canon_none : canonN none := nofun
theorem canon_srt {u : List Str} (h : u.Nodup) : canonN (some (srtS u)) := fun v e => by
  cases e
  have p := srtS_perm u
  exact ⟨p.nodup_iff.mpr h, srtS_congr p⟩
theorem canon_eq {u v : List Str} (cu : canonN (some u)) (cv : canonN (some v)) (h : ∀ z, z ∈ u ↔ z ∈ v) : u = v := by
  obtain ⟨n1, s1⟩ := cu u rfl
  obtain ⟨n2, s2⟩ := cv v rfl
  have p := (List.perm_ext_iff_of_nodup n1 n2).mpr h
  rw [← s1, ← s2]
  exact srtS_congr p
theorem canon_ext {f g : Option (List Str)} (cf : canonN f) (cg : canonN g) (hs : f.isSome = g.isSome) (h : ∀ z, memN f z ↔ memN g z) : f = g := by
  cases f with
  | none =>
    cases g with
    | none => rfl
    | some v => cases hs
  | some u =>
    cases g with
    | none => cases hs
    | some v => exact congrArg some (canon_eq cf cg fun z => by rw [← memN_some, ← memN_some]; exact h z)
theorem tog_canon {f : Option (List Str)} {w : List Str} (cw : canonN (some w)) : canonN (some (togN f w)) := by
  cases f with
  | none => exact cw
  | some u => exact canon_srt (dst_nodup _ _ List.nodup_nil)
theorem mem_tog {f : Option (List Str)} {w : List Str} {z : Str} : z ∈ togN f w ↔ memN f z ∨ z ∈ w := by
  cases f with
  | none => exact ⟨.inr, fun h => h.elim (fun h => absurd h memN_none) id⟩
  | some u =>
    rw [memN_some]
    show z ∈ srtS (dst [] (u ++ w)) ↔ _
    rw [(srtS_perm _).mem_iff, mem_dst, List.mem_append]
    exact ⟨fun h => h.elim (fun h => nomatch h) id, .inr⟩
theorem nts_canonL {n : Nat} : ∀ {cs : List CardD} {f : Option (List Str)}, (∀ c ∈ cs, canonN (c.nts n)) → canonN f → canonN (ntsL cs f n)
  | [], f, _, cf => by
    unfold ntsL
    exact cf
  | c :: cs, f, h, cf => by
    have hc := h c List.mem_cons_self
    have hr : ∀ x ∈ cs, canonN (x.nts n) := fun x hx => h x (List.mem_cons_of_mem _ hx)
    rw [ntsL_cons]
    cases e : c.nts n with
    | none => exact nts_canonL hr cf
    | some w =>
      rw [e] at hc
      exact nts_canonL hr (tog_canon hc)
theorem nts_memL {n : Nat} {z : Str} : ∀ {cs : List CardD} {f : Option (List Str)}, memN (ntsL cs f n) z ↔ memN f z ∨ ∃ c ∈ cs, memN (c.nts n) z
  | [], f => by
    unfold ntsL
    exact ⟨.inl, fun h => h.elim id fun ⟨_, h, _⟩ => nomatch h⟩
  | c :: cs, f => by
    rw [ntsL_cons]
    have hx : (∃ x ∈ c :: cs, memN (x.nts n) z) ↔ memN (c.nts n) z ∨ ∃ x ∈ cs, memN (x.nts n) z :=
      ⟨fun ⟨x, hx, h⟩ => (List.mem_cons.mp hx).elim (fun e => .inl (e ▸ h)) fun hx => .inr ⟨x, hx, h⟩, fun h => h.elim (fun h => ⟨c, List.mem_cons_self, h⟩) fun ⟨x, hx, h⟩ => ⟨x, List.mem_cons_of_mem _ hx, h⟩⟩
    rw [hx]
    cases e : c.nts n with
    | none =>
      rw [nts_memL (cs := cs)]
      exact ⟨fun h => h.elim .inl fun h => .inr (.inr h), fun h => h.elim .inl fun h => h.elim (fun h => absurd h memN_none) .inr⟩
    | some w =>
      rw [nts_memL (cs := cs), memN_some, memN_some, mem_tog]
      exact or_assoc
theorem nts_someL {n : Nat} : ∀ {cs : List CardD} {f : Option (List Str)}, (ntsL cs f n).isSome = (f.isSome || cs.any fun c => (c.nts n).isSome)
  | [], f => by
    unfold ntsL
    rw [List.any_nil, Bool.or_false]
  | c :: cs, f => by
    rw [ntsL_cons, List.any_cons]
    cases e : c.nts n with
    | none =>
      show (ntsL cs f n).isSome = (f.isSome || (false || _))
      rw [nts_someL, Bool.false_or]
    | some w =>
      show (ntsL cs (some (togN f w)) n).isSome = (f.isSome || (true || _))
      rw [nts_someL, Bool.true_or, Bool.or_true]
      rfl
mutual
theorem TelD.canon {b : Nat} : ∀ {d : TelD} (n : Nat), d.ok b → canonN (d.card.nts n)
  | .once rs ws, n, h => by
    unfold TelD.ok at h
    rw [once_nts h.1]
    split
    · exact canon_srt h.2.2.2.1
    · exact canon_none
  | .every D rs ws, n, h => by
    unfold TelD.ok at h
    rw [every_nts h.2.1]
    split
    · split
      · exact canon_srt h.2.2.2.2.2.1
      · exact canon_none
    · exact canon_none
  | .join cs, n, h => by
    unfold TelD.ok at h
    unfold TelD.card CardD.nts
    exact nts_canonL (cardL_canon n h.1) canon_none
  | .less c d, n, h => by
    unfold TelD.ok at h
    unfold TelD.card CardD.nts
    split
    · exact TelD.canon n h.1
    · exact canon_none
  | .swap c D d, n, h => by
    unfold TelD.ok at h
    unfold TelD.card CardD.nts
    split
    · exact TelD.canon n h.2.2.2
    · exact TelD.canon n h.1
  | .later c m, n, h => by
    unfold TelD.ok at h
    unfold TelD.card CardD.nts
    split
    · exact TelD.canon _ h.1
    · exact canon_none
  | .noted c z, n, h => by
    unfold TelD.card CardD.nts
    split
    · exact canon_none
    · exact canon_srt (dst_nodup _ _ List.nodup_nil)
  | .as_ z, n, h => by
    unfold TelD.card CardD.nts
    exact canon_none
theorem cardL_canon {b : Nat} : ∀ {cs : List TelD} (n : Nat), okTs b cs → ∀ c ∈ cardL cs, canonN (c.nts n)
  | [], n, _, c, h => nomatch h
  | d :: cs, n, h, c, hc => by
    unfold okTs at h
    unfold cardL at hc
    rcases List.mem_cons.mp hc with rfl | hc
    · exact TelD.canon n h.1
    · exact cardL_canon n h.2 c hc
end
end
section
def TupsAt (H : Hp) (as : List Addr) (wss : List (List Str)) : Prop := Paired (fun a ws => H a = some (.tup (ws.map V.str))) as wss
theorem TupsAt.mono {H H' : Hp} {as : List Addr} {wss : List (List Str)} (h : TupsAt H as wss) (e : Ex H H') : TupsAt H' as wss := paired_imp (fun _ _ z => e _ _ z) h
def tupD (wss : List (List Str)) : List PyData := wss.map fun ws => .tuple (strD ws)
theorem dp_tups {K : PySem.W.Frag} {H : Hp} {as : List Addr} {wss : List (List Str)} (h : TupsAt H as wss) : DpAll K H (as.map V.ref) (tupD wss) := by
  unfold TupsAt at h
  induction h with
  | nil => exact .nil
  | cons h1 _ ih => exact .cons (.tup (sq_tup h1) (dp_strs K H _)) ih
theorem tupD_lay : ∀ wss : List (List Str), (∀ ws ∈ wss, Nms ws) → PyData.canLayAll0 (tupD wss) = true
  | [], _ => rfl
  | w :: wss, h => by
    show (PyData.canLayAll0 (strD w) && PyData.canLayAll0 (tupD wss)) = true
    rw [tupD_lay wss fun z hz => h z (List.mem_cons_of_mem _ hz), strD_lay _ (h w List.mem_cons_self)]
    rfl
theorem tupD_dep : ∀ wss : List (List Str), PyData.depthAll (tupD wss) ≤ 1
  | [] => by decide
  | w :: wss => by
    show max (PyData.depthAll (strD w) + 1) (PyData.depthAll (tupD wss)) ≤ 1
    have := tupD_dep wss
    rw [strD_dep]
    omega
theorem shaped_tups {wss : List (List Str)} (h : ∀ ws ∈ wss, Nms ws) : SeqAt.shaped (.list (tupD wss)) = true := by
  show (PyData.canLayAll0 (tupD wss) && decide (PyData.depthAll (tupD wss) + 1 ≤ 64)) = true
  have := tupD_dep wss
  rw [tupD_lay _ h, decide_eq_true (by omega)]
  rfl
def notNon (x : V) : Option V := if x = .non then none else some x
theorem nts_filter {H : Hp} {n : Nat} {xs : List V} {cs : List TelD} (h : NtsAt H n xs cs) : ∃ as : List Addr, xs.filterMap notNon = as.map V.ref ∧ TupsAt H as (cs.filterMap fun c => c.card.nts n) := by
  unfold NtsAt at h
  induction h with
  | nil => exact ⟨[], rfl, .nil⟩
  | cons h1 _ ih =>
    rename_i x c xs cs _
    obtain ⟨as, e, hT⟩ := ih
    rw [List.filterMap_cons, List.filterMap_cons]
    cases hc : c.card.nts n with
    | none =>
      rw [hc] at h1
      obtain rfl : x = .non := h1
      exact ⟨as, e, hT⟩
    | some ws =>
      rw [hc] at h1
      obtain ⟨p, rfl, hp⟩ := h1
      refine ⟨p :: as, ?_, .cons hp hT⟩
      show V.ref p :: xs.filterMap notNon = _
      rw [e]
      rfl
theorem mem_filterMap_flat {n : Nat} {z : Str} {cs : List TelD} : z ∈ (cs.filterMap fun c => c.card.nts n).flatten ↔ ∃ c ∈ cs, memN (c.card.nts n) z := by
  rw [List.mem_flatten]
  constructor
  · rintro ⟨ws, hw, hz⟩
    obtain ⟨c, hc, e⟩ := List.mem_filterMap.mp hw
    exact ⟨c, hc, ws, e, hz⟩
  · rintro ⟨c, hc, ws, e, hz⟩
    exact ⟨ws, List.mem_filterMap.mpr ⟨c, hc, e⟩, hz⟩
theorem together_join {cs : List TelD} {n : Nat} (cn : canonN (ntsL (cardL cs) none n)) : ntsL (cardL cs) none n = if (cs.filterMap fun c => c.card.nts n) = [] then none else some (srtS (dst [] (cs.filterMap fun c => c.card.nts n).flatten)) := by
  have hs := nts_someL (n := n) (cs := cardL cs) (f := none)
  rw [cardL_map, List.any_map] at hs
  rw [cardL_map] at cn ⊢
  by_cases h : (cs.filterMap fun c => c.card.nts n) = []
  · rw [if_pos h]
    have ha : (cs.any ((fun c => (c.nts n).isSome) ∘ TelD.card)) = false := List.any_eq_false.mpr fun c hc => by
      have := List.filterMap_eq_nil_iff.mp h c hc
      show ¬ (c.card.nts n).isSome = true
      rw [this]
      nofun
    rw [ha] at hs
    cases e : ntsL (cs.map TelD.card) none n with
    | none => rfl
    | some u =>
      rw [e] at hs
      cases hs
  · rw [if_neg h]
    refine canon_ext cn (canon_srt (dst_nodup _ _ List.nodup_nil)) ?_ fun z => ?_
    · rw [hs]
      obtain ⟨w, hw⟩ := List.exists_mem_of_ne_nil _ h
      obtain ⟨c, hc, e⟩ := List.mem_filterMap.mp hw
      have : (cs.any ((fun c => (c.nts n).isSome) ∘ TelD.card)) = true := List.any_eq_true.mpr ⟨c, hc, by show (c.card.nts n).isSome = true; rw [e]; rfl⟩
      rw [this]
      rfl
    · rw [nts_memL, memN_some, (srtS_perm _).mem_iff, mem_dst, mem_filterMap_flat]
      constructor
      · rintro (h | ⟨c, hc, hz⟩)
        · exact absurd h memN_none
        · obtain ⟨d, hd, rfl⟩ := List.mem_map.mp hc
          exact .inr ⟨d, hd, hz⟩
      · rintro (h | ⟨c, hc, hz⟩)
        · cases h
        · exact .inr ⟨c.card, List.mem_map.mpr ⟨c, hc, rfl⟩, hz⟩
end
section
theorem filt_ed (us : List Str) : ∀ ws : List Str, (ws.filterMap fun z => if z ∈ us then none else some (V.str z)) = (ws.filter fun z => !decide (z ∈ us)).map V.str
  | [] => rfl
  | x :: ws => by
    rw [List.filterMap_cons, List.filter_cons, filt_ed us ws]
    by_cases c : x ∈ us <;> simp [c]
def sp__law_together (K : PySem.W.Frag) : Sp := fun vs H Q _ => ∃ (l : Addr) (as : List Addr) (wss : List (List Str)), vs = [.ref l] ∧ H l = some (.lst (as.map V.ref)) ∧ TupsAt H as wss ∧ (∀ ws ∈ wss, Nms ws ∧ ws.Nodup ∧ ws.length ≤ 1000) ∧ wss.length ≤ 60 ∧ ∀ a H', Ex H H' → H' a = some (.tup ((srtS (dst [] wss.flatten)).map V.str)) → Q (.ref a) H'
theorem fb__law_together {P : Program} {w : World} {K : PySem.W.Frag} {mg : Str → Option Value} {base : Heap} (T : Env K mg) : ∃ fd, FunD K "_law_together" "_law_together" (defArgs s__law_together) (defBody s__law_together) (defScope s__law_together) [] [] (He.ga K "_law_together") fd ∧ Fb P w K mg base 1 (He.ga K "_law_together") fd ["_law_some"] (sp__law_together K) := by
  obtain ⟨fd, F⟩ := T.f__law_together
  refine ⟨fd, F, fb_of F sc__law_together (fun vs H Q E h => ?_) (fun cdv A outer s H vs Q E hr h => ?_)⟩
  · obtain ⟨l, as, wss, rfl, _⟩ := h
    rfl
  · obtain ⟨l, as, wss, rfl, hl, hT, hw, hn, q⟩ := h
    refine ⟨_, (pss_cons (ps_set (i := 1) sc__law_together.nd rfl (Or.inr rfl) (pe_lst pa_nil))
      (pss_cons (ps_for (passes_of rfl) rfl (pi_list (pv 0)) (pg_name (i := 2) sc__law_together.nd rfl (Or.inl rfl))
      (pss_one (ps_expr (pe_bm PySem.F.plainAttrs_list PySem.F.slot_list_extend PySem.F.type_list_extend mt_extend (pv 1) (pa_cons (pe_lc (own := [("_law_note", 3)]) (by rfl) sc__law_together.nd (pi_tup (pv 2)) (blkOk_by (own := [("_law_note", 3)]) (N := ["_law_some", "_law_found", "_law_notes_here", "_law_note"]) (sc := defScope s__law_together) (by decide +kernel)) (fun _ _ _ _ _ => (pg_name (i := 3) sc__law_together.nd rfl (Or.inl rfl))) (fun _ _ _ _ _ => (pts_one (pt_cmpR (op_notIn_seqK K) (pv 3) (pv 1) (by rfl)))) (fun _ _ _ _ _ => (pv 3))) pa_nil)))))
      (pss_one (ps_ret (pe_callTy call_tuple_of (by rfl) T.n_tuple (by decide +kernel) (pa_cons (pe_callB (cr_sortedT K) (by rfl) T.n_sorted (by decide +kernel) (pa_cons (pv 1) pa_nil)) pa_nil)))))), ?_⟩
    refine ⟨(by decide), ?_⟩
    intro a1 na1
    have Xa1 := ex_new (o := HO.lst []) na1
    have ha1 : upd H a1 (HO.lst []) a1 = some (HO.lst []) := upd_same
    generalize upd H a1 (HO.lst []) = Ga1 at Xa1 ha1 ⊢
    refine ⟨_, rfl, _, rfl, ⟨_, (sq_lst (Xa1 _ _ hl))⟩, ?_⟩
    refine for_on as V.ref L2.walk_list (fun i σ G => Oth a1 Ga1 G ∧ ∃ us v2 v3, σ = [some (.ref l), some (.ref a1), v2, v3] ∧ G a1 = some (.lst (us.map V.str)) ∧ us.Nodup ∧ us.length ≤ 1000 * i ∧ (∀ z, z ∈ us ↔ z ∈ (wss.take i).flatten) ∧ Nms us) ⟨.refl _ _, [], _, _, rfl, ha1, List.nodup_nil, Nat.le_refl _, fun z => Iff.rfl, nofun⟩ (fun i σ G p => sq_lst ((Oth.ex Xa1 na1 p.1) _ _ hl)) ?_ ?_
    · rintro i t σ G ht ⟨OG, us, v2, v3, rfl, hU, nU, lU, mU, kU⟩
      obtain ⟨ws, hws, hG⟩ := paired_get hT ht
      obtain ⟨k1, k2, k3⟩ := hw ws (List.mem_of_getElem? hws)
      have XG := Oth.ex Xa1 na1 OG
      have hi : i < 60 := Nat.lt_of_lt_of_le (List.getElem?_eq_some_iff.mp hws).1 hn
      refine ⟨_, rfl, .inl ⟨rfl, ⟨_, sq_lst hU⟩⟩, ?_⟩
      refine ⟨_, rfl, _, rfl, ⟨_, sq_tup (XG _ _ hG)⟩, fun A nA => lc_on ws V.str L2.walk_tup (fun z => if z ∈ us then none else some (V.str z)) (fun H' => Ex G H') (fun H' z e => ex_mut e nA) (.refl _) (by omega) (fun H' e => sq_tup (e _ _ (XG _ _ hG))) (fun j z H4 acc N hz X4 hD la k => ?_) fun H5 X5 d5 => ?_⟩
      · have hU4 := X4 _ _ hU
        refine ⟨rfl, _, rfl, _, rfl, _, _, rfl, (.inl (sq_lst hU4)), rfl, ?_⟩
        refine ⟨flat_strs _, _, rfl, ?_⟩
        rw [inV_str]
        by_cases c : z ∈ us
        · rw [decide_eq_true c]
          rw [if_pos c] at k
          exact iteF (k H4 X4 hD)
        · rw [decide_eq_false c]
          rw [if_neg c] at k
          exact iteT ⟨_, rfl, acc, hD, la, k H4 X4 hD⟩
      · have ed : (ws.filterMap fun z => if z ∈ us then none else some (V.str z)) = (ws.filter fun z => !decide (z ∈ us)).map V.str := filt_ed us ws
        rw [ed] at d5
        have lf : (ws.filter fun z => !decide (z ∈ us)).length ≤ ws.length := List.length_filter_le _ _
        have aA : a1 ≠ A := ne_of_none hU nA
        refine ⟨a1, A, _, _, rfl, rfl, X5 _ _ hU, d5, sz_le (by rw [List.length_map, List.length_map]; omega), ?_⟩
        refine ⟨(OG.trans (ex_oth X5)).upd, us ++ ws.filter fun z => !decide (z ∈ us), _, _, rfl, by rw [upd_same, List.map_append], ?_, ?_, ?_, ?_⟩
        · exact List.nodup_append.mpr ⟨nU, k2.filter _, fun x hx y hy e => by
            have := (List.mem_filter.mp hy).2
            rw [← e] at this
            simp [hx] at this⟩
        · rw [List.length_append]
          omega
        · intro z
          rw [take_snoc hws, List.flatten_append, List.mem_append, List.mem_append, ← mU, List.mem_filter]
          simp only [List.flatten_cons, List.flatten_nil, List.append_nil]
          by_cases c : z ∈ us <;> simp [c]
        · intro z hz
          rcases List.mem_append.mp hz with h | h
          · exact kU z h
          · exact k1 z (List.mem_filter.mp h).1
    · rintro σ G ⟨OG, us, v2, v3, rfl, hU, nU, lU, mU, kU⟩
      refine ⟨_, rfl, _, _, rfl, (.inl (sq_lst hU)), ?_⟩
      intro a2 na2
      have Xa2 := ex_new (o := HO.lst (List.map V.str (srtS us))) na2
      have ha2 : upd G a2 (HO.lst (List.map V.str (srtS us))) a2 = some (HO.lst (List.map V.str (srtS us))) := upd_same
      generalize upd G a2 (HO.lst (List.map V.str (srtS us))) = Ga2 at Xa2 ha2 ⊢
      refine ⟨a2, _, rfl, .inl ⟨sq_lst ha2, fun u nu => ?_⟩⟩
      have hu := ex_new (o := HO.tup ((srtS us).map V.str)) nu
      have XG := Oth.ex Xa1 na1 OG
      have ln : as.length = wss.length := paired_len hT
      rw [ln, List.take_length] at mU
      have ee : srtS us = srtS (dst [] wss.flatten) := srtS_congr ((List.perm_ext_iff_of_nodup nU (dst_nodup _ _ List.nodup_nil)).mpr fun z => by
        rw [mU, mem_dst]
        exact ⟨.inr, fun h => h.elim (fun h => nomatch h) id⟩)
      exact q u _ ((XG.trans Xa2).trans hu) (by rw [← ee]; exact upd_same)
theorem ok__law_together {P : Program} {w : World} {K : PySem.W.Frag} {mg : Str → Option Value} {base : Heap} (T : Env K mg) : Fc P w K mg base 1 (He.ga K "_law_together") [] (sp__law_together K ) := by
  obtain ⟨fd, D, F⟩ := fb__law_together T
  exact F.all (D.bindsN fun _ _ _ _ _ _ us hl => match us, hl with | [_], _ => rfl)
end
section
def sp__law_notes (K : PySem.W.Frag) (d : Nat) : Sp := fun vs H Q _ => ∃ (N : Addr → Prop) (t : Addr) (c : TelD) (b n : Nat), vs = [.ref t, .int (n : Nat)] ∧ TelN N H c t ∧ c.ok b ∧ c.card.wt ≤ d ∧ c.card.wt ≤ 60 ∧ c.card.fst = none ∧ ∀ x H', Ex H H' → NtAt H' x (c.card.nts n) → Q x H'
theorem fb__law_notes {P : Program} {w : World} {K : PySem.W.Frag} {mg : Str → Option Value} {base : Heap} (T : Env K mg) {d L : Nat} (hL : 40 ≤ L) (r__law_notes : Fc P w K mg base L (He.ga K "_law_notes") [] (sp__law_notes K d)) : ∃ fd, FunD K "_law_notes" "_law_notes" (defArgs s__law_notes) (defBody s__law_notes) (defScope s__law_notes) [] [] (He.ga K "_law_notes") fd ∧ Fb P w K mg base (L + 1) (He.ga K "_law_notes") fd ["_law_told", "_law_t"] (sp__law_notes K (d + 1)) := by
  obtain ⟨fd, F⟩ := T.f__law_notes
  refine ⟨fd, F, fb_of F sc__law_notes (fun vs H Q E h => ?_) (fun cdv A outer s H vs Q E hr h => ?_)⟩
  · obtain ⟨N, t, c, b, n, rfl, _⟩ := h
    rfl
  · obtain ⟨N, t, c, b, n, rfl, ht, hk, hw, hw6, hfn, q⟩ := h
    refine ⟨_, (pss_cons (ps_if (pt_cmpR op_eq (pe_ix ix_tup (pv 0) pe_int (fun _ _ => rfl)) pe_str (nomark _))
      (pss_one (ps_ret (pe_ifExp (pt_cmpR op_in_seq (pv 1) (c_call (ok__law_moments_of T) (hr.mono (by omega)) T.g__law_moments_of T.k__law_moments_of takes0 (pa_cons (pe_ix ix_tup (pv 0) pe_int (fun _ _ => rfl)) pa_nil)) (by rfl)) (pe_callTy call_tuple_of (by rfl) T.n_tuple (by decide +kernel) (pa_cons (pe_callB (cr_sortedT K) (by rfl) T.n_sorted (by decide +kernel) (pa_cons (pe_ix ix_tup (pv 0) pe_int (fun _ _ => rfl)) pa_nil)) pa_nil)) pe_non)))
      pss_nil)
      (pss_cons (ps_if (pt_cmpR op_eq (pe_ix ix_tup (pv 0) pe_int (fun _ _ => rfl)) pe_str (nomark _))
      (pss_cons (ps_set (i := 2) sc__law_notes.nd rfl (Or.inl rfl) (pe_and (pe_cmpR op_in_seq (pe_op op_mod (pv 1) pe_int) (c_call (ok__law_moments_of T) (hr.mono (by omega)) T.g__law_moments_of T.k__law_moments_of takes0 (pa_cons (pe_ix ix_tup (pv 0) pe_int (fun _ _ => rfl)) pa_nil)) (by rfl)) (pe_one (c_call (ok__law_has T) (hr.mono (by omega)) T.g__law_has T.k__law_has takes0 (pa_cons (pe_ix ix_tup (pv 0) pe_int (fun _ _ => rfl)) (pa_cons (pe_op op_fdiv (pv 1) pe_int) pa_nil))))))
      (pss_one (ps_ret (pe_ifExp (pt_val (pv 2)) (pe_callTy call_tuple_of (by rfl) T.n_tuple (by decide +kernel) (pa_cons (pe_callB (cr_sortedT K) (by rfl) T.n_sorted (by decide +kernel) (pa_cons (pe_ix ix_tup (pv 0) pe_int (fun _ _ => rfl)) pa_nil)) pa_nil)) pe_non))))
      pss_nil)
      (pss_cons (ps_if (pt_cmpR op_eq (pe_ix ix_tup (pv 0) pe_int (fun _ _ => rfl)) pe_str (nomark _))
      (pss_one (ps_ret (c_call r__law_notes (hr.mono (by omega)) T.g__law_notes T.k__law_notes takes0 (pa_cons (pe_ifExp (pt_val (c_call (ok__law_has T) (hr.mono (by omega)) T.g__law_has T.k__law_has takes0 (pa_cons (pe_ix ix_tup (pv 0) pe_int (fun _ _ => rfl)) (pa_cons (pe_op op_fdiv (pv 1) pe_int) pa_nil)))) (pe_ix ix_tup (pv 0) pe_int (fun _ _ => rfl)) (pe_ix ix_tup (pv 0) pe_int (fun _ _ => rfl))) (pa_cons (pv 1) pa_nil)))))
      pss_nil)
      (pss_cons (ps_if (pt_cmpR op_eq (pe_ix ix_tup (pv 0) pe_int (fun _ _ => rfl)) pe_str (nomark _))
      (pss_one (ps_ret (pe_ifExp (pt_cmpR op_ge (pv 1) (pe_ix ix_tup (pv 0) pe_int (fun _ _ => rfl)) (nomark _)) (c_call r__law_notes (hr.mono (by omega)) T.g__law_notes T.k__law_notes takes0 (pa_cons (pe_ix ix_tup (pv 0) pe_int (fun _ _ => rfl)) (pa_cons (pe_op op_sub (pv 1) (pe_ix ix_tup (pv 0) pe_int (fun _ _ => rfl))) pa_nil))) pe_non)))
      pss_nil)
      (pss_cons (ps_setLc (i := 3) (own := [("_law_one", 4)]) (by rfl) sc__law_notes.nd rfl rfl (sw_true rfl rfl rfl (by decide +kernel)) (pi_list (c_call (ok__law_inner T) (hr.mono (by omega)) T.g__law_inner T.k__law_inner takes0 (pa_cons (pv 0) pa_nil))) (blkOk_by (own := [("_law_one", 4)]) (N := ["_law_told", "_law_t", "_law_there", "_law_some", "_law_one", "_law_notes_here"]) (sc := defScope s__law_notes) (by decide +kernel)) (fun _ _ _ _ _ => (pg_name (i := 4) sc__law_notes.nd rfl (Or.inl rfl))) (fun _ _ _ _ _ => pts_nil) (fun _ _ _ _ _ => (c_call r__law_notes (hr.mono (by omega)) T.g__law_notes T.k__law_notes takes0 (pa_cons (pv 4) (pa_cons (pv 1) pa_nil)))))
      (pss_cons (ps_if (pt_cmpR op_eq (pe_ix ix_tup (pv 0) pe_int (fun _ _ => rfl)) pe_str (nomark _))
      (pss_one (ps_ret (pe_ifExp (pt_cmpR op_isN (pe_ix ix_list (pv 3) pe_int (fun _ _ => rfl)) pe_non (nomark _)) (pe_ix ix_list (pv 3) pe_int (fun _ _ => rfl)) pe_non)))
      pss_nil)
      (pss_cons (ps_setLc (i := 3) (own := [("_law_notes_here", 5)]) (by rfl) sc__law_notes.nd rfl rfl (sw_true rfl rfl rfl (by decide +kernel)) (pi_list (pv 3)) (blkOk_by (own := [("_law_notes_here", 5)]) (N := ["_law_told", "_law_t", "_law_there", "_law_some", "_law_one", "_law_notes_here"]) (sc := defScope s__law_notes) (by decide +kernel)) (fun _ _ _ _ _ => (pg_name (i := 5) sc__law_notes.nd rfl (Or.inl rfl))) (fun _ _ _ _ _ => (pts_one (pt_cmpR op_notN (pv 5) pe_non (nomark _)))) (fun _ _ _ _ _ => (pv 5)))
      (pss_cons (ps_if (pt_cmpR (op_eqD hr.rm.units) (pv 3) (pe_lst pa_nil) (nomark _))
      (pss_one (ps_ret pe_non))
      pss_nil)
      (pss_cons (ps_if (pt_cmpR op_eq (pe_ix ix_tup (pv 0) pe_int (fun _ _ => rfl)) pe_str (nomark _))
      (pss_one (ps_expr (pe_bm PySem.F.plainAttrs_list PySem.F.slot_list_append PySem.F.type_list_append mt_append (pv 3) (pa_cons (pe_tup (pa_cons (pe_ix ix_tup (pv 0) pe_int (fun _ _ => rfl)) pa_nil)) pa_nil))))
      pss_nil)
      (pss_one (ps_ret (c_call (ok__law_together T) (hr.mono (by omega)) T.g__law_together T.k__law_together takes0 (pa_cons (pv 3) pa_nil))))))))))))), ?_⟩
    have cn := c.canon n hk
    cases c with
    | as_ z =>
      rw [TelD.card, CardD.fst] at hfn
      cases hfn
    | once rs ws =>
      unfold TelN at ht
      unfold TelD.ok at hk
      obtain ⟨r, w, h1, h2, h3, _⟩ := ht
      obtain ⟨hR, lr, hws⟩ := hk
      rw [once_nts hR] at q
      refine ⟨_, rfl, _, _, _, _, rfl, rfl, (sq_tup h1), rfl, rfl, _, rfl, _, rfl, _, rfl, _, _, _, _, rfl, rfl, (sq_tup h1), rfl, _, _, rfl, h2, ?_⟩
      refine ⟨hR.1, lr, fun a G XG na hG => ?_⟩
      refine ⟨a, _, rfl, .inl (sq_lst hG), rfl, flat_nat _, _, rfl, ?_⟩
      rw [inV_nat]
      by_cases c : n ∈ momsR rs
      · rw [decide_eq_true c]
        rw [if_pos c] at q
        refine iteT ?_
        refine ⟨_, rfl, _, _, _, _, rfl, rfl, sq_tup (XG _ _ h1), rfl, w, ws, rfl, .inl (sq_lst (XG _ _ h3)), fun s ns => ?_⟩
        refine ⟨s, _, rfl, .inl ⟨sq_lst upd_same, fun u nu => ?_⟩⟩
        exact q _ _ ((XG.trans (ex_new ns)).trans (ex_new nu)) ⟨u, rfl, upd_same⟩
      · rw [decide_eq_false c]
        rw [if_neg c] at q
        exact iteF (q _ _ XG rfl)
    | every D rs ws =>
      unfold TelN at ht
      unfold TelD.ok at hk
      obtain ⟨x, g, l, r, w, h1, h0, h2, h3, _⟩ := ht
      obtain ⟨hD, hR, lr, hU, hws⟩ := hk
      rw [every_nts hR] at q
      refine ⟨_, rfl, _, _, _, _, rfl, rfl, (sq_tup h1), rfl, rfl, _, rfl, _, rfl, _, _, _, _, rfl, rfl, (sq_tup h1), rfl, rfl, _, rfl, _, rfl, _, _, rfl, rfl, (by omega), _, rfl, _, _, _, _, rfl, rfl, (sq_tup h1), rfl, _, _, rfl, h2, ?_⟩
      have em : (fun i j : Int => V.int (i % j)) ((n : Nat) : Int) 1440 = V.int ((n % 1440 : Nat) : Int) := rfl
      rw [em]
      refine ⟨hR.1, lr, fun a G XG na hG => ?_⟩
      refine ⟨a, _, rfl, .inl (sq_lst hG), rfl, flat_nat _, _, rfl, ?_⟩
      rw [inV_nat]
      by_cases c : n % 1440 ∈ momsR rs
      · rw [decide_eq_true c]
        refine iteT ?_
        refine ⟨_, rfl, _, _, _, _, rfl, rfl, (sq_tup (XG _ _ h1)), rfl, _, rfl, _, _, rfl, rfl, ⟨(by decide), (by decide)⟩, _, _, _, _, _, rfl, (h0.mono XG), hD, _, rfl, _, rfl, ?_⟩
        rw [if_pos c] at q
        cases hh : dHas D (n / 1440) with
        | true =>
          rw [hh, if_pos rfl] at q
          refine iteT ?_
          refine ⟨_, rfl, _, _, _, _, rfl, rfl, sq_tup (XG _ _ h1), rfl, w, ws, rfl, .inl (sq_lst (XG _ _ h3)), fun s ns => ?_⟩
          refine ⟨s, _, rfl, .inl ⟨sq_lst upd_same, fun u nu => ?_⟩⟩
          exact q _ _ ((XG.trans (ex_new ns)).trans (ex_new nu)) ⟨u, rfl, upd_same⟩
        | false =>
          rw [hh, if_neg (by decide)] at q
          exact iteF (q _ _ XG rfl)
      · rw [decide_eq_false c]
        rw [if_neg c] at q
        refine iteF ?_
        refine ⟨_, rfl, _, rfl, ?_⟩
        exact iteF (q _ _ XG rfl)
    | swap c D e =>
      unfold TelN at ht
      unfold TelD.ok at hk
      rw [TelD.card] at hw hw6
      unfold CardD.wt at hw hw6
      obtain ⟨a, x, g, l, e1, h1, h0, n1, n2, h2, h3⟩ := ht
      obtain ⟨k1, hD, hU, k2⟩ := hk
      refine ⟨_, rfl, _, _, _, _, rfl, rfl, (sq_tup h1), rfl, rfl, _, rfl, _, rfl, _, _, _, _, rfl, rfl, (sq_tup h1), rfl, rfl, _, rfl, _, rfl, _, _, _, _, rfl, rfl, (sq_tup h1), rfl, rfl, _, rfl, _, rfl, _, _, _, _, rfl, rfl, (sq_tup h1), rfl, _, rfl, _, _, rfl, rfl, ⟨(by decide), (by decide)⟩, _, _, _, _, _, rfl, h0, hD, _, rfl, ?_⟩
      have en : (TelD.swap c D e).card.nts n = if dHas D (n / 1440) then e.card.nts n else c.card.nts n := by
        rw [TelD.card, CardD.nts]
      rw [en] at q
      cases hh : dHas D (n / 1440) with
      | true =>
        rw [hh, if_pos rfl] at q
        exact iteT ⟨_, rfl, _, _, _, _, rfl, rfl, sq_tup h1, rfl, _, rfl, N, e1, e, b, n, rfl, h3, k2, by omega, by omega, TelD.inn_fst (c := .swap c D e) (e := e) hfn (.tail _ (.head _)), q⟩
      | false =>
        rw [hh, if_neg (by decide)] at q
        exact iteF ⟨_, rfl, _, _, _, _, rfl, rfl, sq_tup h1, rfl, _, rfl, N, a, c, b, n, rfl, h2, k1, by omega, by omega, TelD.inn_fst (c := .swap c D e) (e := c) hfn (.head _), q⟩
    | later c m =>
      unfold TelN at ht
      unfold TelD.ok at hk
      rw [TelD.card] at hw hw6
      unfold CardD.wt at hw hw6
      obtain ⟨a, h1, h2⟩ := ht
      refine ⟨_, rfl, _, _, _, _, rfl, rfl, (sq_tup h1), rfl, rfl, _, rfl, _, rfl, _, _, _, _, rfl, rfl, (sq_tup h1), rfl, rfl, _, rfl, _, rfl, _, _, _, _, rfl, rfl, (sq_tup h1), rfl, rfl, _, rfl, _, rfl, _, _, _, _, rfl, rfl, (sq_tup h1), rfl, rfl, _, rfl, _, rfl, _, rfl, _, _, _, _, rfl, rfl, (sq_tup h1), rfl, _, _, rfl, rfl, _, rfl, ?_⟩
      have en : (TelD.later c m).card.nts n = if m ≤ n then c.card.nts (n - m) else none := by
        rw [TelD.card, CardD.nts]
      rw [en] at q
      by_cases c0 : m ≤ n
      · rw [if_pos c0] at q
        rw [decide_eq_true (show ((m : Nat) : Int) ≤ ((n : Nat) : Int) by omega)]
        refine iteT ⟨_, rfl, _, _, _, _, rfl, rfl, sq_tup h1, rfl, _, rfl, _, rfl, _, _, _, _, rfl, rfl, sq_tup h1, rfl, _, _, rfl, rfl, ?_⟩
        have ev : (fun i j : Int => V.int (i - j)) ((n : Nat) : Int) ((m : Nat) : Int) = V.int ((n - m : Nat) : Int) := congrArg V.int (by omega)
        exact ⟨N, a, c, b, n - m, congrArg (fun z => [V.ref a, z]) ev, h2, hk.1, by omega, by omega, TelD.inn_fst (c := .later c m) (e := c) hfn (.head _), q⟩
      · rw [if_neg c0] at q
        rw [decide_eq_false (show ¬ ((m : Nat) : Int) ≤ ((n : Nat) : Int) by omega)]
        exact iteF (q _ _ (.refl _) rfl)
    | join cs =>
      have hT := ht
      unfold TelN at ht
      obtain ⟨l, as, h1, h2, _, h3⟩ := ht
      refine ⟨_, rfl, _, _, _, _, rfl, rfl, (sq_tup h1), rfl, rfl, _, rfl, _, rfl, _, _, _, _, rfl, rfl, (sq_tup h1), rfl, rfl, _, rfl, _, rfl, _, _, _, _, rfl, rfl, (sq_tup h1), rfl, rfl, _, rfl, _, rfl, _, _, _, _, rfl, rfl, (sq_tup h1), rfl, rfl, _, rfl, _, rfl, _, _, _, rfl, hT, ?_⟩
      intro l1 as1 G X1 n1 hl1 hN1
      have hin := fun e' m => TelD.inn_ok (e := e') hk m
      have hiw := fun e' m => TelD.inn_wt (c := TelD.join cs) (e := e') m
      have hfi := fun e' mm => TelD.inn_fst (c := TelD.join cs) (e := e') hfn mm
      have linn : (TelD.join cs).inn.length ≤ 60 := by
        unfold TelD.ok at hk
        have := wtL_len (cardL cs)
        rw [cardL_len] at this
        show cs.length ≤ 60
        omega
      generalize he : (TelD.join cs).inn = cs0 at hN1 hin hiw hfi linn
      refine ⟨_, rfl, ⟨_, sq_lst hl1⟩, fun A nA => lc_nts (n := n) nA L2.walk_list (fun H4 e => sq_lst (e _ _ hl1)) hN1.len (by omega) (fun i a1 c1 H4 acc Nx ha hc X4 hD la k => ?_) fun xs G2 X2 hxs hA2 => ?_⟩
      · obtain ⟨c2, hc2, hT2⟩ := hN1.get ha
        rw [hc] at hc2
        cases hc2
        have m2 := List.mem_of_getElem? hc
        have w2 := hiw c1 m2
        refine ⟨rfl, _, rfl, _, rfl, N, a1, c1, b, n, rfl, hT2.mono X4, hin c1 m2, by omega, by omega, hfi c1 m2, fun x H5 X5 hx => ⟨acc, X5 _ _ hD, la, k x H5 X5 hx⟩⟩
      · have X02 := X1.trans X2
        refine ⟨_, rfl, _, _, _, _, rfl, rfl, (sq_tup (X02 _ _ h1)), rfl, rfl, _, rfl, _, rfl, _, rfl, ⟨_, (sq_lst hA2)⟩, ?_⟩
        have hA3 : G2 A = some (.lst (xs.map fun x => x)) := by rw [List.map_id']; exact hA2
        have lx := paired_len hxs
        refine fun B nB => lc_on xs (fun x => x) L2.walk_list notNon (fun H' => Ex G2 H') (fun H' z e => ex_mut e nB) (.refl _) (by omega) (fun H' e => sq_lst (e _ _ hA3)) (fun j x H4 acc Nx hx X4 hD la k => ?_) fun G3 X3 hB3 => ?_
        · refine ⟨rfl, _, rfl, rfl, _, rfl, ?_⟩
          by_cases c : x = .non
          · rw [show notNon x = none from if_pos c] at k
            rw [decide_eq_true c]
            exact iteF (k H4 X4 hD)
          · rw [show notNon x = some x from if_neg c] at k
            rw [decide_eq_false c]
            exact iteT ⟨_, rfl, acc, hD, la, k H4 X4 hD⟩
        obtain ⟨bs, eb, hT⟩ := nts_filter hxs
        rw [eb] at hB3
        have hT := hT.mono X3
        have X03 := X02.trans X3
        have kN : ∀ ws ∈ cs0.filterMap (fun c => c.card.nts n), Nms ws ∧ ws.Nodup ∧ ws.length ≤ 1000 := by
          intro ws hws
          obtain ⟨d, hd, e⟩ := List.mem_filterMap.mp hws
          obtain ⟨k1, k2, k3⟩ := d.card.nts_ok n ws (d.card_ok (hin d hd)) e
          have := hiw d hd
          exact ⟨k1, k2, by omega⟩
        have lN : (cs0.filterMap fun c => c.card.nts n).length ≤ 60 := Nat.le_trans (List.length_filterMap_le _ _) linn
        refine ⟨_, rfl, (by decide), ?_⟩
        intro a1 na1
        have Xa1 := ex_new (o := HO.lst []) na1
        have ha1 : upd G3 a1 (HO.lst []) a1 = some (HO.lst []) := upd_same
        generalize upd G3 a1 (HO.lst []) = Ga1 at Xa1 ha1 ⊢
        have hT1 := hT.mono Xa1
        have X13 := X03.trans Xa1
        refine ⟨_, _, .lst (sq_lst (Xa1 _ _ hB3)) (dp_tups hT1), .lst (sq_lst ha1) .nil, shaped_tups fun ws h => (kN ws h).1, rfl, ?_⟩
        have en : (TelD.join cs).card.nts n = ntsL (cardL cs) none n := by rw [TelD.card, CardD.nts]
        rw [en] at cn
        rw [en, together_join cn] at q
        have he : cs = cs0 := he
        rw [he] at q
        generalize (cs0.filterMap fun c => c.card.nts n) = wss at q hT1 kN lN ⊢
        cases wss with
        | nil => exact ⟨_, rfl, iteT (q .non _ X13 rfl)⟩
        | cons w0 wr =>
          rw [if_neg (by nofun)] at q
          refine ⟨_, rfl, iteF ?_⟩
          refine ⟨_, rfl, _, _, _, _, rfl, rfl, (sq_tup (X13 _ _ h1)), rfl, rfl, _, rfl, _, rfl, _, _, _, rfl, (Xa1 _ _ hB3), hT1, kN, lN, ?_⟩
          exact fun a5 G5 X5 ha5 => q (.ref a5) G5 (X13.trans X5) ⟨a5, rfl, ha5⟩
    | less c e =>
      have hT := ht
      unfold TelN at ht
      obtain ⟨a, e1, h1, h2, h3⟩ := ht
      refine ⟨_, rfl, _, _, _, _, rfl, rfl, (sq_tup h1), rfl, rfl, _, rfl, _, rfl, _, _, _, _, rfl, rfl, (sq_tup h1), rfl, rfl, _, rfl, _, rfl, _, _, _, _, rfl, rfl, (sq_tup h1), rfl, rfl, _, rfl, _, rfl, _, _, _, _, rfl, rfl, (sq_tup h1), rfl, rfl, _, rfl, _, rfl, _, _, _, rfl, hT, ?_⟩
      intro l1 as1 G X1 n1 hl1 hN1
      have hin := fun e' m => TelD.inn_ok (e := e') hk m
      have hiw := fun e' m => TelD.inn_wt (c := TelD.less c e) (e := e') m
      have hfi := fun e' mm => TelD.inn_fst (c := TelD.less c e) (e := e') hfn mm
      have linn : (TelD.less c e).inn.length ≤ 60 := by show 2 ≤ 60; decide
      generalize he : (TelD.less c e).inn = cs0 at hN1 hin hiw hfi linn
      refine ⟨_, rfl, ⟨_, sq_lst hl1⟩, fun A nA => lc_nts (n := n) nA L2.walk_list (fun H4 e => sq_lst (e _ _ hl1)) hN1.len (by omega) (fun i a1 c1 H4 acc Nx ha hc X4 hD la k => ?_) fun xs G2 X2 hxs hA2 => ?_⟩
      · obtain ⟨c2, hc2, hT2⟩ := hN1.get ha
        rw [hc] at hc2
        cases hc2
        have m2 := List.mem_of_getElem? hc
        have w2 := hiw c1 m2
        refine ⟨rfl, _, rfl, _, rfl, N, a1, c1, b, n, rfl, hT2.mono X4, hin c1 m2, by omega, by omega, hfi c1 m2, fun x H5 X5 hx => ⟨acc, X5 _ _ hD, la, k x H5 X5 hx⟩⟩
      · have X02 := X1.trans X2
        refine ⟨_, rfl, _, _, _, _, rfl, rfl, (sq_tup (X02 _ _ h1)), rfl, rfl, _, rfl, _, rfl, ?_⟩
        cases he
        obtain ⟨x0, x1, rfl, hx0, hx1⟩ : ∃ x0 x1, xs = [x0, x1] ∧ NtAt G2 x0 (c.card.nts n) ∧ NtAt G2 x1 (e.card.nts n) := by
          unfold NtsAt at hxs
          cases hxs with
          | cons h0 hr =>
            cases hr with
            | cons h1 hr =>
              cases hr
              exact ⟨_, _, rfl, h0, h1⟩
        have en : (TelD.less c e).card.nts n = if (e.card.nts n).isNone then c.card.nts n else none := by
          rw [TelD.card, CardD.nts]
          all_goals (cases e.card.nts n <;> rfl)
        rw [en] at q
        refine ⟨_, _, _, _, rfl, rfl, (sq_lst hA2), rfl, rfl, _, rfl, ?_⟩
        cases hc : e.card.nts n with
        | none =>
          rw [hc] at hx1 q
          obtain rfl : x1 = .non := hx1
          refine iteT ?_
          refine ⟨_, rfl, A, _, 0, _, rfl, rfl, sq_lst hA2, rfl, ?_⟩
          exact q _ _ X02 hx0
        | some w =>
          rw [hc] at hx1 q
          obtain ⟨p, rfl, hp⟩ := hx1
          exact iteF (q .non _ X02 rfl)
    | noted c z =>
      have hT := ht
      unfold TelN at ht
      obtain ⟨a, h1, h2⟩ := ht
      refine ⟨_, rfl, _, _, _, _, rfl, rfl, (sq_tup h1), rfl, rfl, _, rfl, _, rfl, _, _, _, _, rfl, rfl, (sq_tup h1), rfl, rfl, _, rfl, _, rfl, _, _, _, _, rfl, rfl, (sq_tup h1), rfl, rfl, _, rfl, _, rfl, _, _, _, _, rfl, rfl, (sq_tup h1), rfl, rfl, _, rfl, _, rfl, _, _, _, rfl, hT, ?_⟩
      intro l1 as1 G X1 n1 hl1 hN1
      have hin := fun e' m => TelD.inn_ok (e := e') hk m
      have hiw := fun e' m => TelD.inn_wt (c := TelD.noted c z) (e := e') m
      have hfi := fun e' mm => TelD.inn_fst (c := TelD.noted c z) (e := e') hfn mm
      have linn : (TelD.noted c z).inn.length ≤ 60 := by show 1 ≤ 60; decide
      generalize he : (TelD.noted c z).inn = cs0 at hN1 hin hiw hfi linn
      refine ⟨_, rfl, ⟨_, sq_lst hl1⟩, fun A nA => lc_nts (n := n) nA L2.walk_list (fun H4 e => sq_lst (e _ _ hl1)) hN1.len (by omega) (fun i a1 c1 H4 acc Nx ha hc X4 hD la k => ?_) fun xs G2 X2 hxs hA2 => ?_⟩
      · obtain ⟨c2, hc2, hT2⟩ := hN1.get ha
        rw [hc] at hc2
        cases hc2
        have m2 := List.mem_of_getElem? hc
        have w2 := hiw c1 m2
        refine ⟨rfl, _, rfl, _, rfl, N, a1, c1, b, n, rfl, hT2.mono X4, hin c1 m2, by omega, by omega, hfi c1 m2, fun x H5 X5 hx => ⟨acc, X5 _ _ hD, la, k x H5 X5 hx⟩⟩
      · have X02 := X1.trans X2
        refine ⟨_, rfl, _, _, _, _, rfl, rfl, (sq_tup (X02 _ _ h1)), rfl, rfl, _, rfl, _, rfl, _, rfl, ⟨_, (sq_lst hA2)⟩, ?_⟩
        have hA3 : G2 A = some (.lst (xs.map fun x => x)) := by rw [List.map_id']; exact hA2
        have lx := paired_len hxs
        refine fun B nB => lc_on xs (fun x => x) L2.walk_list notNon (fun H' => Ex G2 H') (fun H' z e => ex_mut e nB) (.refl _) (by omega) (fun H' e => sq_lst (e _ _ hA3)) (fun j x H4 acc Nx hx X4 hD la k => ?_) fun G3 X3 hB3 => ?_
        · refine ⟨rfl, _, rfl, rfl, _, rfl, ?_⟩
          by_cases c : x = .non
          · rw [show notNon x = none from if_pos c] at k
            rw [decide_eq_true c]
            exact iteF (k H4 X4 hD)
          · rw [show notNon x = some x from if_neg c] at k
            rw [decide_eq_false c]
            exact iteT ⟨_, rfl, acc, hD, la, k H4 X4 hD⟩
        obtain ⟨bs, eb, hT⟩ := nts_filter hxs
        rw [eb] at hB3
        have hT := hT.mono X3
        have X03 := X02.trans X3
        have kN : ∀ ws ∈ cs0.filterMap (fun c => c.card.nts n), Nms ws ∧ ws.Nodup ∧ ws.length ≤ 1000 := by
          intro ws hws
          obtain ⟨d, hd, e⟩ := List.mem_filterMap.mp hws
          obtain ⟨k1, k2, k3⟩ := d.card.nts_ok n ws (d.card_ok (hin d hd)) e
          have := hiw d hd
          exact ⟨k1, k2, by omega⟩
        have lN : (cs0.filterMap fun c => c.card.nts n).length ≤ 60 := Nat.le_trans (List.length_filterMap_le _ _) linn
        refine ⟨_, rfl, (by decide), ?_⟩
        intro a1 na1
        have Xa1 := ex_new (o := HO.lst []) na1
        have ha1 : upd G3 a1 (HO.lst []) a1 = some (HO.lst []) := upd_same
        generalize upd G3 a1 (HO.lst []) = Ga1 at Xa1 ha1 ⊢
        have hT1 := hT.mono Xa1
        have X13 := X03.trans Xa1
        refine ⟨_, _, .lst (sq_lst (Xa1 _ _ hB3)) (dp_tups hT1), .lst (sq_lst ha1) .nil, shaped_tups fun ws h => (kN ws h).1, rfl, ?_⟩
        have en : (TelD.noted c z).card.nts n = (match c.card.nts n with | none => none | some w => some (togN (some w) [z])) := by
          rw [TelD.card, CardD.nts]
          all_goals (cases c.card.nts n <;> rfl)
        rw [en] at q
        have he : [c] = cs0 := he
        subst he
        unfold TelD.ok at hk
        have ew : ([c].filterMap fun c => c.card.nts n) = (match c.card.nts n with | none => [] | some w => [w]) := by
          rw [List.filterMap_cons]
          cases c.card.nts n <;> rfl
        rw [ew] at hT1 kN lN ⊢
        cases hc : c.card.nts n with
        | none =>
          rw [hc] at q
          exact ⟨_, rfl, iteT (q .non _ X13 rfl)⟩
        | some w =>
          rw [hc] at q hT1 kN
          dsimp only at q hT1 kN
          refine ⟨_, rfl, iteF ?_⟩
          have hB4 := Xa1 _ _ hB3
          refine ⟨_, rfl, _, _, _, _, rfl, rfl, (sq_tup (X13 _ _ h1)), rfl, rfl, _, rfl, _, rfl, (.inl ⟨rfl, ⟨_, (sq_lst hB4)⟩⟩), _, rfl, _, _, _, _, rfl, rfl, (sq_tup (X13 _ _ h1)), rfl, (by show 1 ≤ sizeLine; decide), ?_⟩
          intro a2 na2
          have Xa2 := ex_new (o := HO.tup [V.str z]) na2
          have ha2 : upd Ga1 a2 (HO.tup [V.str z]) a2 = some (HO.tup [V.str z]) := upd_same
          generalize upd Ga1 a2 (HO.tup [V.str z]) = Ga2 at Xa2 ha2 ⊢
          refine ⟨_, _, _, rfl, rfl, (Xa2 _ _ hB4), ?_⟩
          have lb : bs.length = 1 := paired_len hT1
          refine ⟨by rw [List.length_map, lb]; exact small_len (by decide), ?_⟩
          have nB1 : H B = none := ex_fresh X02 nB
          have X14 := ex_mut (o := HO.lst (List.map V.ref bs ++ [V.ref a2])) (X13.trans Xa2) nB1
          have hB5 : upd Ga2 B (HO.lst (List.map V.ref bs ++ [V.ref a2])) B = some (HO.lst (List.map V.ref bs ++ [V.ref a2])) := upd_same
          have ha5 : upd Ga2 B (HO.lst (List.map V.ref bs ++ [V.ref a2])) a2 = some (HO.tup [V.str z]) := by
            rw [upd_ne (fun e => by rw [e] at ha2; rw [Xa2 _ _ hB4] at ha2; cases ha2)]
            exact ha2
          have hT5 : TupsAt (upd Ga2 B (HO.lst (List.map V.ref bs ++ [V.ref a2]))) (bs ++ [a2]) ([w] ++ [[z]]) := by
            refine paired_snoc (paired_imp (fun b ws h => ?_) hT1) ha5
            rw [upd_ne (fun e => by rw [e, hB4] at h; cases h)]
            exact Xa2 _ _ h
          have hB6 : upd Ga2 B (HO.lst (List.map V.ref bs ++ [V.ref a2])) B = some (HO.lst ((bs ++ [a2]).map V.ref)) := by
            rw [upd_same, List.map_append]
            rfl
          have kz : Nms [z] := fun y hy => by rw [List.mem_singleton.mp hy]; exact hk.2.1
          refine ⟨_, rfl, B, bs ++ [a2], [w] ++ [[z]], rfl, hB6, hT5, fun ws hws => ?_, by show 2 ≤ 60; decide, fun a6 G6 X6 h6 => q (.ref a6) G6 (X14.trans X6) ⟨a6, rfl, ?_⟩⟩
          · rcases List.mem_append.mp hws with h | h
            · exact kN ws h
            · rw [List.mem_singleton.mp h]
              exact ⟨kz, List.pairwise_singleton _ _, by show 1 ≤ 1000; decide⟩
          · rw [h6]
            rfl
theorem ok__law_notes {P : Program} {w : World} {K : PySem.W.Frag} {mg : Str → Option Value} {base : Heap} (T : Env K mg) {d L : Nat} (hL : 40 ≤ L) (r__law_notes : Fc P w K mg base L (He.ga K "_law_notes") [] (sp__law_notes K d)) : Fc P w K mg base (L + 1) (He.ga K "_law_notes") [] (sp__law_notes K (d + 1)) := by
  obtain ⟨fd, D, F⟩ := fb__law_notes T hL r__law_notes
  exact F.all (D.bindsN fun _ _ _ _ _ _ us hl => match us, hl with | [_, _], _ => rfl)
theorem all_notes_told {P : Program} {w : World} {K : PySem.W.Frag} {mg : Str → Option Value} {base : Heap} (T : Env K mg) : ∀ d, Fc P w K mg base (40 + d) (He.ga K "_law_notes") [] (sp__law_notes K d)
  | 0 => fc_no fun vs H Q E h => by
    obtain ⟨N, t, c, b, n, _, _, _, h, _⟩ := h
    have := c.card.wt_pos
    omega
  | d + 1 => ok__law_notes T (Nat.le_add_right 40 _) (all_notes_told T d)
end
section
theorem keep_put {H G : Hp} {h : Addr} {ys zs : List V} (e : H h = some (.lst ys)) (X : Ex H G) : ∀ b o, (∀ xs, o ≠ .lst xs) → G b = some o → upd G h (.lst zs) b = some o := fun b o ho hb => by
  rw [upd_ne fun z => by rw [z, X _ _ e] at hb; cases hb; exact ho _ rfl]
  exact hb
end
section
/-- G keeps what H' has, but for lists that stood in H -/
def Kpl (H H' G : Hp) : Prop := (∀ b o, (∀ ys, o ≠ .lst ys) → H' b = some o → G b = some o) ∧ ∀ b o, H b = none → H' b = some o → G b = some o
theorem Kpl.refl (H H' : Hp) : Kpl H H' H' := ⟨fun _ _ _ e => e, fun _ _ _ e => e⟩
theorem Kpl.weak {H H1 H1' H' G : Hp} (k : Kpl H H' G) (X : Ex H H1) (Y : Ex H1' H') : Kpl H1 H1' G := ⟨fun b o n e => k.1 b o n (Y _ _ e), fun b o n e => k.2 b o (ex_fresh X n) (Y _ _ e)⟩
theorem Kpl.put {H H' : Hp} {D : Addr} {xs ys : List V} (X : Ex H H') (e : H D = some (.lst xs)) : Kpl H H' (upd H' D (.lst ys)) := ⟨keep_put e X, fun b o n z => by
  rw [upd_ne fun w => by rw [w, e] at n; cases n]
  exact z⟩
def PutC (K : PySem.W.Frag) (H H' : Hp) (c : CardD) (a : Addr) : Prop := ∀ G, Kpl H H' G → CardAt K G c a
def PutCs (K : PySem.W.Frag) (H H' : Hp) (cs : List CardD) (as : List Addr) : Prop := ∀ G, Kpl H H' G → CardsAt K G cs as
theorem PutC.at {K : PySem.W.Frag} {H H' : Hp} {c : CardD} {a : Addr} (h : PutC K H H' c a) : CardAt K H' c a := h H' (.refl _ _)
theorem PutCs.at {K : PySem.W.Frag} {H H' : Hp} {c : List CardD} {a : List Addr} (h : PutCs K H H' c a) : CardsAt K H' c a := h H' (.refl _ _)
theorem PutC.mono {K : PySem.W.Frag} {H H1 H1' H' : Hp} {c : CardD} {a : Addr} (h : PutC K H1 H1' c a) (X : Ex H H1) (Y : Ex H1' H') : PutC K H H' c a := fun G k => h G (k.weak X Y)
theorem PutCs.mono {K : PySem.W.Frag} {H H1 H1' H' : Hp} {c : List CardD} {a : List Addr} (h : PutCs K H1 H1' c a) (X : Ex H H1) (Y : Ex H1' H') : PutCs K H H' c a := fun G k => h G (k.weak X Y)
theorem PutCs.get1 {K : PySem.W.Frag} {H H' : Hp} {c : CardD} {a : List Addr} (h : PutCs K H H' [c] a) : ∃ b, a = [b] ∧ PutC K H H' c b := by
  have h0 := h.at
  unfold CardsAt at h0
  obtain ⟨b, r, rfl, h1, h2⟩ := h0
  unfold CardsAt at h2
  subst h2
  refine ⟨b, rfl, fun G k => ?_⟩
  have h := h G k
  unfold CardsAt at h
  obtain ⟨b', r', e, h1', _⟩ := h
  cases e
  exact h1'
theorem PutCs.get2 {K : PySem.W.Frag} {H H' : Hp} {c d : CardD} {a : List Addr} (h : PutCs K H H' [c, d] a) : ∃ b e, a = [b, e] ∧ PutC K H H' c b ∧ PutC K H H' d e := by
  have h0 := h.at
  unfold CardsAt at h0
  obtain ⟨b, r, rfl, h1, h2⟩ := h0
  unfold CardsAt at h2
  obtain ⟨e, r, rfl, h3, h4⟩ := h2
  unfold CardsAt at h4
  subst h4
  refine ⟨b, e, rfl, fun G k => ?_, fun G k => ?_⟩
  · have h := h G k
    unfold CardsAt at h
    obtain ⟨b', r', e', h1', _⟩ := h
    cases e'
    exact h1'
  · have h := h G k
    unfold CardsAt at h
    obtain ⟨b', r', e', h1', h2'⟩ := h
    cases e'
    unfold CardsAt at h2'
    obtain ⟨b', r', e', h1', _⟩ := h2'
    cases e'
    exact h1'
theorem DaysAt.kpl {K : PySem.W.Frag} {H H' G : Hp} {r : Addr} {D : DaysD} (k : Kpl H H' G) (a : DaysAt K H' r D) : DaysAt K G r D := by
  obtain ⟨dr, r1, po, pa, m1, ⟨dq, m2⟩, m3, m4⟩ := a
  exact ⟨dr, r1, po, pa, k.1 _ _ nofun m1, ⟨dq, k.1 _ _ nofun m2⟩, k.1 _ _ nofun m3, k.1 _ _ nofun m4⟩
mutual
theorem ShAt.kpl {K : PySem.W.Frag} {H H' G : Hp} (k : Kpl H H' G) : ∀ {t : Tr} {a : Addr}, ShAt K H' t a → ShAt K G t a
  | .at n, a, h => by
    unfold ShAt at h ⊢
    obtain ⟨dx, h⟩ := h
    exact ⟨dx, k.1 _ _ nofun h⟩
  | .ov ps m s, a, h => by
    unfold ShAt at h ⊢
    obtain ⟨dx, kp, as, h1, h2, h3⟩ := h
    exact ⟨dx, kp, as, k.1 _ _ nofun h1, k.1 _ _ nofun h2, ShsAt.kpl k h3⟩
theorem ShsAt.kpl {K : PySem.W.Frag} {H H' G : Hp} (k : Kpl H H' G) : ∀ {ts : List Tr} {as : List Addr}, ShsAt K H' ts as → ShsAt K G ts as
  | [], as, h => by
    unfold ShsAt at h ⊢
    exact h
  | t :: ts, as, h => by
    unfold ShsAt at h ⊢
    obtain ⟨a, r, h1, h2, h3⟩ := h
    exact ⟨a, r, h1, ShAt.kpl k h2, ShsAt.kpl k h3⟩
end
theorem SprAt.kpl {K : PySem.W.Frag} {M : Addr → Prop} {H H' G : Hp} {s : Addr} {ts : List Tr} (k : Kpl H H' G) (h : SprAt K H' s ts) (hH : HeldN K M H' s) (hM : ∀ b, M b → H b = none) : SprAt K G s ts := by
  obtain ⟨dx, kp, hd, as, h1, h2, h3, h4⟩ := h
  exact ⟨dx, kp, hd, as, k.1 _ _ nofun h1, k.1 _ _ nofun h2, k.2 _ _ (hM _ (hH _ _ _ h1)) h3, h4.kpl k⟩
theorem putC_once {K : PySem.W.Frag} {H H' : Hp} {x s : Addr} {ts : List Tr} {ws : List Str} {N M : Addr → Prop} (hs : SprAt K H' s ts) (hH : HeldN K M H' s) (hA : CardAt K H' (.once ts ws) x) (hC : CdN N (.ref s) H' x) (hN : ∀ b, N b → H b = none) (hM : ∀ b, M b → H b = none) : PutC K H H' (.once ts ws) x := fun G k => by
  unfold CardAt at hA ⊢
  obtain ⟨dx, hd, s', nt, ow, h1, h2, h3, h4, h5⟩ := hA
  obtain ⟨n1, l1⟩ := hC _ _ _ _ _ h1
  have es : s' = s := by
    have z : some (V.ref s') = some (V.ref s) := l1
    injection z with z
    injection z with z
  subst es
  exact ⟨dx, hd, s', nt, ow, k.1 _ _ nofun h1, k.2 _ _ (hN _ n1) h2, hs.kpl k hH hM, k.1 _ _ nofun h4, k.1 _ _ nofun h5⟩
theorem putC_every {K : PySem.W.Frag} {H H' : Hp} {x s : Addr} {D : DaysD} {ts : List Tr} {ws : List Str} {N M : Addr → Prop} (hs : SprAt K H' s ts) (hH : HeldN K M H' s) (hA : CardAt K H' (.every D ts ws) x) (hC : CdN N (.ref s) H' x) (hN : ∀ b, N b → H b = none) (hM : ∀ b, M b → H b = none) : PutC K H H' (.every D ts ws) x := fun G k => by
  unfold CardAt at hA ⊢
  obtain ⟨dx, hd, r, s', nt, ow, h1, h2, h0, h3, h4, h5⟩ := hA
  obtain ⟨n1, l1⟩ := hC _ _ _ _ _ h1
  have es : s' = s := by
    have z : some (V.ref s') = some (V.ref s) := l1
    injection z with z
    injection z with z
  subst es
  exact ⟨dx, hd, r, s', nt, ow, k.1 _ _ nofun h1, k.2 _ _ (hN _ n1) h2, h0.kpl k, hs.kpl k hH hM, k.1 _ _ nofun h4, k.1 _ _ nofun h5⟩
theorem put_join {K : PySem.W.Frag} {H H' : Hp} {x dx hd : Addr} {as : List Addr} {cs : List CardD} (nh : H hd = none) (e : H' x = some (.ins (He.ga K "Join") dx (cdF hd (1 + wtL cs) []))) (eh : H' hd = some (.lst (as.map V.ref))) (hp : PutCs K H H' cs as) : PutC K H H' (.join cs) x := fun G k => by
  unfold CardAt
  exact ⟨dx, hd, as, k.1 _ _ nofun e, k.2 _ _ nh eh, hp G k⟩
theorem put_less {K : PySem.W.Frag} {H H' : Hp} {x b e dx hd : Addr} {c d : CardD} (nh : H hd = none) (h1 : H' x = some (.ins (He.ga K "Less") dx (cdF hd (1 + (c.wt + d.wt)) []))) (h2 : H' hd = some (.lst [.ref b, .ref e])) (hb : PutC K H H' c b) (he : PutC K H H' d e) : PutC K H H' (.less c d) x := fun G k => by
  unfold CardAt
  exact ⟨dx, hd, b, e, k.1 _ _ nofun h1, k.2 _ _ nh h2, hb G k, he G k⟩
theorem put_swap {K : PySem.W.Frag} {H H' : Hp} {x dx hd b e r : Addr} {c d : CardD} {S : DaysD} (nh : H hd = none) (h1 : H' x = some (.ins (He.ga K "Swap") dx (cdF hd (1 + (c.wt + d.wt)) [("days", .ref r)]))) (h2 : H' hd = some (.lst [.ref b, .ref e])) (hr : DaysAt K H' r S) (hb : PutC K H H' c b) (he : PutC K H H' d e) : PutC K H H' (.swap c S d) x := fun G k => by
  unfold CardAt
  exact ⟨dx, hd, b, e, r, k.1 _ _ nofun h1, k.2 _ _ nh h2, hb G k, he G k, hr.kpl k⟩
theorem put_later {K : PySem.W.Frag} {H H' : Hp} {x dx hd b : Addr} {c : CardD} {m : Nat} (nh : H hd = none) (h1 : H' x = some (.ins (He.ga K "Later") dx (cdF hd (1 + c.wt) [("minutes", .int (m : Nat))]))) (h2 : H' hd = some (.lst [.ref b])) (hb : PutC K H H' c b) : PutC K H H' (.later c m) x := fun G k => by
  unfold CardAt
  exact ⟨dx, hd, b, k.1 _ _ nofun h1, k.2 _ _ nh h2, hb G k⟩
theorem put_noted {K : PySem.W.Frag} {H H' : Hp} {x dx hd b : Addr} {c : CardD} {w : Str} (nh : H hd = none) (h1 : H' x = some (.ins (He.ga K "Noted") dx (cdF hd (1 + c.wt) [("note", .str w)]))) (h2 : H' hd = some (.lst [.ref b])) (hb : PutC K H H' c b) : PutC K H H' (.noted c w) x := fun G k => by
  unfold CardAt
  exact ⟨dx, hd, b, k.1 _ _ nofun h1, k.2 _ _ nh h2, hb G k⟩
/-- a comprehension over told cards that makes cards of them -/
theorem lc_cards {K : PySem.W.Frag} {J : It} {Gd Qd : Hp → Prop} {G0 : Hp} {D : Addr} {as : List Addr} {cs : List TelD} {g : TG} {tt : TT} {te : TE} {vs : List Nat} {σ : L2.St} (nD : G0 D = none) (w : L2.Walk J (as.map V.ref).length Gd (L2.YAt (as.map V.ref))) (hG : ∀ H, Ex G0 H → Gd H) (hl : as.length = cs.length) (hn : cs.length ≤ 2000)
    (hs : ∀ (i : Nat) (a : Addr) (c : TelD) (H : Hp) (acc : List V) (N : Hp → Prop), as[i]? = some a → cs[i]? = some c → Ex G0 H → H D = some (.lst acc) → acc.length < sizeLine → (∀ x H4, Ex H H4 → PutC K H H4 c.card x → N (upd H4 D (.lst (acc ++ [.ref x])))) → Turn g tt te vs σ D (.ref a) H N)
    (hd : ∀ bs H, Ex G0 H → PutCs K G0 H (cardL cs) bs → H D = some (.lst (bs.map V.ref)) → Qd H) :
    ∃ W : Nat → Nat → Hp → Prop, (∃ m, W 0 m (upd G0 D (.lst []))) ∧ ∀ i m H, W i m H →
      (J.stop i H ∧ Qd H) ∨ (J.go i H ∧ ∃ Nx : Hp → Prop, (∀ H', Nx H' → ∃ m', m' < m ∧ W (i + 1) m' H') ∧ ∀ x H', J.yld i H x H' → Turn g tt te vs σ D x H' Nx) := by
  refine lc_any w (fun i acc G => Ex G0 G ∧ (∀ o, G D = some o → ∃ ys, o = .lst ys) ∧ ∃ bs : List Addr, acc = bs.map V.ref ∧ bs.length = i ∧ ∀ G', Kpl (upd G0 D (.lst [])) G G' → CardsAt K G' (cardL (cs.take i)) bs) ?_ ⟨.refl _, fun o z => absurd (nD.symm.trans z) nofun, [], rfl, rfl, fun _ _ => by unfold cardL CardsAt; rfl⟩ (by rw [List.length_map]; omega) ?_ (fun i acc H h => hG H h.1) ?_ ?_
  · rintro i acc H l ⟨X, hL, bs, e, el, h1⟩
    refine ⟨ex_mut X nD, fun o z => ⟨l, by rw [upd_same] at z; cases z; rfl⟩, bs, e, el, fun G' k => h1 G' ⟨fun b o n z => k.1 b o n ?_, fun b o n z => k.2 b o n ?_⟩⟩
    · rw [upd_ne fun w => by subst w; obtain ⟨ys, e⟩ := hL _ z; exact n ys e]
      exact z
    · rw [upd_ne fun w => by subst w; rw [upd_same] at n; cases n]
      exact z
  · rintro i acc H ⟨_, _, bs, rfl, el, _⟩
    rw [List.length_map, el]
    exact Nat.le_refl _
  · rintro i x H H' acc N hi ⟨X, hL, bs, rfl, el, h1⟩ hD ls ⟨rfl, hx⟩ k _
    rw [List.getElem?_map] at hx
    obtain ⟨a, ha, rfl⟩ := Option.map_eq_some_iff.mp hx
    rw [List.length_map] at hi
    have hc : cs[i]? = some cs[i] := List.getElem?_eq_getElem (by omega)
    refine hs i a cs[i] _ _ N ha hc X hD ls fun x H4 X4 hx => k (.ref x) H4 (X4 _ _ hD) ⟨X.trans X4, fun o z => ⟨_, by rw [X4 _ _ hD] at z; cases z; rfl⟩, bs ++ [x], by rw [List.map_append]; rfl, by rw [List.length_append, el]; rfl, fun G' kp => ?_⟩
    rw [take_snoc hc, cardL_map, List.map_append, ← cardL_map]
    refine (h1 G' (kp.weak (.refl _) X4)).app (.one (hx G' ⟨kp.1, fun b o n z => kp.2 b o ?_ z⟩))
    rw [upd_ne fun w => by subst w; rw [hD] at n; cases n]
    exact ex_fresh X n
  · rintro acc H ⟨X, hL, bs, rfl, el, h1⟩ hD
    have e : cs.take (as.map V.ref).length = cs := by rw [List.length_map, hl, List.take_length]
    rw [e] at h1
    refine hd bs H X (fun G' k => h1 G' ⟨k.1, fun b o n z => k.2 b o ?_ z⟩) hD
    by_cases c : b = D
    · subst c
      exact nD
    · rw [upd_ne c] at n
      exact n
end
section
theorem put_as {K : PySem.W.Frag} {H H' : Hp} {x dx hd : Addr} {z : Str} (nh : H hd = none) (e : H' x = some (.ins (He.ga K "As") dx (cdF hd 1 [("name", .str z)]))) (eh : H' hd = some (.lst [])) : PutC K H H' (.as_ z) x := fun G k => by
  unfold CardAt
  exact ⟨dx, hd, k.1 _ _ nofun e, k.2 _ _ nh eh⟩
def sp__law_made (K : PySem.W.Frag) (d : Nat) : Sp := fun vs H Q _ => ∃ (N : Addr → Prop) (t : Addr) (c : TelD) (b : Nat), vs = [.ref t] ∧ TelN N H c t ∧ c.ok b ∧ c.card.wt ≤ d ∧ c.card.wt ≤ 60 ∧ ∀ a H', Ex H H' → H a = none → PutC K H H' c.card a → Q (.ref a) H'
theorem fb__law_made {P : Program} {w : World} {K : PySem.W.Frag} {mg : Str → Option Value} {base : Heap} (T : Env K mg) {d L : Nat} (hL : 70 ≤ L) (r__law_made : Fc P w K mg base L (He.ga K "_law_made") [] (sp__law_made K d)) : ∃ fd, FunD K "_law_made" "_law_made" (defArgs s__law_made) (defBody s__law_made) (defScope s__law_made) [] [] (He.ga K "_law_made") fd ∧ Fb P w K mg base (L + 1) (He.ga K "_law_made") fd ["_law_told"] (sp__law_made K (d + 1)) := by
  obtain ⟨fd, F⟩ := T.f__law_made
  refine ⟨fd, F, fb_of F sc__law_made (fun vs H Q E h => ?_) (fun cdv A outer s H vs Q E hr h => ?_)⟩
  · obtain ⟨N, t, c, b, rfl, _⟩ := h
    rfl
  · obtain ⟨N, t, c, b, rfl, ht, hk, hw, hw6, q⟩ := h
    refine ⟨_, (pss_cons (ps_if (pt_cmpR op_eq (pe_ix ix_tup (pv 0) pe_int (fun _ _ => rfl)) pe_str (nomark _))
      (pss_one (ps_ret (c_make T.mk_Once (ok_Once_init T) (hr.mono (by omega)) T.g_Once takes0 (pa_cons (c_call (ok__law_spread T) (hr.mono (by omega)) T.g__law_spread T.k__law_spread takes0 (pa_cons (pe_ix ix_tup (pv 0) pe_int (fun _ _ => rfl)) pa_nil)) (pa_cons (pe_callTy call_list_of (by rfl) T.n_list (by decide +kernel) (pa_cons (pe_ix ix_tup (pv 0) pe_int (fun _ _ => rfl)) pa_nil)) pa_nil)))))
      pss_nil)
      (pss_cons (ps_if (pt_cmpR op_eq (pe_ix ix_tup (pv 0) pe_int (fun _ _ => rfl)) pe_str (nomark _))
      (pss_one (ps_ret (c_make T.mk_Every (ok_Every_init T) (hr.mono (by omega)) T.g_Every takes0 (pa_cons (c_call (ok__law_days_made T) (hr.mono (by omega)) T.g__law_days_made T.k__law_days_made takes0 (pa_cons (pe_ix ix_tup (pv 0) pe_int (fun _ _ => rfl)) pa_nil)) (pa_cons (c_call (ok__law_spread T) (hr.mono (by omega)) T.g__law_spread T.k__law_spread takes0 (pa_cons (pe_ix ix_tup (pv 0) pe_int (fun _ _ => rfl)) pa_nil)) (pa_cons (pe_callTy call_list_of (by rfl) T.n_list (by decide +kernel) (pa_cons (pe_ix ix_tup (pv 0) pe_int (fun _ _ => rfl)) pa_nil)) pa_nil))))))
      pss_nil)
      (pss_cons (ps_if (pt_cmpR op_eq (pe_ix ix_tup (pv 0) pe_int (fun _ _ => rfl)) pe_str (nomark _))
      (pss_one (ps_ret (c_make T.mk_As (ok_As_init T) (hr.mono (by omega)) T.g_As takes0 (pa_cons (pe_ix ix_tup (pv 0) pe_int (fun _ _ => rfl)) pa_nil))))
      pss_nil)
      (pss_cons (ps_setLc (i := 1) (own := [("_law_one", 2)]) (by rfl) sc__law_made.nd rfl rfl (sw_true rfl rfl rfl (by decide +kernel)) (pi_list (c_call (ok__law_inner T) (hr.mono (by omega)) T.g__law_inner T.k__law_inner takes0 (pa_cons (pv 0) pa_nil))) (blkOk_by (own := [("_law_one", 2)]) (N := ["_law_told", "_law_some", "_law_one"]) (sc := defScope s__law_made) (by decide +kernel)) (fun _ _ _ _ _ => (pg_name (i := 2) sc__law_made.nd rfl (Or.inl rfl))) (fun _ _ _ _ _ => pts_nil) (fun _ _ _ _ _ => (c_call r__law_made (hr.mono (by omega)) T.g__law_made T.k__law_made takes0 (pa_cons (pv 2) pa_nil))))
      (pss_cons (ps_if (pt_cmpR op_eq (pe_ix ix_tup (pv 0) pe_int (fun _ _ => rfl)) pe_str (nomark _))
      (pss_one (ps_ret (c_make T.mk_Join (ok_Join_init T) (hr.mono (by omega)) T.g_Join takes0 (pa_cons (pv 1) pa_nil))))
      pss_nil)
      (pss_cons (ps_if (pt_cmpR op_eq (pe_ix ix_tup (pv 0) pe_int (fun _ _ => rfl)) pe_str (nomark _))
      (pss_one (ps_ret (c_make T.mk_Less (ok_Less_init T) (hr.mono (by omega)) T.g_Less takes0 (pa_cons (pe_ix ix_list (pv 1) pe_int (fun _ _ => rfl)) (pa_cons (pe_ix ix_list (pv 1) pe_int (fun _ _ => rfl)) pa_nil)))))
      pss_nil)
      (pss_cons (ps_if (pt_cmpR op_eq (pe_ix ix_tup (pv 0) pe_int (fun _ _ => rfl)) pe_str (nomark _))
      (pss_one (ps_ret (c_make T.mk_Swap (ok_Swap_init T) (hr.mono (by omega)) T.g_Swap takes0 (pa_cons (pe_ix ix_list (pv 1) pe_int (fun _ _ => rfl)) (pa_cons (c_call (ok__law_days_made T) (hr.mono (by omega)) T.g__law_days_made T.k__law_days_made takes0 (pa_cons (pe_ix ix_tup (pv 0) pe_int (fun _ _ => rfl)) pa_nil)) (pa_cons (pe_ix ix_list (pv 1) pe_int (fun _ _ => rfl)) pa_nil))))))
      pss_nil)
      (pss_cons (ps_if (pt_cmpR op_eq (pe_ix ix_tup (pv 0) pe_int (fun _ _ => rfl)) pe_str (nomark _))
      (pss_one (ps_ret (c_make T.mk_Later (ok_Later_init T) (hr.mono (by omega)) T.g_Later takes0 (pa_cons (pe_ix ix_list (pv 1) pe_int (fun _ _ => rfl)) (pa_cons (pe_ix ix_tup (pv 0) pe_int (fun _ _ => rfl)) pa_nil)))))
      pss_nil)
      (pss_one (ps_ret (c_make T.mk_Noted (ok_Noted_init T) (hr.mono (by omega)) T.g_Noted takes0 (pa_cons (pe_ix ix_list (pv 1) pe_int (fun _ _ => rfl)) (pa_cons (pe_ix ix_tup (pv 0) pe_int (fun _ _ => rfl)) pa_nil))))))))))))), ?_⟩
    cases c with
    | once rs ws =>
      unfold TelN at ht
      unfold TelD.ok at hk
      obtain ⟨r, w, h1, h2, h3, _⟩ := ht
      obtain ⟨hR, lr, hw⟩ := hk
      have hmm := runs_moms hR lr
      refine ⟨_, rfl, _, _, _, _, rfl, rfl, (sq_tup h1), rfl, rfl, _, rfl, _, rfl, _, _, _, _, rfl, rfl, (sq_tup h1), rfl, _, _, _, _, rfl, h2, hR, lr, ?_⟩
      intro s G XG ns hs hH
      refine ⟨_, rfl, _, _, _, _, rfl, rfl, sq_tup (XG _ _ h1), rfl, w, _, rfl, .inl (sq_lst (XG _ _ h3)), fun l nl => ?_⟩
      have Xl := ex_new (o := HO.lst (ws.map V.str)) nl
      have hl2 : upd G l (HO.lst (ws.map V.str)) l = some (HO.lst (ws.map V.str)) := upd_same
      generalize upd G l (HO.lst (ws.map V.str)) = G2 at Xl hl2 ⊢
      refine fun x dx nx nd ne => ⟨rfl, ?_⟩
      show sp_Once_init K [.ref x, .ref s, .ref l] _ _ _
      exact once_new nx nd ne (hs.mono Xl) hmm.1 hmm.2 (nt_names (.inl hl2) hw.1 hw.2.1 (by have := hw.2.2; omega)) fun G3 X3 hA hC => ⟨rfl, q x G3 ((XG.trans Xl).trans X3) (ex_fresh (XG.trans Xl) nx) (by rw [TelD.card]; exact putC_once ((hs.mono Xl).mono X3) ((hH.ex hs fun o e => Xl _ _ e).ex (hs.mono Xl) fun o e => X3 _ _ e) hA hC (fun b e => ex_fresh (XG.trans Xl) e) fun b e => e)⟩
    | every D rs ws =>
      unfold TelN at ht
      unfold TelD.ok at hk
      obtain ⟨x, g, l, r, w, h1, h0, h2, h3, _⟩ := ht
      obtain ⟨hD, hR, lr, hU, hw⟩ := hk
      have hmm := runs_moms hR lr
      refine ⟨_, rfl, _, _, _, _, rfl, rfl, (sq_tup h1), rfl, rfl, _, rfl, _, rfl, _, _, _, _, rfl, rfl, (sq_tup h1), rfl, rfl, _, rfl, _, rfl, _, _, _, _, rfl, rfl, (sq_tup h1), rfl, _, _, _, _, rfl, h0, hD, ?_⟩
      intro dy G XG ny hy
      refine ⟨_, rfl, _, _, _, _, rfl, rfl, sq_tup (XG _ _ h1), rfl, r, rs, 0, 1440, rfl, h2.mono XG, hR, lr, fun s G2 X2 ns hs hH => ?_⟩
      have X02 := XG.trans X2
      refine ⟨_, rfl, _, _, _, _, rfl, rfl, sq_tup (X02 _ _ h1), rfl, w, _, rfl, .inl (sq_lst (X02 _ _ h3)), fun l nl => ?_⟩
      have Xl := ex_new (o := HO.lst (ws.map V.str)) nl
      have hl2 : upd G2 l (HO.lst (ws.map V.str)) l = some (HO.lst (ws.map V.str)) := upd_same
      generalize upd G2 l (HO.lst (ws.map V.str)) = G3 at Xl hl2 ⊢
      refine fun z dz nz nd ne => ⟨rfl, ?_⟩
      have X03 := X02.trans Xl
      show sp_Every_init K [.ref z, .ref dy, .ref s, .ref l] _ _ _
      exact every_new nz nd ne ((hy.mono X2).mono Xl) hD (hs.mono Xl) hmm.1 hmm.2 (by
        rw [moms_runs hR.1]
        intro n hn
        exact (hR.2.2 n hn).2) (nt_names (.inl hl2) hw.1 hw.2.1 (by have := hw.2.2; omega)) fun G4 X4 hA hC => ⟨rfl, q z G4 (X03.trans X4) (ex_fresh X03 nz) (by rw [TelD.card]; exact putC_every ((hs.mono Xl).mono X4) ((hH.ex hs fun o e => Xl _ _ e).ex (hs.mono Xl) fun o e => X4 _ _ e) hA hC (fun b e => ex_fresh X03 e) fun b e => ex_fresh XG e)⟩
    | as_ z =>
      unfold TelN at ht
      unfold TelD.ok at hk
      have h1 := ht
      refine ⟨_, rfl, _, _, _, _, rfl, rfl, (sq_tup h1), rfl, rfl, _, rfl, _, rfl, _, _, _, _, rfl, rfl, (sq_tup h1), rfl, rfl, _, rfl, _, rfl, _, _, _, _, rfl, rfl, (sq_tup h1), rfl, rfl, _, rfl, _, rfl, _, _, _, _, rfl, rfl, (sq_tup h1), rfl, fun x dx nx nd ne => ?_⟩
      show sp_As_init K [.ref x, .str z] _ _ _
      refine as_new nx nd ne hk fun hd G3 X3 nh hh h' _ => ⟨rfl, q x G3 X3 nx ?_⟩
      rw [TelD.card]
      exact put_as nh h' hh
    | join cs =>
      have hT := ht
      unfold TelN at ht
      obtain ⟨l, as, h1, h2, _, h3⟩ := ht
      refine ⟨_, rfl, _, _, _, _, rfl, rfl, (sq_tup h1), rfl, rfl, _, rfl, _, rfl, _, _, _, _, rfl, rfl, (sq_tup h1), rfl, rfl, _, rfl, _, rfl, _, _, _, _, rfl, rfl, (sq_tup h1), rfl, rfl, _, rfl, _, rfl, _, _, _, rfl, hT, ?_⟩
      intro l1 as1 G X1 n1 hl1 hN1
      have hin := fun e' m => TelD.inn_ok (e := e') hk m
      have hiw := fun e' m => TelD.inn_wt (c := TelD.join cs) (e := e') m
      have linn : (TelD.join cs).inn.length ≤ 60 := by
        unfold TelD.ok at hk
        have := wtL_len (cardL cs)
        rw [cardL_len] at this
        show cs.length ≤ 60
        omega
      generalize he : (TelD.join cs).inn = cs0 at hN1 hin hiw linn
      refine ⟨_, rfl, ⟨_, sq_lst hl1⟩, fun A nA => lc_cards (K := K) nA L2.walk_list (fun H4 e => sq_lst (e _ _ hl1)) hN1.len (by omega) (fun i a1 c1 H4 acc Nx ha hc X4 hD la k => ?_) fun bs G2 X2 hbs hA2 => ?_⟩
      · obtain ⟨c2, hc2, hT2⟩ := hN1.get ha
        rw [hc] at hc2
        cases hc2
        have m2 := List.mem_of_getElem? hc
        have w2 := hiw c1 m2
        refine ⟨rfl, _, rfl, N, a1, c1, b, rfl, hT2.mono X4, hin c1 m2, by omega, by omega, fun x H5 X5 _ hx => ⟨acc, X5 _ _ hD, la, k x H5 X5 hx⟩⟩
      · have X02 := X1.trans X2
        have hbs := hbs.mono X1 (.refl _)
        have he : cs = cs0 := he
        subst he
        unfold TelD.ok at hk
        refine ⟨_, rfl, _, _, _, _, rfl, rfl, (sq_tup (X02 _ _ h1)), rfl, rfl, _, rfl, _, rfl, ?_⟩

        refine fun x dx nx nd ne => ?_
        show sp_Join_init K [.ref x, .ref A] _ _ _
        have nn : cardL cs ≠ [] := fun z => hk.2.1 (List.length_eq_zero_iff.mp (by rw [← cardL_len, z]; rfl))
        exact join_new nx nd ne (.inl hA2) hbs.at nn hk.2.2 fun hd G3 X3 nh hh h' hA => ⟨rfl, q x G3 (X02.trans X3) (ex_fresh X02 nx) (by rw [TelD.card]; exact put_join (ex_fresh X02 nh) h' hh (hbs.mono (.refl _) X3))⟩
    | less c e =>
      have hT := ht
      unfold TelN at ht
      obtain ⟨a, e1, h1, h2, h3⟩ := ht
      refine ⟨_, rfl, _, _, _, _, rfl, rfl, (sq_tup h1), rfl, rfl, _, rfl, _, rfl, _, _, _, _, rfl, rfl, (sq_tup h1), rfl, rfl, _, rfl, _, rfl, _, _, _, _, rfl, rfl, (sq_tup h1), rfl, rfl, _, rfl, _, rfl, _, _, _, rfl, hT, ?_⟩
      intro l1 as1 G X1 n1 hl1 hN1
      have hin := fun e' m => TelD.inn_ok (e := e') hk m
      have hiw := fun e' m => TelD.inn_wt (c := TelD.less c e) (e := e') m
      have linn : (TelD.less c e).inn.length ≤ 60 := by show 2 ≤ 60; decide
      generalize he : (TelD.less c e).inn = cs0 at hN1 hin hiw linn
      refine ⟨_, rfl, ⟨_, sq_lst hl1⟩, fun A nA => lc_cards (K := K) nA L2.walk_list (fun H4 e => sq_lst (e _ _ hl1)) hN1.len (by omega) (fun i a1 c1 H4 acc Nx ha hc X4 hD la k => ?_) fun bs G2 X2 hbs hA2 => ?_⟩
      · obtain ⟨c2, hc2, hT2⟩ := hN1.get ha
        rw [hc] at hc2
        cases hc2
        have m2 := List.mem_of_getElem? hc
        have w2 := hiw c1 m2
        refine ⟨rfl, _, rfl, N, a1, c1, b, rfl, hT2.mono X4, hin c1 m2, by omega, by omega, fun x H5 X5 _ hx => ⟨acc, X5 _ _ hD, la, k x H5 X5 hx⟩⟩
      · have X02 := X1.trans X2
        have hbs := hbs.mono X1 (.refl _)
        have hbs : PutCs K H G2 [c.card, e.card] bs := by cases he; exact hbs
        obtain ⟨b1, b2, rfl, hb1, hb2⟩ := hbs.get2
        refine ⟨_, rfl, _, _, _, _, rfl, rfl, (sq_tup (X02 _ _ h1)), rfl, rfl, _, rfl, _, rfl, _, _, _, _, rfl, rfl, (sq_tup (X02 _ _ h1)), rfl, rfl, _, rfl, _, rfl, ?_⟩
        refine ⟨_, _, _, _, rfl, rfl, (sq_lst hA2), rfl, _, rfl, _, _, _, _, rfl, rfl, (sq_lst hA2), rfl, ?_⟩
        unfold TelD.ok at hk
        rw [TelD.card, CardD.wt] at hw6
        refine fun x dx nx nd ne => ?_
        show sp_Less_init K [.ref x, .ref b1, .ref b2] _ _ _
        exact less_new nx nd ne hb1.at hb2.at (by omega) fun hd G3 X3 nh hh h' hA => ⟨rfl, q x G3 (X02.trans X3) (ex_fresh X02 nx) (by rw [TelD.card]; exact put_less (ex_fresh X02 nh) h' hh (hb1.mono (.refl _) X3) (hb2.mono (.refl _) X3))⟩
    | swap c D e =>
      have hT := ht
      unfold TelN at ht
      obtain ⟨a, x, g, l, e1, h1, h0, n1, n2, h2, h3⟩ := ht
      refine ⟨_, rfl, _, _, _, _, rfl, rfl, (sq_tup h1), rfl, rfl, _, rfl, _, rfl, _, _, _, _, rfl, rfl, (sq_tup h1), rfl, rfl, _, rfl, _, rfl, _, _, _, _, rfl, rfl, (sq_tup h1), rfl, rfl, _, rfl, _, rfl, _, _, _, rfl, hT, ?_⟩
      intro l1 as1 G X1 n1 hl1 hN1
      have hin := fun e' m => TelD.inn_ok (e := e') hk m
      have hiw := fun e' m => TelD.inn_wt (c := TelD.swap c D e) (e := e') m
      have linn : (TelD.swap c D e).inn.length ≤ 60 := by show 2 ≤ 60; decide
      generalize he : (TelD.swap c D e).inn = cs0 at hN1 hin hiw linn
      refine ⟨_, rfl, ⟨_, sq_lst hl1⟩, fun A nA => lc_cards (K := K) nA L2.walk_list (fun H4 e => sq_lst (e _ _ hl1)) hN1.len (by omega) (fun i a1 c1 H4 acc Nx ha hc X4 hD la k => ?_) fun bs G2 X2 hbs hA2 => ?_⟩
      · obtain ⟨c2, hc2, hT2⟩ := hN1.get ha
        rw [hc] at hc2
        cases hc2
        have m2 := List.mem_of_getElem? hc
        have w2 := hiw c1 m2
        refine ⟨rfl, _, rfl, N, a1, c1, b, rfl, hT2.mono X4, hin c1 m2, by omega, by omega, fun x H5 X5 _ hx => ⟨acc, X5 _ _ hD, la, k x H5 X5 hx⟩⟩
      · have X02 := X1.trans X2
        have hbs := hbs.mono X1 (.refl _)
        have hbs : PutCs K H G2 [c.card, e.card] bs := by cases he; exact hbs
        obtain ⟨b1, b2, rfl, hb1, hb2⟩ := hbs.get2
        refine ⟨_, rfl, _, _, _, _, rfl, rfl, (sq_tup (X02 _ _ h1)), rfl, rfl, _, rfl, _, rfl, _, _, _, _, rfl, rfl, (sq_tup (X02 _ _ h1)), rfl, rfl, _, rfl, _, rfl, _, _, _, _, rfl, rfl, (sq_tup (X02 _ _ h1)), rfl, rfl, _, rfl, _, rfl, ?_⟩
        refine ⟨_, _, _, _, rfl, rfl, (sq_lst hA2), rfl, _, rfl, _, _, _, _, rfl, rfl, (sq_tup (X02 _ _ h1)), rfl, _, _, _, _, rfl, (h0.mono X02), ?_⟩
        unfold TelD.ok at hk
        rw [TelD.card, CardD.wt] at hw6
        refine ⟨hk.2.1, fun y G3 X3 ny hy => ?_⟩
        have X03 := X02.trans X3
        refine ⟨_, rfl, _, _, _, _, rfl, rfl, sq_lst (X3 _ _ hA2), rfl, fun x dx nx nd ne => ?_⟩
        show sp_Swap_init K [.ref x, .ref b1, .ref y, .ref b2] _ _ _
        exact swap_new nx nd ne (hb1.at.mono X3) hy hk.2.1 (hb2.at.mono X3) (by omega) fun hd G4 X4 nh hh h' hA => ⟨rfl, q x G4 (X03.trans X4) (ex_fresh X03 nx) (by rw [TelD.card]; exact put_swap (ex_fresh X03 nh) h' hh (hy.mono X4) (hb1.mono (.refl _) (X3.trans X4)) (hb2.mono (.refl _) (X3.trans X4)))⟩
    | later c m =>
      have hT := ht
      unfold TelN at ht
      obtain ⟨a, h1, h2⟩ := ht
      refine ⟨_, rfl, _, _, _, _, rfl, rfl, (sq_tup h1), rfl, rfl, _, rfl, _, rfl, _, _, _, _, rfl, rfl, (sq_tup h1), rfl, rfl, _, rfl, _, rfl, _, _, _, _, rfl, rfl, (sq_tup h1), rfl, rfl, _, rfl, _, rfl, _, _, _, rfl, hT, ?_⟩
      intro l1 as1 G X1 n1 hl1 hN1
      have hin := fun e' m => TelD.inn_ok (e := e') hk m
      have hiw := fun e' mm => TelD.inn_wt (c := TelD.later c m) (e := e') mm
      have linn : (TelD.later c m).inn.length ≤ 60 := by show 1 ≤ 60; decide
      generalize he : (TelD.later c m).inn = cs0 at hN1 hin hiw linn
      refine ⟨_, rfl, ⟨_, sq_lst hl1⟩, fun A nA => lc_cards (K := K) nA L2.walk_list (fun H4 e => sq_lst (e _ _ hl1)) hN1.len (by omega) (fun i a1 c1 H4 acc Nx ha hc X4 hD la k => ?_) fun bs G2 X2 hbs hA2 => ?_⟩
      · obtain ⟨c2, hc2, hT2⟩ := hN1.get ha
        rw [hc] at hc2
        cases hc2
        have m2 := List.mem_of_getElem? hc
        have w2 := hiw c1 m2
        refine ⟨rfl, _, rfl, N, a1, c1, b, rfl, hT2.mono X4, hin c1 m2, by omega, by omega, fun x H5 X5 _ hx => ⟨acc, X5 _ _ hD, la, k x H5 X5 hx⟩⟩
      · have X02 := X1.trans X2
        have hbs := hbs.mono X1 (.refl _)
        have hbs : PutCs K H G2 [c.card] bs := by cases he; exact hbs
        obtain ⟨b1, rfl, hb1⟩ := hbs.get1
        refine ⟨_, rfl, _, _, _, _, rfl, rfl, (sq_tup (X02 _ _ h1)), rfl, rfl, _, rfl, _, rfl, _, _, _, _, rfl, rfl, (sq_tup (X02 _ _ h1)), rfl, rfl, _, rfl, _, rfl, _, _, _, _, rfl, rfl, (sq_tup (X02 _ _ h1)), rfl, rfl, _, rfl, _, rfl, _, _, _, _, rfl, rfl, (sq_tup (X02 _ _ h1)), rfl, rfl, _, rfl, _, rfl, ?_⟩
        refine ⟨_, _, _, _, rfl, rfl, (sq_lst hA2), rfl, _, rfl, _, _, _, _, rfl, rfl, (sq_tup (X02 _ _ h1)), rfl, ?_⟩
        unfold TelD.ok at hk
        rw [TelD.card, CardD.wt] at hw6
        refine fun x dx nx nd ne => ⟨rfl, ?_⟩
        show sp_Later_init K [.ref x, .ref b1, .int (m : Nat)] _ _ _
        exact later_new nx nd ne hb1.at hk.2 (by omega) fun hd G3 X3 nh hh h' hA => ⟨rfl, q x G3 (X02.trans X3) (ex_fresh X02 nx) (by rw [TelD.card]; exact put_later (ex_fresh X02 nh) h' hh (hb1.mono (.refl _) X3))⟩
    | noted c z =>
      have hT := ht
      unfold TelN at ht
      obtain ⟨a, h1, h2⟩ := ht
      refine ⟨_, rfl, _, _, _, _, rfl, rfl, (sq_tup h1), rfl, rfl, _, rfl, _, rfl, _, _, _, _, rfl, rfl, (sq_tup h1), rfl, rfl, _, rfl, _, rfl, _, _, _, _, rfl, rfl, (sq_tup h1), rfl, rfl, _, rfl, _, rfl, _, _, _, rfl, hT, ?_⟩
      intro l1 as1 G X1 n1 hl1 hN1
      have hin := fun e' m => TelD.inn_ok (e := e') hk m
      have hiw := fun e' m => TelD.inn_wt (c := TelD.noted c z) (e := e') m
      have linn : (TelD.noted c z).inn.length ≤ 60 := by show 1 ≤ 60; decide
      generalize he : (TelD.noted c z).inn = cs0 at hN1 hin hiw linn
      refine ⟨_, rfl, ⟨_, sq_lst hl1⟩, fun A nA => lc_cards (K := K) nA L2.walk_list (fun H4 e => sq_lst (e _ _ hl1)) hN1.len (by omega) (fun i a1 c1 H4 acc Nx ha hc X4 hD la k => ?_) fun bs G2 X2 hbs hA2 => ?_⟩
      · obtain ⟨c2, hc2, hT2⟩ := hN1.get ha
        rw [hc] at hc2
        cases hc2
        have m2 := List.mem_of_getElem? hc
        have w2 := hiw c1 m2
        refine ⟨rfl, _, rfl, N, a1, c1, b, rfl, hT2.mono X4, hin c1 m2, by omega, by omega, fun x H5 X5 _ hx => ⟨acc, X5 _ _ hD, la, k x H5 X5 hx⟩⟩
      · have X02 := X1.trans X2
        have hbs := hbs.mono X1 (.refl _)
        have hbs : PutCs K H G2 [c.card] bs := by cases he; exact hbs
        obtain ⟨b1, rfl, hb1⟩ := hbs.get1
        refine ⟨_, rfl, _, _, _, _, rfl, rfl, (sq_tup (X02 _ _ h1)), rfl, rfl, _, rfl, _, rfl, _, _, _, _, rfl, rfl, (sq_tup (X02 _ _ h1)), rfl, rfl, _, rfl, _, rfl, _, _, _, _, rfl, rfl, (sq_tup (X02 _ _ h1)), rfl, rfl, _, rfl, _, rfl, _, _, _, _, rfl, rfl, (sq_tup (X02 _ _ h1)), rfl, rfl, _, rfl, _, rfl, ?_⟩
        refine ⟨_, _, _, _, rfl, rfl, (sq_lst hA2), rfl, _, rfl, _, _, _, _, rfl, rfl, (sq_tup (X02 _ _ h1)), rfl, ?_⟩
        unfold TelD.ok at hk
        rw [TelD.card, CardD.wt] at hw6
        refine fun x dx nx nd ne => ?_
        show sp_Noted_init K [.ref x, .ref b1, .str z] _ _ _
        exact noted_new nx nd ne hb1.at hk.2.1 (by omega) fun hd G3 X3 nh hh h' hA => ⟨rfl, q x G3 (X02.trans X3) (ex_fresh X02 nx) (by rw [TelD.card]; exact put_noted (ex_fresh X02 nh) h' hh (hb1.mono (.refl _) X3))⟩
theorem ok__law_made {P : Program} {w : World} {K : PySem.W.Frag} {mg : Str → Option Value} {base : Heap} (T : Env K mg) {d L : Nat} (hL : 70 ≤ L) (r__law_made : Fc P w K mg base L (He.ga K "_law_made") [] (sp__law_made K d)) : Fc P w K mg base (L + 1) (He.ga K "_law_made") [] (sp__law_made K (d + 1)) := by
  obtain ⟨fd, D, F⟩ := fb__law_made T hL r__law_made
  exact F.all (D.bindsN fun _ _ _ _ _ _ us hl => match us, hl with | [_], _ => rfl)
theorem all_made {P : Program} {w : World} {K : PySem.W.Frag} {mg : Str → Option Value} {base : Heap} (T : Env K mg) : ∀ d, Fc P w K mg base (70 + d) (He.ga K "_law_made") [] (sp__law_made K d)
  | 0 => fc_no fun vs H Q E h => by
    obtain ⟨N, t, c, b, _, _, _, h, _⟩ := h
    have := c.card.wt_pos
    omega
  | d + 1 => ok__law_made T (Nat.le_add_right 70 _) (all_made T d)
end
section
theorem TelN.other {N : Addr → Prop} {H : Hp} {c : TelD} {t : Addr} (h : TelN N H c t) (na : ∀ z, c ≠ .as_ z) : ∃ (s : Str) (xs : List V), H t = some (.tup (.str s :: xs)) ∧ s ≠ "as" := by
  cases c with
  | as_ z => exact absurd rfl (na z)
  | once rs ws =>
    unfold TelN at h
    obtain ⟨r, w, h1, _⟩ := h
    exact ⟨_, _, h1, by decide +kernel⟩
  | every D rs ws =>
    unfold TelN at h
    obtain ⟨x, g, l, r, w, h1, _⟩ := h
    exact ⟨_, _, h1, by decide +kernel⟩
  | join cs =>
    unfold TelN at h
    obtain ⟨l, as, h1, _⟩ := h
    exact ⟨_, _, h1, by decide +kernel⟩
  | less c d =>
    unfold TelN at h
    obtain ⟨a, b, h1, _⟩ := h
    exact ⟨_, _, h1, by decide +kernel⟩
  | swap c D d =>
    unfold TelN at h
    obtain ⟨a, x, g, l, b, h1, _⟩ := h
    exact ⟨_, _, h1, by decide +kernel⟩
  | later c m =>
    unfold TelN at h
    obtain ⟨a, h1, _⟩ := h
    exact ⟨_, _, h1, by decide +kernel⟩
  | noted c z =>
    unfold TelN at h
    obtain ⟨a, h1, _⟩ := h
    exact ⟨_, _, h1, by decide +kernel⟩
theorem TelD.fst_inn {c : TelD} (na : ∀ z, c ≠ .as_ z) : c.card.fst = fstL (cardL c.inn) := by
  cases c with
  | as_ z => exact absurd rfl (na z)
  | once rs ws => rfl
  | every D rs ws => rfl
  | join cs => rw [TelD.card, CardD.fst]; rfl
  | less c d =>
    rw [TelD.card, CardD.fst]
    show _ = fstL [c.card, d.card]
    rw [fstL_cons, fstL_cons]
    cases c.card.fst <;> cases d.card.fst <;> rfl
  | swap c D d =>
    rw [TelD.card, CardD.fst]
    show _ = fstL [c.card, d.card]
    rw [fstL_cons, fstL_cons]
    cases c.card.fst <;> cases d.card.fst <;> rfl
  | later c m =>
    rw [TelD.card, CardD.fst]
    show _ = fstL [c.card]
    rw [fstL_cons]
    cases c.card.fst <;> rfl
  | noted c z =>
    rw [TelD.card, CardD.fst]
    show _ = fstL [c.card]
    rw [fstL_cons]
    cases c.card.fst <;> rfl
theorem fstL_take {cs : List TelD} {i : Nat} {c : TelD} (h : cs[i]? = some c) (n : fstL (cardL (cs.take i)) = none) : (c.card.fst = none → fstL (cardL (cs.take (i + 1))) = none) ∧ ∀ z, c.card.fst = some z → fstL (cardL cs) = some z := by
  induction cs generalizing i with
  | nil => cases h
  | cons x r ih =>
    cases i with
    | zero =>
      cases h
      refine ⟨fun e => ?_, fun z e => ?_⟩
      · show fstL [c.card] = none
        rw [fstL_cons, e]
        rfl
      · show fstL (c.card :: cardL r) = some z
        rw [fstL_cons, e]
    | succ i =>
      have n : fstL (x.card :: cardL (r.take i)) = none := n
      rw [fstL_cons] at n
      cases e : x.card.fst with
      | some z => rw [e] at n; cases n
      | none =>
        rw [e] at n
        obtain ⟨h1, h2⟩ := ih (i := i) h n
        refine ⟨fun q => ?_, fun z q => ?_⟩
        · show fstL (x.card :: cardL (r.take (i + 1))) = none
          rw [fstL_cons, e]
          exact h1 q
        · show fstL (x.card :: cardL r) = some z
          rw [fstL_cons, e]
          exact h2 z q
def sp__law_first (K : PySem.W.Frag) (d : Nat) : Sp := fun vs H Q _ => ∃ (N : Addr → Prop) (t : Addr) (c : TelD), vs = [.ref t] ∧ TelN N H c t ∧ c.card.wt ≤ d ∧ c.card.wt ≤ 60 ∧ ∀ H', Ex H H' → Q (optS c.card.fst) H'
theorem fb__law_first {P : Program} {w : World} {K : PySem.W.Frag} {mg : Str → Option Value} {base : Heap} (T : Env K mg) {d L : Nat} (hL : 60 ≤ L) (r__law_first : Fc P w K mg base L (He.ga K "_law_first") [] (sp__law_first K d)) : ∃ fd, FunD K "_law_first" "_law_first" (defArgs s__law_first) (defBody s__law_first) (defScope s__law_first) [] [] (He.ga K "_law_first") fd ∧ Fb P w K mg base (L + 1) (He.ga K "_law_first") fd ["_law_told"] (sp__law_first K (d + 1)) := by
  obtain ⟨fd, F⟩ := T.f__law_first
  refine ⟨fd, F, fb_of F sc__law_first (fun vs H Q E h => ?_) (fun cdv A outer s H vs Q E hr h => ?_)⟩
  · obtain ⟨N, t, c, rfl, _⟩ := h
    rfl
  · obtain ⟨N, t, c, rfl, ht, hw, hw6, q⟩ := h
    refine ⟨_, (pss_cons (ps_if (pt_cmpR op_eq (pe_ix ix_tup (pv 0) pe_int (fun _ _ => rfl)) pe_str (nomark _))
      (pss_one (ps_ret (pe_ix ix_tup (pv 0) pe_int (fun _ _ => rfl))))
      pss_nil)
      (pss_cons (ps_for (passes_of rfl) rfl (pi_list (c_call (ok__law_inner T) (hr.mono (by omega)) T.g__law_inner T.k__law_inner takes0 (pa_cons (pv 0) pa_nil))) (pg_name (i := 1) sc__law_first.nd rfl (Or.inl rfl))
      (pss_cons (ps_set (i := 2) sc__law_first.nd rfl (Or.inl rfl) (c_call r__law_first (hr.mono (by omega)) T.g__law_first T.k__law_first takes0 (pa_cons (pv 1) pa_nil)))
      (pss_one (ps_if (pt_cmpR op_notN (pv 2) pe_non (nomark _))
      (pss_one (ps_ret (pv 2)))
      pss_nil))))
      (pss_one (ps_ret pe_non)))), ?_⟩
    by_cases ca : ∃ z, c = .as_ z
    · obtain ⟨z, rfl⟩ := ca
      unfold TelN at ht
      have q := q H (.refl _)
      rw [TelD.card, CardD.fst] at q
      exact ⟨_, rfl, _, _, _, _, rfl, rfl, sq_tup ht, rfl, rfl, _, rfl, iteT ⟨_, rfl, _, _, _, _, rfl, rfl, sq_tup ht, rfl, q⟩⟩
    have na : ∀ z, c ≠ .as_ z := fun z e => ca ⟨z, e⟩
    obtain ⟨s, xs, h1, hs⟩ := ht.other na
    rw [TelD.fst_inn na] at q
    refine ⟨_, rfl, _, _, _, _, rfl, rfl, sq_tup h1, atI_nat (j := 0) rfl, rfl, _, rfl, ?_⟩
    rw [decide_eq_false (show ¬ V.str s = V.str "as" from fun e => hs (by injection e))]
    refine iteF ⟨_, rfl, _, _, _, rfl, ht, fun l1 as1 G X1 n1 hl1 hN1 => ?_⟩
    have hiw := fun e' m => TelD.inn_wt (c := c) (e := e') m
    generalize c.inn = cs0 at hN1 hiw q
    have lcs := hN1.len
    refine ⟨_, rfl, ⟨_, sq_lst hl1⟩, for_on as1 V.ref L2.walk_list (fun i σ G' => Ex G G' ∧ fstL (cardL (cs0.take i)) = none ∧ ∃ v1 v2, σ = [some (.ref t), v1, v2]) ⟨.refl _, rfl, _, _, rfl⟩ (fun i σ G' p => sq_lst (p.1 _ _ hl1)) ?_ ?_⟩
    · rintro i a9 σ G' ha9 ⟨XG, fn, v1, v2, rfl⟩
      obtain ⟨c9, hc9, hT9⟩ := hN1.get ha9
      have w9 := hiw c9 (List.mem_of_getElem? hc9)
      obtain ⟨f1, f2⟩ := fstL_take hc9 fn
      refine ⟨_, rfl, N, a9, c9, rfl, hT9.mono XG, by omega, by omega, fun G2 X2 => ?_⟩
      cases e : c9.card.fst with
      | none => exact ⟨_, rfl, rfl, _, rfl, iteF ⟨XG.trans X2, f1 e, _, _, rfl⟩⟩
      | some z =>
        rw [f2 z e] at q
        exact ⟨_, rfl, rfl, _, rfl, iteT ⟨_, rfl, q G2 ((X1.trans XG).trans X2)⟩⟩
    · rintro σ G' ⟨XG, fn, v1, v2, rfl⟩
      rw [lcs, List.take_length] at fn
      rw [fn] at q
      exact q G' (X1.trans XG)
theorem ok__law_first {P : Program} {w : World} {K : PySem.W.Frag} {mg : Str → Option Value} {base : Heap} (T : Env K mg) {d L : Nat} (hL : 60 ≤ L) (r__law_first : Fc P w K mg base L (He.ga K "_law_first") [] (sp__law_first K d)) : Fc P w K mg base (L + 1) (He.ga K "_law_first") [] (sp__law_first K (d + 1)) := by
  obtain ⟨fd, D, F⟩ := fb__law_first T hL r__law_first
  exact F.all (D.bindsN fun _ _ _ _ _ _ us hl => match us, hl with | [_], _ => rfl)
theorem all_first {P : Program} {w : World} {K : PySem.W.Frag} {mg : Str → Option Value} {base : Heap} (T : Env K mg) : ∀ d, Fc P w K mg base (60 + d) (He.ga K "_law_first") [] (sp__law_first K d)
  | 0 => fc_no fun vs H Q E h => by
    obtain ⟨N, t, c, _, _, h, _⟩ := h
    have := c.card.wt_pos
    omega
  | d + 1 => ok__law_first T (Nat.le_add_right 60 _) (all_first T d)
end
section
theorem inn_wtL (c : TelD) : c.card.wt = 1 + wtL (cardL c.inn) := by
  cases c with
  | once rs ws => rfl
  | every D rs ws => rfl
  | as_ z => rfl
  | join cs => rw [TelD.card, CardD.wt]; rfl
  | less c d =>
    rw [TelD.card, CardD.wt]
    show _ = 1 + (c.card.wt + (d.card.wt + 0))
    omega
  | swap c D d =>
    rw [TelD.card, CardD.wt]
    show _ = 1 + (c.card.wt + (d.card.wt + 0))
    omega
  | later c m => rw [TelD.card, CardD.wt]; rfl
  | noted c z => rw [TelD.card, CardD.wt]; rfl
def sp__law_many (K : PySem.W.Frag) (d : Nat) : Sp := fun vs H Q _ => ∃ (N : Addr → Prop) (t : Addr) (c : TelD) (b : Nat), vs = [.ref t] ∧ TelN N H c t ∧ c.ok b ∧ c.card.wt ≤ d ∧ c.card.wt ≤ 60 ∧ ∀ H', Ex H H' → Q (.int (c.card.wt : Nat)) H'
theorem fb__law_many {P : Program} {w : World} {K : PySem.W.Frag} {mg : Str → Option Value} {base : Heap} (T : Env K mg) {d L : Nat} (hL : 60 ≤ L) (r__law_many : Fc P w K mg base L (He.ga K "_law_many") [] (sp__law_many K d)) : ∃ fd, FunD K "_law_many" "_law_many" (defArgs s__law_many) (defBody s__law_many) (defScope s__law_many) [] [] (He.ga K "_law_many") fd ∧ Fb P w K mg base (L + 1) (He.ga K "_law_many") fd ["_law_told"] (sp__law_many K (d + 1)) := by
  obtain ⟨fd, F⟩ := T.f__law_many
  refine ⟨fd, F, fb_of F sc__law_many (fun vs H Q E h => ?_) (fun cdv A outer s H vs Q E hr h => ?_)⟩
  · obtain ⟨N, t, c, b, rfl, _⟩ := h
    rfl
  · obtain ⟨N, t, c, b, rfl, ht, hk, hw, hw6, q⟩ := h
    refine ⟨_, (pss_one (ps_ret (pe_op op_add pe_int (pe_callB (cr_sum rfl) (by rfl) T.n_sum (by decide +kernel) (pa_cons (pe_lc (own := [("_law_one", 1)]) (by rfl) sc__law_many.nd (pi_list (c_call (ok__law_inner T) (hr.mono (by omega)) T.g__law_inner T.k__law_inner takes0 (pa_cons (pv 0) pa_nil))) (blkOk_by (own := [("_law_one", 1)]) (N := ["_law_told", "_law_one"]) (sc := defScope s__law_many) (by decide +kernel)) (fun _ _ _ _ _ => (pg_name (i := 1) sc__law_many.nd rfl (Or.inl rfl))) (fun _ _ _ _ _ => pts_nil) (fun _ _ _ _ _ => (c_call r__law_many (hr.mono (by omega)) T.g__law_many T.k__law_many takes0 (pa_cons (pv 1) pa_nil)))) pa_nil))))), ?_⟩
    refine ⟨_, rfl, _, _, _, rfl, ht, ?_⟩
    intro l1 as1 G X1 n1 hl1 hN1
    have hin := fun e' m => TelD.inn_ok (e := e') hk m
    have hiw := fun e' m => TelD.inn_wt (c := c) (e := e') m
    have wsum := inn_wtL c
    generalize c.inn = cs0 at hN1 hin hiw wsum
    have lcs := hN1.len
    have lw := wtL_len (cardL cs0)
    rw [cardL_len] at lw
    refine ⟨_, rfl, ⟨_, sq_lst hl1⟩, fun A nA => lc_any (L2.walk_list) (fun i acc G' => Ex G G' ∧ acc = ((cs0.take i).map fun c => (c.card.wt : Int)).map V.int) (fun i acc H l h => ⟨ex_mut h.1 nA, h.2⟩) ⟨.refl _, rfl⟩ (by rw [List.length_map]; omega) (fun i acc H h => by rw [h.2, List.length_map, List.length_map, List.length_take]; omega) (fun i acc H h => sq_lst (h.1 _ _ hl1)) ?_ fun acc G2 h hA2 => ?_⟩
    · rintro i x H2 H3 acc Nx hi ⟨X, e⟩ hD ls ⟨rfl, hx⟩ k _
      rw [List.getElem?_map] at hx
      obtain ⟨a9, ha, rfl⟩ := Option.map_eq_some_iff.mp hx
      obtain ⟨c9, hc, hT⟩ := hN1.get ha
      have m9 := List.mem_of_getElem? hc
      have w9 := hiw c9 m9
      refine ⟨rfl, _, rfl, N, a9, c9, b, rfl, hT.mono X, hin c9 m9, by omega, by omega, fun H5 X5 => ⟨acc, X5 _ _ hD, ls, k _ H5 (X5 _ _ hD) ⟨X.trans X5, ?_⟩⟩⟩
      rw [take_snoc hc, List.map_append, List.map_append, ← e]
      rfl
    · obtain ⟨X, rfl⟩ := h
      rw [List.length_map, lcs, List.take_length] at hA2
      refine ⟨A, _, rfl, sq_lst hA2, ?_⟩
      have es : (cs0.map fun c => (c.card.wt : Int)).sum = (wtL (cardL cs0) : Nat) := by
        clear wsum hA2 lw lcs hN1 hin hiw
        induction cs0 with
        | nil => rfl
        | cons y r ih =>
          rw [List.map_cons, List.sum_cons, ih]
          show (y.card.wt : Int) + (wtL (cardL r) : Nat) = ((y.card.wt + wtL (cardL r) : Nat) : Int)
          omega
      rw [es]
      have q := q G2 (X1.trans X)
      rw [wsum] at q
      exact ⟨_, _, rfl, rfl, q⟩
theorem ok__law_many {P : Program} {w : World} {K : PySem.W.Frag} {mg : Str → Option Value} {base : Heap} (T : Env K mg) {d L : Nat} (hL : 60 ≤ L) (r__law_many : Fc P w K mg base L (He.ga K "_law_many") [] (sp__law_many K d)) : Fc P w K mg base (L + 1) (He.ga K "_law_many") [] (sp__law_many K (d + 1)) := by
  obtain ⟨fd, D, F⟩ := fb__law_many T hL r__law_many
  exact F.all (D.bindsN fun _ _ _ _ _ _ us hl => match us, hl with | [_], _ => rfl)
theorem all_many {P : Program} {w : World} {K : PySem.W.Frag} {mg : Str → Option Value} {base : Heap} (T : Env K mg) : ∀ d, Fc P w K mg base (60 + d) (He.ga K "_law_many") [] (sp__law_many K d)
  | 0 => fc_no fun vs H Q E h => by
    obtain ⟨N, t, c, b, _, _, _, h, _⟩ := h
    have := c.card.wt_pos
    omega
  | d + 1 => ok__law_many T (Nat.le_add_right 60 _) (all_many T d)
end
section
def sp__law_lack (K : PySem.W.Frag) : SpP := fun p vs H Q _ => ∃ (a d : Addr) (z : Str), vs = [.ref a] ∧ p.1 = a ∧ Zc (.ref (He.ga K "NoLine")) (some d) p.2 ∧ (∃ vs, p.2.data = .fields vs) ∧ H d = some (.xd [("name", .str z)]) ∧ ∀ r H', Ex H H' → H r = none → H' r = some (.tup [.str "noline", .str z]) → Q (.ref r) H'
theorem fb__law_lack {P : Program} {w : World} {K : PySem.W.Frag} {mg : Str → Option Value} {base : Heap} (T : Env K mg) : ∃ fd, FunD K "_law_lack" "_law_lack" (defArgs s__law_lack) (defBody s__law_lack) (defScope s__law_lack) [] [] (He.ga K "_law_lack") fd ∧ FbP P w K mg base 1 (He.ga K "_law_lack") fd ["_law_e"] (sp__law_lack K) := by
  obtain ⟨fd, F⟩ := T.f__law_lack
  refine ⟨fd, F, fbP_of F sc__law_lack (fun p vs H Q E h => ?_) (fun cdv A outer s H vs Q E p hr h => ?_)⟩
  · obtain ⟨a, d, z, rfl, _⟩ := h
    rfl
  · obtain ⟨b, oe⟩ := p
    obtain ⟨a, d, z, rfl, e, hz, hf, hd, q⟩ := h
    dsimp only at e hz hf
    subst e
    have hp : (b, oe) ∈ [(b, oe)] := List.mem_singleton.mpr rfl
    refine ⟨_, (pss_cons (ps_if (PW.pt (pw_or (pt_not (pt_val (pe_callB (call_isP K hp hz hf) (by rfl) T.n_isinstance (by decide +kernel) (pa_cons (pv 0) (pa_cons (pe_glob (v := .ref _) (by rfl) T.g_NoLine rfl) pa_nil))))) (pw_or (pt_not (pt_val (pe_callB (call_isP K hp hz hf) (by rfl) T.n_isinstance (by decide +kernel) (pa_cons (pv 0) (pa_cons (pe_bltn (v := .ty "LookupError") (by rfl) T.n_LookupError (by decide +kernel) rfl) pa_nil))))) (pw_or1 (pt_val (pe_callB (call_isPT K hp hz hf) (by rfl) T.n_isinstance (by decide +kernel) (pa_cons (pv 0) (pa_cons (pe_tup (pa_cons (pe_glob (v := .ref _) (by rfl) T.g_NoGoing rfl) (pa_cons (pe_glob (v := .ref _) (by rfl) T.g_GoingError rfl) (pa_cons (pe_glob (v := .ref _) (by rfl) T.g_BookError rfl) pa_nil)))) pa_nil))))))))
      (pss_one (ps_ret (pe_tup (pa_cons pe_str pa_nil))))
      pss_nil)
      (pss_one (ps_ret (pe_tup (pa_cons pe_str (pa_cons (pe_xfP K hp hz hf (pv 0)) pa_nil)))))), ?_⟩
    refine ⟨_, rfl, _, _, _, true, rfl, T.xc_NoLine, .inr ⟨_, _, rfl, hd⟩, rfl, .own _, T.kit_NoLine_NoLine, _, rfl, iteF ?_⟩
    refine ⟨_, rfl, _, _, _, true, rfl, T.xc_NoLine, .inr ⟨_, _, rfl, hd⟩, rfl, .ty _, T.kit_NoLine_LookupError, _, rfl, iteF ?_⟩
    refine ⟨_, rfl, by show 3 ≤ sizeLine; decide, fun a1 n1 => ?_⟩
    have X1 := ex_new (o := HO.tup [V.ref (He.ga K "NoGoing"), V.ref (He.ga K "GoingError"), V.ref (He.ga K "BookError")]) n1
    refine ⟨_, a1, _, _, false, rfl, T.xc_NoLine, .inr ⟨_, _, rfl, X1 _ _ hd⟩, rfl, upd_same, .cons (.own _) (.cons (.own _) (.cons (.own _) .nil)), kitAny_cons T.kit_NoLine_NoGoing (fun _ => kitAny_cons T.kit_NoLine_GoingError (fun _ => kitAny_cons T.kit_NoLine_BookError (fun _ => kitAny_nil) (by decide)) (by decide)) (by decide), _, rfl, iteF ?_⟩
    refine ⟨_, rfl, rfl, _, d, _, _, rfl, T.xf_NoLine, T.a_NoLine_name, rfl, X1 _ _ hd, rfl, ?_⟩
    refine ⟨by show 2 ≤ sizeLine; decide, fun r nr => ?_⟩
    exact q r _ (X1.trans (ex_new nr)) (ex_fresh X1 nr) upd_same
theorem ok__law_lack {P : Program} {w : World} {K : PySem.W.Frag} {mg : Str → Option Value} {base : Heap} (T : Env K mg) : FcP P w K mg base 1 (He.ga K "_law_lack") (sp__law_lack K) := by
  obtain ⟨fd, D, F⟩ := fb__law_lack T
  exact F.all (D.bindsN fun _ _ _ _ _ _ us hl => match us, hl with | [_], _ => rfl)
end
section
def sp__law_no (K : PySem.W.Frag) : SpP := fun p vs H Q _ => ∃ (a : Addr), vs = [.ref a] ∧ p.1 = a ∧ Zc (.ref (He.ga K "NoTime")) none p.2 ∧ (∃ vs, p.2.data = .fields vs) ∧ ∀ r H', Ex H H' → H r = none → H' r = some (.tup [.str "notime"]) → Q (.ref r) H'
theorem fb__law_no {P : Program} {w : World} {K : PySem.W.Frag} {mg : Str → Option Value} {base : Heap} (T : Env K mg) : ∃ fd, FunD K "_law_no" "_law_no" (defArgs s__law_no) (defBody s__law_no) (defScope s__law_no) [] [] (He.ga K "_law_no") fd ∧ FbP P w K mg base 1 (He.ga K "_law_no") fd ["_law_e"] (sp__law_no K) := by
  obtain ⟨fd, F⟩ := T.f__law_no
  refine ⟨fd, F, fbP_of F sc__law_no (fun p vs H Q E h => ?_) (fun cdv A outer s H vs Q E p hr h => ?_)⟩
  · obtain ⟨a, rfl, _⟩ := h
    rfl
  · obtain ⟨b, oe⟩ := p
    obtain ⟨a, rfl, e, hz, hf, q⟩ := h
    dsimp only at e hz hf
    subst e
    have hp : (b, oe) ∈ [(b, oe)] := List.mem_singleton.mpr rfl
    refine ⟨_, (pss_cons (ps_if (PW.pt (pw_or (pt_not (pt_val (pe_callB (call_isP K hp hz hf) (by rfl) T.n_isinstance (by decide +kernel) (pa_cons (pv 0) (pa_cons (pe_glob (v := .ref _) (by rfl) T.g_NoTime rfl) pa_nil))))) (pw_or (pt_not (pt_val (pe_callB (call_isP K hp hz hf) (by rfl) T.n_isinstance (by decide +kernel) (pa_cons (pv 0) (pa_cons (pe_bltn (v := .ty "ValueError") (by rfl) T.n_ValueError (by decide +kernel) rfl) pa_nil))))) (pw_or1 (pt_val (pe_callB (call_isPT K hp hz hf) (by rfl) T.n_isinstance (by decide +kernel) (pa_cons (pv 0) (pa_cons (pe_tup (pa_cons (pe_glob (v := .ref _) (by rfl) T.g_NoCard rfl) (pa_cons (pe_glob (v := .ref _) (by rfl) T.g_LackError rfl) (pa_cons (pe_glob (v := .ref _) (by rfl) T.g_BookError rfl) pa_nil)))) pa_nil))))))))
      (pss_one (ps_ret (pe_tup (pa_cons pe_str pa_nil))))
      pss_nil)
      (pss_one (ps_ret (pe_tup (pa_cons pe_str pa_nil))))), ?_⟩
    refine ⟨_, rfl, _, _, _, true, rfl, T.xc_NoTime, .inl rfl, rfl, .own _, T.kit_NoTime_NoTime, _, rfl, iteF ?_⟩
    refine ⟨_, rfl, _, _, _, true, rfl, T.xc_NoTime, .inl rfl, rfl, .ty _, T.kit_NoTime_ValueError, _, rfl, iteF ?_⟩
    refine ⟨_, rfl, by show 3 ≤ sizeLine; decide, fun a1 n1 => ?_⟩
    have X1 := ex_new (o := HO.tup [V.ref (He.ga K "NoCard"), V.ref (He.ga K "LackError"), V.ref (He.ga K "BookError")]) n1
    refine ⟨_, a1, _, _, false, rfl, T.xc_NoTime, .inl rfl, rfl, upd_same, .cons (.own _) (.cons (.own _) (.cons (.own _) .nil)), kitAny_cons T.kit_NoTime_NoCard (fun _ => kitAny_cons T.kit_NoTime_LackError (fun _ => kitAny_cons T.kit_NoTime_BookError (fun _ => kitAny_nil) (by decide)) (by decide)) (by decide), _, rfl, iteF ?_⟩
    refine ⟨by show 1 ≤ sizeLine; decide, fun r nr => ?_⟩
    exact q r _ (X1.trans (ex_new nr)) (ex_fresh X1 nr) upd_same
theorem ok__law_no {P : Program} {w : World} {K : PySem.W.Frag} {mg : Str → Option Value} {base : Heap} (T : Env K mg) : FcP P w K mg base 1 (He.ga K "_law_no") (sp__law_no K) := by
  obtain ⟨fd, D, F⟩ := fb__law_no T
  exact F.all (D.bindsN fun _ _ _ _ _ _ us hl => match us, hl with | [_], _ => rfl)
end
section
theorem GgAt.mono {K : PySem.W.Frag} {H H' : Hp} {x : V} {n : Nat} {r : Option (List Str)} (h : GgAt K H x n r) (e : Ex H H') : GgAt K H' x n r := by
  cases r with
  | none => exact h
  | some ws =>
    obtain ⟨g, rfl, h⟩ := h
    exact ⟨g, rfl, h.mono e⟩
def sp__law_asked (K : PySem.W.Frag) : Sp := fun vs H Q _ => ∃ (a : Addr) (c : CardD) (w : Nat) (m : V), vs = [.int (w : Nat), .ref a, m] ∧ CardAt K H c a ∧ c.ok ∧ c.wt ≤ 60 ∧ Cl K H m ∧
  (isM m = false → ∀ r H', Ex H H' → H r = none → H' r = some (.tup [.str "notime"]) → Q (.ref r) H') ∧
  (∀ n : Nat, m = .int (n : Nat) → (∀ z, c.fst = some z → ∀ r H', Ex H H' → H r = none → H' r = some (.tup [.str "noline", .str z]) → Q (.ref r) H') ∧ (c.fst = none → w = 0 ∧ ∀ r x H', Ex H H' → H r = none → GgAt K H' x n (c.nts n) → H' r = some (.tup [.str "told", x]) → Q (.ref r) H'))
theorem fb__law_asked {P : Program} {w : World} {K : PySem.W.Frag} {mg : Str → Option Value} {base : Heap} (T : Env K mg) : ∃ fd, FunD K "_law_asked" "_law_asked" (defArgs s__law_asked) (defBody s__law_asked) (defScope s__law_asked) [] [] (He.ga K "_law_asked") fd ∧ Fb P w K mg base 115 (He.ga K "_law_asked") fd ["_law_way", "_law_card_here", "_law_number"] (sp__law_asked K) := by
  obtain ⟨fd, F⟩ := T.f__law_asked
  refine ⟨fd, F, fb_of F sc__law_asked (fun vs H Q E h => ?_) (fun cdv A outer s H vs Q E hr h => ?_)⟩
  · obtain ⟨a, c, w, m, rfl, _⟩ := h
    rfl
  · obtain ⟨a, c, w, m, rfl, hA, hk, hw, hm, qt, qn⟩ := h
    refine ⟨_, (pss_cons (ps_set (i := 3) sc__law_asked.nd rfl (Or.inl rfl) (pe_tup pa_nil))
      (pss_cons (ps_try_two (i1 := 4) (i2 := 4) rfl rfl sc__law_asked.nd rfl rfl ⟨by rfl, by decide, .inl T.g_LackError⟩ rfl rfl ⟨by rfl, by decide, .inl T.g_GoingError⟩ (fun W pn xe tk po => (pss_one (ps_set (i := 3) sc__law_asked.nd rfl (Or.inl rfl) (pe_tup (pa_cons pe_str (pa_cons (pe_ifExp (pt_cmpR op_eq (pv 0) pe_int (nomark _)) (c_call (ok_going_at T) (hr.mono (by decide)) T.g_going_at T.k_going_at tk (pa_cons (pv 1) (pa_cons (pv 2) pa_nil))) (c_call (ok_goings_on T) (hr.mono (by decide)) T.g_goings_on T.k_goings_on tk (pa_cons (pv 1) (pa_cons (pv 2) pa_nil)))) pa_nil)))))) (fun a oe cls d pn hz hf => (pss_one (ps_set (i := 3) sc__law_asked.nd rfl (Or.inl rfl) (c_callP (ok__law_lack T) (roomM (hr.mono (by decide))) List.mem_cons_self hz hf T.g__law_lack T.k__law_lack takes0 (pa_cons (pv 4) pa_nil))))) (fun a oe cls d pn hz hf => (pss_one (ps_set (i := 3) sc__law_asked.nd rfl (Or.inl rfl) (c_callP (ok__law_no T) (roomM (hr.mono (by decide))) List.mem_cons_self hz hf T.g__law_no T.k__law_no takes0 (pa_cons (pv 4) pa_nil))))))
      (pss_one (ps_ret (pv 3))))), ?_⟩
    refine ⟨by decide, fun r0 n0 => ?_⟩
    have X0 := ex_new (o := HO.tup []) n0
    generalize upd H r0 (HO.tup []) = G at X0 ⊢
    have hA0 := hA.mono X0
    have cl0 : Cl K G m := hm.at fun a o _ e => X0 a o e
    obtain ⟨dx, hd, as, fs, h1, h2, h3, cc, lk, _⟩ := card_gen T hA0
    refine ⟨_, rfl, rfl, _, rfl, ?_⟩
    have cis : CdIs K G (.ref a) true := ⟨_, ty_ins cc.ins cc.cls h1, cc.isCard⟩
    by_cases w0 : w = 0
    · subst w0
      refine iteT ⟨_, rfl, _, rfl, .ref a, m, true, rfl, cis, nofun, fun _ => ⟨cl0, fun hm H' X' => ⟨false, T.exm_NoTime_LackError, nofun, fun _ => ⟨T.exm_NoTime_GoingError, fun e ne => ⟨_, rfl, fun oe hz hf => ⟨_, rfl, rfl, hz, hf, fun r H3 X3 nr h3 => ⟨_, rfl, ?_⟩⟩⟩⟩⟩, fun n en => ⟨a, c, rfl, hA0, hw, hk, fun z hz d H' X hd => ⟨true, T.exm_NoLine_LackError, fun _ e ne => ⟨_, rfl, fun oe hz' hf => ⟨_, d, z, rfl, rfl, hz', hf, hd, fun r H3 X3 nr h3 => ⟨_, rfl, ?_⟩⟩⟩, nofun⟩, fun hf z H' X' hg => ⟨by show 2 ≤ sizeLine; decide, fun r nr => ⟨_, rfl, ?_⟩⟩⟩⟩⟩
      · exact qt hm r H3 ((X0.trans X').trans X3) (ex_fresh (X0.trans X') nr) h3
      · exact (qn n en).1 z hz r H3 ((X0.trans X).trans X3) (ex_fresh (X0.trans X) nr) h3
      · have X1 := X0.trans X'
        have Xr := ex_new (o := HO.tup [V.str "told", z]) nr
        exact ((qn n en).2 hf).2 r z _ (X1.trans Xr) (ex_fresh X1 nr) (hg.mono Xr) upd_same
    · rw [decide_eq_false (show ¬ V.int (w : Nat) = V.int 0 from fun e => w0 (by injection e with e; omega))]
      refine iteF ⟨_, rfl, _, rfl, a, c, m, rfl, hA0, hw, cl0, fun hm H' X' => ⟨false, T.exm_NoTime_LackError, nofun, fun _ => ⟨T.exm_NoTime_GoingError, fun e ne => ⟨_, rfl, fun oe hz hf => ⟨_, rfl, rfl, hz, hf, fun r H3 X3 nr h3 => ⟨_, rfl, ?_⟩⟩⟩⟩⟩, fun n en => ?_⟩
      · exact qt hm r H3 ((X0.trans X').trans X3) (ex_fresh (X0.trans X') nr) h3
      cases hz : c.fst with
      | none => exact absurd ((qn n en).2 hz).1 w0
      | some z =>
        refine ⟨z, rfl, fun d H' X hd => ⟨true, T.exm_NoLine_LackError, fun _ e ne => ⟨_, rfl, fun oe hz' hf => ⟨_, d, z, rfl, rfl, hz', hf, hd, fun r H3 X3 nr h3 => ⟨_, rfl, ?_⟩⟩⟩, nofun⟩⟩
        exact (qn n en).1 z hz r H3 ((X0.trans X).trans X3) (ex_fresh (X0.trans X) nr) h3
theorem ok__law_asked {P : Program} {w : World} {K : PySem.W.Frag} {mg : Str → Option Value} {base : Heap} (T : Env K mg) : Fc P w K mg base 115 (He.ga K "_law_asked") [] (sp__law_asked K ) := by
  obtain ⟨fd, D, F⟩ := fb__law_asked T
  exact F.all (D.bindsN fun _ _ _ _ _ _ us hl => match us, hl with | [_, _, _], _ => rfl)
end
section
theorem okI_nat {n k : Nat} (h : n < 10 ^ k) (hk : k ≤ 150) : okI ((n : Nat) : Int) = true := decide_eq_true (by
  have h1 : n < 10 ^ 150 := Nat.lt_of_lt_of_le h (Nat.pow_le_pow_right (by decide) hk)
  have e : (10 : Nat) ^ 150 < 10 ^ 200 := by decide +kernel
  show ((n : Nat) : Int).natAbs < 10 ^ 200
  rw [Int.natAbs_natCast]
  omega)
end
section
theorem rr_pair {K : PySem.W.Frag} {H : Hp} {p q : Addr} {n : Nat} {ws : List Str} {Q : VK} (hp : H p = some (.tup [.int (n : Nat), .ref q])) (hq : H q = some (.tup (ws.map V.str))) (hn : n < 10 ^ 80) (nw : Nms ws) (lw : ws.length ≤ 1000) (k : Q (.str (PyData.shown (.tuple [.int (n : Nat), .tuple (strD ws)]))) H) : rRepr K [.ref p] H Q := by
  have i1 := okI_nat (n := n) hn (by decide)
  refine rr_data (.tup (sq_tup hp) (.cons (.int _) (.cons (.tup (sq_tup hq) (dp_strs K H ws)) .nil))) ?_ ?_ ?_ k
  · show (okI ((n : Nat) : Int) && (okL (strD ws) && true)) = true
    rw [i1, strD_ok ws nw]
    rfl
  · show 1921 + 2 + (szL (strD ws) + 3 + 2 + 0) + 3 ≤ 16000000
    have := strD_sz ws nw
    omega
  · show max 0 (max (PyData.depthAll (strD ws) + 1) 0) + 1 ≤ 60
    rw [strD_dep]
    decide
def sp__law_told_right (K : PySem.W.Frag) : Sp := fun vs H Q _ => ∃ (N : Addr → Prop) (t a : Addr) (c : TelD) (b n : Nat), vs = [.ref t, .ref a, .int (n : Nat)] ∧ TelN N H c t ∧ CardAt K H c.card a ∧ c.ok b ∧ c.card.wt ≤ 60 ∧ c.card.fst = none ∧ n < 10 ^ 80 ∧ ∀ H', Ex H H' → Q (.bl true) H'
theorem fb__law_told_right {P : Program} {w : World} {K : PySem.W.Frag} {mg : Str → Option Value} {base : Heap} (T : Env K mg) : ∃ fd, FunD K "_law_told_right" "_law_told_right" (defArgs s__law_told_right) (defBody s__law_told_right) (defScope s__law_told_right) [] [] (He.ga K "_law_told_right") fd ∧ Fb P w K mg base 150 (He.ga K "_law_told_right") fd ["_law_told", "_law_card_here", "_law_moment"] (sp__law_told_right K) := by
  obtain ⟨fd, F⟩ := T.f__law_told_right
  refine ⟨fd, F, fb_of F sc__law_told_right (fun vs H Q E h => ?_) (fun cdv A outer s H vs Q E hr h => ?_)⟩
  · obtain ⟨N, t, a, c, b, n, rfl, _⟩ := h
    rfl
  · obtain ⟨N, t, a, c, b, n, rfl, ht, hA, hk, hw, hf, hn, q⟩ := h
    refine ⟨_, (pss_cons (ps_set (i := 3) sc__law_told_right.nd rfl (Or.inl rfl) (c_call (all_notes_told T 60) (hr.mono (by decide)) T.g__law_notes T.k__law_notes takes0 (pa_cons (pv 0) (pa_cons (pv 2) pa_nil))))
      (pss_cons (ps_set (i := 4) sc__law_told_right.nd rfl (Or.inl rfl) (c_call (ok__law_asked T) (hr.mono (by decide)) T.g__law_asked T.k__law_asked takes0 (pa_cons pe_int (pa_cons (pv 1) (pa_cons (pv 2) pa_nil)))))
      (pss_cons (ps_if (PW.pt (pw_or (pt_cmpR op_ne (pe_callB call_len (by rfl) T.n_len (by decide +kernel) (pa_cons (pv 4) pa_nil)) pe_int (nomark _)) (pw_or1 (pt_cmpR op_ne (pe_ix ix_tup (pv 4) pe_int (fun _ _ => rfl)) pe_str (nomark _)))))
      (pss_one (ps_ret pe_bl))
      pss_nil)
      (pss_cons (ps_if (PW.pt (pw_or (pt_cmpR op_isN (pv 3) pe_non (nomark _)) (pw_or1 (pt_cmpR op_isN (pe_ix ix_tup (pv 4) pe_int (fun _ _ => rfl)) pe_non (nomark _)))))
      (pss_one (ps_ret (pe_and (pe_cmpR op_isN (pv 3) pe_non (nomark _)) (pe_one (pe_cmpR op_isN (pe_ix ix_tup (pv 4) pe_int (fun _ _ => rfl)) pe_non (nomark _))))))
      pss_nil)
      (pss_one (ps_ret (pe_and (pe_callB call_isi (by rfl) T.n_isinstance (by decide +kernel) (pa_cons (pe_ix ix_tup (pv 4) pe_int (fun _ _ => rfl)) (pa_cons (pe_glob (v := .ref _) (by rfl) T.g_Going rfl) pa_nil))) (pe_one (pe_cmpR op_eq (pe_callB (call_repr hr) (by rfl) T.n_repr (by decide +kernel) (pa_cons (pe_tup (pa_cons (pe_fld (pe_ix ix_tup (pv 4) pe_int (fun _ _ => rfl)) (by rfl)) (pa_cons (pe_fld (pe_ix ix_tup (pv 4) pe_int (fun _ _ => rfl)) (by rfl)) pa_nil))) pa_nil)) (pe_callB (call_repr hr) (by rfl) T.n_repr (by decide +kernel) (pa_cons (pe_tup (pa_cons (pv 2) (pa_cons (pv 3) pa_nil))) pa_nil)) (nomark _)))))))))), ?_⟩
    have ck := c.card_ok hk
    have cn := c.canon n hk
    have cno := fun ws (e : c.card.nts n = some ws) => CardD.nts_ok c.card n ws ck e
    refine ⟨_, rfl, _, rfl, N, t, c, b, n, rfl, ht, hk, hw, hw, hf, fun x H1 X1 hx => ?_⟩
    refine ⟨_, rfl, _, rfl, a, c.card, 0, .int (n : Nat), rfl, hA.mono X1, ck, hw, cl_int _, fun e => ?_, fun n' en => ?_⟩
    · exact absurd e (by
        show ¬ (true && decide (0 ≤ ((n : Nat) : Int))) = false
        rw [decide_eq_true (by omega)]
        nofun)
    obtain rfl : n = n' := by
      injection en with en
      omega
    refine ⟨fun z hz => (nomatch hf.symm.trans hz), fun _ => ⟨rfl, fun r y H2 X2 nr hg hr => ?_⟩⟩
    have X12 := X1.trans X2
    have lenr : LenV K (.ref r) H2 2 := .inr ⟨_, sq_tup hr, rfl⟩
    cases e : c.card.nts n with
    | none =>
      rw [e] at hx hg
      obtain rfl : x = .non := hx
      obtain rfl : y = .non := hg
      refine ⟨_, rfl, _, _, rfl, lenr, rfl, _, rfl, _, rfl, _, _, _, _, rfl, rfl, (sq_tup hr), rfl, rfl, _, rfl, _, rfl, rfl, _, rfl, _, rfl, rfl, _, rfl, _, rfl, _, _, _, _, rfl, rfl, (sq_tup hr), rfl, rfl, ?_⟩
      rw [decide_eq_true rfl]
      exact q H2 X12
    | some ws =>
      rw [e] at hx hg cn
      obtain ⟨p, rfl, hp⟩ := hx
      obtain ⟨g, rfl, dx, kp, hg1, hg2, _⟩ := hg
      rw [(cn ws rfl).2] at hg2
      obtain ⟨k1, k2, k3⟩ := cno ws e
      refine ⟨_, rfl, _, _, rfl, lenr, rfl, _, rfl, _, rfl, _, _, _, _, rfl, rfl, (sq_tup hr), rfl, rfl, _, rfl, _, rfl, rfl, _, rfl, ?_⟩
      rw [decide_eq_false (show ¬ V.ref p = V.non from nofun)]
      refine iteF ?_
      refine ⟨_, rfl, _, _, _, _, rfl, rfl, (sq_tup hr), rfl, rfl, _, rfl, ?_⟩
      rw [decide_eq_false (show ¬ V.ref g = V.non from nofun)]
      refine iteF ?_
      refine ⟨_, rfl, _, _, _, _, rfl, rfl, (sq_tup hr), rfl, ?_⟩
      refine ⟨_, _, _, _, true, rfl, .own _, ty_ins T.i_Going T.c_Going hg1, T.kit_Going_Going, _, rfl, iteT ?_⟩
      refine ⟨_, rfl, _, _, _, _, rfl, rfl, (sq_tup hr), rfl, ?_⟩
      have hp2 := X2 _ _ hp
      refine ⟨_, _, _, _, _, rfl, hg1, T.c_Going, T.a_Going_moment, rfl, _, rfl, _, _, _, _, rfl, rfl, sq_tup hr, rfl, _, _, _, _, _, rfl, hg1, T.c_Going, T.a_Going_notes, rfl, by show 2 ≤ sizeLine; decide, fun u nu => ?_⟩
      have Xu := ex_new (o := HO.tup [V.int (n : Nat), V.ref kp]) nu
      refine rr_pair (K := K) upd_same (Xu _ _ hg2) hn k1 (by omega) ?_
      refine ⟨_, rfl, _, rfl, by show 2 ≤ sizeLine; decide, fun u2 nu2 => ?_⟩
      have Xu2 := ex_new (o := HO.tup [V.int (n : Nat), V.ref p]) nu2
      refine rr_pair (K := K) upd_same (Xu2 _ _ (Xu _ _ hp2)) hn k1 (by omega) ⟨rfl, ?_⟩
      rw [decide_eq_true rfl]
      exact q _ ((X12.trans Xu).trans Xu2)
theorem ok__law_told_right {P : Program} {w : World} {K : PySem.W.Frag} {mg : Str → Option Value} {base : Heap} (T : Env K mg) : Fc P w K mg base 150 (He.ga K "_law_told_right") [] (sp__law_told_right K ) := by
  obtain ⟨fd, D, F⟩ := fb__law_told_right T
  exact F.all (D.bindsN fun _ _ _ _ _ _ us hl => match us, hl with | [_, _, _], _ => rfl)
end
section
theorem card_size {K : PySem.W.Frag} {mg : Str → Option Value} (T : Env K mg) (c : CardD) : Meth K (cdCls K c) "size" (He.ma K (CardC K) "size") := by
  cases c with
  | once ts ws => exact T.e_Once_size ▸ T.m_Once_size
  | every D ts ws => exact T.e_Every_size ▸ T.m_Every_size
  | join cs => exact T.e_Join_size ▸ T.m_Join_size
  | less c d => exact T.e_Less_size ▸ T.m_Less_size
  | swap c D d => exact T.e_Swap_size ▸ T.m_Swap_size
  | later c m => exact T.e_Later_size ▸ T.m_Later_size
  | noted c z => exact T.e_Noted_size ▸ T.m_Noted_size
  | as_ z => exact T.e_As_size ▸ T.m_As_size
theorem inn_inner (c : TelD) : c.card.inner = cardL c.inn := by
  cases c <;> rfl
mutual
theorem fst_nm {z : Str} : ∀ {c : CardD}, c.ok → c.fst = some z → nmN z.cps.toList = true
  | .once ts ws, _, e => nomatch e
  | .every D ts ws, _, e => nomatch e
  | .as_ y, h, e => by
    rw [CardD.fst] at e
    cases e
    exact h
  | .join cs, h, e => by
    rw [CardD.fst] at e
    unfold CardD.ok at h
    exact fstL_nm h.1 e
  | .less c d, h, e => by
    rw [CardD.fst] at e
    unfold CardD.ok at h
    cases e1 : c.fst with
    | some y =>
      rw [e1] at e
      cases e
      exact fst_nm h.1 e1
    | none =>
      rw [e1] at e
      exact fst_nm h.2 e
  | .swap c D d, h, e => by
    rw [CardD.fst] at e
    unfold CardD.ok at h
    cases e1 : c.fst with
    | some y =>
      rw [e1] at e
      cases e
      exact fst_nm h.1 e1
    | none =>
      rw [e1] at e
      exact fst_nm h.2.2 e
  | .later c m, h, e => by
    rw [CardD.fst] at e
    unfold CardD.ok at h
    exact fst_nm h.1 e
  | .noted c y, h, e => by
    rw [CardD.fst] at e
    unfold CardD.ok at h
    exact fst_nm h.1 e
theorem fstL_nm {z : Str} : ∀ {cs : List CardD}, okCs cs → fstL cs = some z → nmN z.cps.toList = true
  | [], _, e => nomatch e
  | c :: cs, h, e => by
    unfold okCs at h
    rw [fstL_cons] at e
    cases e1 : c.fst with
    | some y =>
      rw [e1] at e
      cases e
      exact fst_nm h.1 e1
    | none =>
      rw [e1] at e
      exact fstL_nm h.2 e
end
theorem noline_lay {z : Str} (h : nmN z.cps.toList = true) : SeqAt.shaped (.tuple [.str "noline", .str z]) = true ∧ PyData.canLay0 (.tuple [.str "noline", .str z]) = true := by
  have e : PyData.canLay0 (.tuple [.str "noline", .str z]) = true := by
    show (PyData.strOk "noline" && (PyData.strOk z && true)) = true
    rw [strOk_nm h, show PyData.strOk "noline" = true by decide +kernel]
    rfl
  refine ⟨?_, e⟩
  unfold SeqAt.shaped
  rw [e]
  rfl
def sp__law_lack_right (K : PySem.W.Frag) (d : Nat) : Sp := fun vs H Q _ => ∃ (N : Addr → Prop) (t a : Addr) (c : TelD) (b n : Nat), vs = [.ref t, .ref a, .int (n : Nat)] ∧ TelN N H c t ∧ CardAt K H c.card a ∧ c.ok b ∧ c.card.wt ≤ d ∧ c.card.wt ≤ 60 ∧ n < 10 ^ 80 ∧ ∀ H', Ex H H' → Q (.bl true) H'
theorem fb__law_lack_right {P : Program} {w : World} {K : PySem.W.Frag} {mg : Str → Option Value} {base : Heap} (T : Env K mg) {d L : Nat} (hL : 155 ≤ L) (r__law_lack_right : Fc P w K mg base L (He.ga K "_law_lack_right") [] (sp__law_lack_right K d)) : ∃ fd, FunD K "_law_lack_right" "_law_lack_right" (defArgs s__law_lack_right) (defBody s__law_lack_right) (defScope s__law_lack_right) [] [] (He.ga K "_law_lack_right") fd ∧ Fb P w K mg base (L + 1) (He.ga K "_law_lack_right") fd ["_law_told", "_law_card_here", "_law_moment"] (sp__law_lack_right K (d + 1)) := by
  obtain ⟨fd, F⟩ := T.f__law_lack_right
  refine ⟨fd, F, fb_of F sc__law_lack_right (fun vs H Q E h => ?_) (fun cdv A outer s H vs Q E hr h => ?_)⟩
  · obtain ⟨N, t, a, c, b, n, rfl, _⟩ := h
    rfl
  · obtain ⟨N, t, a, c, b, n, rfl, ht, hA, hk, hwd, hw, hn, q⟩ := h
    refine ⟨_, (pss_cons (ps_set (i := 3) sc__law_lack_right.nd rfl (Or.inl rfl) (c_call (all_first T 60) (hr.mono (by omega)) T.g__law_first T.k__law_first takes0 (pa_cons (pv 0) pa_nil)))
      (pss_cons (ps_if (pt_cmpR op_ne (pe_callB SkE.call_repr_int (by rfl) T.n_repr (by decide +kernel) (pa_cons (c_methV0 (k := 60) (pv 1) (hr.mono (by omega)) takes0) pa_nil)) (pe_callB SkE.call_repr_int (by rfl) T.n_repr (by decide +kernel) (pa_cons (c_call (all_many T 60) (hr.mono (by omega)) T.g__law_many T.k__law_many takes0 (pa_cons (pv 0) pa_nil)) pa_nil)) (nomark _))
      (pss_one (ps_ret pe_bl))
      pss_nil)
      (pss_cons (ps_if (pt_cmpR op_isN (pv 3) pe_non (nomark _))
      (pss_one (ps_ret (c_call (ok__law_told_right T) (hr.mono (by omega)) T.g__law_told_right T.k__law_told_right takes0 (pa_cons (pv 0) (pa_cons (pv 1) (pa_cons (pv 2) pa_nil))))))
      pss_nil)
      (pss_cons (ps_for (passes_of rfl) rfl (pi_range1 (by rfl) T.n_range (pa_cons pe_int pa_nil)) (pg_name (i := 4) sc__law_lack_right.nd rfl (Or.inl rfl))
      (pss_cons (ps_for (passes_of rfl) rfl (pi_list (pe_lst (pa_cons (pv 2) (pa_cons pe_int (pa_cons (pe_op op_fdiv (pv 2) pe_int) pa_nil))))) (pg_name (i := 5) sc__law_lack_right.nd rfl (Or.inl rfl))
      (pss_one (ps_if (pt_cmpR (op_neD hr.rm.units) (c_call (ok__law_asked T) (hr.mono (by omega)) T.g__law_asked T.k__law_asked takes0 (pa_cons (pv 4) (pa_cons (pv 1) (pa_cons (pv 5) pa_nil)))) (pe_tup (pa_cons pe_str (pa_cons (pv 3) pa_nil))) (nomark _))
      (pss_one (ps_ret pe_bl))
      pss_nil)))
      (pss_one (ps_for (passes_of rfl) rfl (pi_list (pe_lst (pa_cons (pe_un un_neg pe_int) (pa_cons pe_bl (pa_cons pe_non (pa_cons pe_str pa_nil)))))) (pg_name (i := 6) sc__law_lack_right.nd rfl (Or.inl rfl))
      (pss_one (ps_if (pt_cmpR (op_neD hr.rm.units) (c_call (ok__law_asked T) (hr.mono (by omega)) T.g__law_asked T.k__law_asked takes0 (pa_cons (pv 4) (pa_cons (pv 1) (pa_cons (pv 6) pa_nil)))) (pe_tup (pa_cons pe_str pa_nil)) (nomark _))
      (pss_one (ps_ret pe_bl))
      pss_nil))))))
      (pss_cons (ps_set (i := 7) sc__law_lack_right.nd rfl (Or.inl rfl) (L3.pe_listZip rfl (by rfl) T.n_list (by rfl) T.n_zip (pa_cons (c_call (ok__law_inner T) (hr.mono (by omega)) T.g__law_inner T.k__law_inner takes0 (pa_cons (pv 0) pa_nil)) (pa_cons (c_methV0 (k := 60) (pv 1) (hr.mono (by omega)) takes0) pa_nil))))
      (pss_one (ps_ret (pe_callB (cr_all rfl) (by rfl) T.n_all (by decide +kernel) (pa_cons (pe_lc (own := [("_law_one", 8), ("_law_part", 9)]) (by rfl) sc__law_lack_right.nd (pi_list (pv 7)) (blkOk_by (own := [("_law_one", 8), ("_law_part", 9)]) (N := ["_law_told", "_law_card_here", "_law_moment", "_law_name_here", "_law_way", "_law_number", "_law_thing", "_law_parts", "_law_one", "_law_part"]) (sc := defScope s__law_lack_right) (by decide +kernel)) (fun _ _ _ _ _ => (pg_tupK K (n := 2) rfl (pgs_cons (pg_name (i := 8) sc__law_lack_right.nd rfl (Or.inl rfl)) (pgs_cons (pg_name (i := 9) sc__law_lack_right.nd rfl (Or.inl rfl)) pgs_nil)))) (fun _ _ _ _ _ => pts_nil) (fun _ _ _ _ _ => (c_call r__law_lack_right (hr.mono (by omega)) T.g__law_lack_right T.k__law_lack_right takes0 (pa_cons (pv 8) (pa_cons (pv 9) (pa_cons (pv 2) pa_nil)))))) pa_nil))))))))), ?_⟩
    have ck := c.card_ok hk
    have l60 : ((c.card.wt : Nat) : Int).natAbs.log2 < 1920 := by
      rw [Int.natAbs_natCast]
      exact Nat.lt_of_le_of_lt (Nat.log2_le_self _) (by omega)
    refine ⟨_, rfl, N, t, c, rfl, ht, hw, hw, fun H1 X1 => ?_⟩
    obtain ⟨dx, hd, as, fs, ha, hh, hin, cc, lk, _, _, lsz⟩ := card_gen T (hA.mono X1)
    refine ⟨_, rfl, a, _, dx, _, _, rfl, ha, cc.cls, card_size T c.card, lsz, _, (ok_Card_size T).mono (by decide), a, _, dx, hd, _, _, rfl, ha, cc.cls, cc.weight, ?_⟩
    refine ⟨_, rfl, l60, _, rfl, N, t, c, b, rfl, ht.mono X1, hk, hw, hw, fun H2 X2 => ⟨_, rfl, l60, rfl, _, rfl, ?_⟩⟩
    rw [decide_eq_true rfl]
    refine iteF ?_
    have X12 := X1.trans X2
    cases hf : c.card.fst with
    | none =>
      exact ⟨_, rfl, rfl, _, rfl, iteT ⟨_, rfl, _, rfl, _, rfl, N, t, a, c, b, n, rfl, ht.mono X12, hA.mono X12, hk, hw, hf, hn, fun H3 X3 => q H3 (X12.trans X3)⟩⟩
    | some z =>
    refine ⟨_, rfl, rfl, _, rfl, iteF ?_⟩
    have nz := fst_nm ck hf
    obtain ⟨s1, s2⟩ := noline_lay nz
    refine ⟨_, rfl, by decide, by decide, for_range (fun i σ G => Ex H2 G ∧ ∃ v4 v5 v6 v7 v8 v9, σ = [some (.ref t), some (.ref a), some (.int (n : Nat)), some (.str z), v4, v5, v6, v7, v8, v9]) ⟨.refl _, _, _, _, _, _, _, rfl⟩ ?_ ?_⟩
    · rintro i σ G hi ⟨XG, v4, v5, v6, v7, v8, v9, rfl⟩
      have X2G := X12.trans XG
      have ev : (V.int (0 + (i : Nat))) = V.int ((i : Nat) : Int) := by rw [Int.zero_add]
      have asked : ∀ (G0 : Hp) (m : V) (QQ : VK) (EE : XK), Ex G G0 → Cl K G0 m → (isM m = false → ∀ r H', Ex G0 H' → G0 r = none → H' r = some (.tup [.str "notime"]) → QQ (.ref r) H') → ((∃ k : Nat, m = .int (k : Nat)) → ∀ r H', Ex G0 H' → G0 r = none → H' r = some (.tup [.str "noline", .str z]) → QQ (.ref r) H') → sp__law_asked K [V.int (0 + (i : Nat)), .ref a, m] G0 QQ EE := fun G0 m QQ EE X0 hm qt qn => by
        rw [ev]
        exact ⟨a, c.card, i, m, rfl, hA.mono (X2G.trans X0), ck, hw, hm, qt, fun k ek => ⟨fun z' hz' r H' X nr hr => qn ⟨k, ek⟩ r H' X nr (by rw [hf] at hz'; cases hz'; exact hr), fun e => nomatch hf.symm.trans e⟩⟩
      refine ⟨_, rfl, _, rfl, _, _, rfl, rfl, ⟨by decide, by decide⟩, by show 3 ≤ sizeLine; decide, fun u nu => ?_⟩
      have e3 : [V.int ((n : Nat) : Int), V.int 0, (fun i j : Int => V.int (i / j)) ((n : Nat) : Int) 1440] = natV [n, 0, n / 1440] := by
        show [V.int ((n : Nat) : Int), V.int 0, V.int (((n : Nat) : Int) / 1440)] = [V.int ((n : Nat) : Int), V.int ((0 : Nat) : Int), V.int ((n / 1440 : Nat) : Int)]
        rw [Int.natCast_ediv]
        rfl
      rw [e3]
      have Xu := ex_new (o := HO.lst (natV [n, 0, n / 1440])) nu
      have hu : upd G u (HO.lst (natV [n, 0, n / 1440])) u = some (HO.lst (natV [n, 0, n / 1440])) := upd_same
      generalize upd G u (HO.lst (natV [n, 0, n / 1440])) = G1 at Xu hu ⊢
      refine ⟨u, rfl, ⟨_, sq_lst hu⟩, for_on [n, 0, n / 1440] (fun n : Nat => V.int n) L2.walk_list (fun j σ G' => Ex G1 G' ∧ ∃ v5 v6 v7 v8 v9, σ = [some (.ref t), some (.ref a), some (.int (n : Nat)), some (.str z), some (V.int (0 + (i : Nat))), v5, v6, v7, v8, v9]) ⟨.refl _, _, _, _, _, _, rfl⟩ (fun j σ G' e => sq_lst (e.1 _ _ hu)) ?_ ?_⟩
      · rintro j k σ G' hk' ⟨XG1, v5, v6, v7, v8, v9, rfl⟩
        refine ⟨_, rfl, _, rfl, _, rfl, ?_⟩
        dsimp only [tNil]
        refine asked G' (.int (k : Nat)) _ _ (Xu.trans XG1) (cl_int _) (fun e => ?_) fun _ r G3 X3 nr hr => ?_
        · exact absurd e (by
            show ¬ (true && decide (0 ≤ ((k : Nat) : Int))) = false
            rw [decide_eq_true (by omega)]
            nofun)
        refine ⟨_, rfl, by show 2 ≤ sizeLine; decide, fun w2 nw2 => ?_⟩
        have Xw := ex_new (o := HO.tup [V.str "noline", V.str z]) nw2
        refine ⟨_, _, .tup (sq_tup (Xw _ _ hr)) (.cons (.str _) (.cons (.str _) .nil)), .tup (sq_tup upd_same) (.cons (.str _) (.cons (.str _) .nil)), s1, s1, _, rfl, ?_⟩
        rw [SeqAt.eqv_refl _ s2]
        exact iteF ⟨XG1.trans (X3.trans Xw), _, _, _, _, _, rfl⟩
      rintro σ G' ⟨XG1, v5, v6, v7, v8, v9, rfl⟩
      refine ⟨_, rfl, by show 4 ≤ sizeLine; decide, fun u4 nu4 => ?_⟩
      have Xu4 := ex_new (o := HO.lst ([V.int (-1), V.bl true, V.non, V.str "5"].map fun v => v)) nu4
      have hu4 : upd G' u4 (HO.lst ([V.int (-1), V.bl true, V.non, V.str "5"].map fun v => v)) u4 = some (HO.lst ([V.int (-1), V.bl true, V.non, V.str "5"].map fun v => v)) := upd_same
      have X14 := (Xu.trans XG1).trans Xu4
      refine ⟨u4, rfl, ⟨_, sq_lst hu4⟩, for_on [V.int (-1), V.bl true, V.non, V.str "5"] (fun v => v) L2.walk_list (fun j σ G2 => Ex (upd G' u4 (HO.lst ([V.int (-1), V.bl true, V.non, V.str "5"].map fun v => v))) G2 ∧ ∃ v5 v6 v7 v8 v9, σ = [some (.ref t), some (.ref a), some (.int (n : Nat)), some (.str z), some (V.int (0 + (i : Nat))), v5, v6, v7, v8, v9]) ⟨.refl _, _, _, _, _, _, rfl⟩ (fun j σ G2 e => sq_lst (e.1 _ _ hu4)) ?_ ?_⟩
      · rintro j x σ G2 hx ⟨XG2, v5, v6, v7, v8, v9, rfl⟩
        obtain ⟨cx, mx, nx⟩ : Cl K G2 x ∧ isM x = false ∧ ∀ k : Nat, x ≠ .int (k : Nat) := by
          have := List.mem_of_getElem? hx
          simp only [List.mem_cons, List.not_mem_nil, or_false] at this
          rcases this with rfl | rfl | rfl | rfl
          · exact ⟨cl_int _, rfl, fun k e => by injection e with e; omega⟩
          · exact ⟨cl_bl _, rfl, nofun⟩
          · exact ⟨cl_non, rfl, nofun⟩
          · exact ⟨cl_str _, rfl, nofun⟩
        refine ⟨_, rfl, _, rfl, _, rfl, ?_⟩
        dsimp only [tNil]
        refine asked G2 x _ _ (X14.trans XG2) cx (fun _ r G3 X3 nr hr => ?_) fun ⟨k, e⟩ => absurd e (nx k)
        refine ⟨by show 1 ≤ sizeLine; decide, fun w2 nw2 => ?_⟩
        have Xw := ex_new (o := HO.tup [V.str "notime"]) nw2
        refine ⟨_, _, .tup (sq_tup (Xw _ _ hr)) (.cons (.str _) .nil), .tup (sq_tup upd_same) (.cons (.str _) .nil), by decide +kernel, by decide +kernel, _, rfl, ?_⟩
        rw [SeqAt.eqv_refl _ (show PyData.canLay0 (.tuple [.str "notime"]) = true by decide +kernel)]
        exact iteF ⟨XG2.trans (X3.trans Xw), _, _, _, _, _, rfl⟩
      · rintro σ G2 ⟨XG2, v5, v6, v7, v8, v9, rfl⟩
        exact ⟨XG.trans (X14.trans XG2), _, _, _, _, _, _, rfl⟩
    rintro σ G ⟨XG, v4, v5, v6, v7, v8, v9, rfl⟩
    have X1G := X2.trans XG
    have X0G := X12.trans XG
    have len2 := hin.len
    rw [inn_inner, cardL_len] at len2
    refine ⟨_, rfl, _, _, _, rfl, ht.mono X0G, ?_⟩
    intro l1 as1 H4 X4 n1 hl1 hN1
    have len1 := hN1.len
    have X14 := X1G.trans X4
    refine ⟨_, rfl, a, _, dx, _, _, rfl, X14 _ _ ha, cc.cls, cc.inner, lk, _, (ok_Card_inner T).mono (by decide), a, _, dx, hd, _, _, _, rfl, X14 _ _ ha, cc.cls, cc.held, X14 _ _ hh, fun p np => ?_⟩
    have Xp := ex_new (o := HO.lst (as.map V.ref)) np
    have hp : upd H4 p (.lst (as.map V.ref)) p = some (.lst (as.map V.ref)) := upd_same
    generalize upd H4 p (.lst (as.map V.ref)) = H5 at Xp hp ⊢
    have wsum := inn_sum c
    have lw := wtL_len (cardL c.inn)
    rw [cardL_len] at lw
    refine ⟨_, _, _, _, rfl, sq_lst (Xp _ _ hl1), sq_lst hp, fun l2 ts H9 X9 nl2 hl2 lts hpr => ?_⟩
    rw [List.length_map, List.length_map, len1, len2, Nat.min_self] at lts
    have X49 := Xp.trans X9
    refine ⟨_, rfl, l2, rfl, ⟨_, sq_lst hl2⟩, fun A nA => lc_true_list (fun G => Ex H9 G) (fun G l e => ex_mut e nA) (.refl _) (by rw [List.length_map]; omega) (fun G e => sq_lst (e _ _ hl2)) (fun i x G acc Nx hx XG hD ls k => ?_) fun G XG hA2 => ?_⟩
    · rw [List.getElem?_map] at hx
      obtain ⟨t9, ht9, rfl⟩ := Option.map_eq_some_iff.mp hx
      obtain ⟨x1, y1, e1, e2, hT⟩ := hpr i t9 ht9
      rw [List.getElem?_map] at e1 e2
      obtain ⟨a1, ha1, rfl⟩ := Option.map_eq_some_iff.mp e1
      obtain ⟨a2, ha2, rfl⟩ := Option.map_eq_some_iff.mp e2
      obtain ⟨c9, hc9, hT9⟩ := hN1.get ha1
      obtain ⟨c8, hc8, hA9⟩ := hin.get ha2
      rw [inn_inner, cardL_map, List.getElem?_map, hc9] at hc8
      cases hc8
      have m9 := List.mem_of_getElem? hc9
      have w9 := TelD.inn_wt m9
      refine ⟨_, _, rfl, sq_tup (XG _ _ hT), rfl, ?_⟩
      refine ⟨_, _, rfl, _, _, rfl, rfl, rfl, _, rfl, _, rfl, _, rfl, ?_⟩
      dsimp only [tNil]
      exact ⟨N, a1, a2, c9, b, n, rfl, hT9.mono (X49.trans XG), hA9.mono ((X14.trans X49).trans XG), TelD.inn_ok hk m9, by omega, by omega, hn, fun G2 X2 => ⟨acc, X2 _ _ hD, ls, k G2 (XG.trans X2) (X2 _ _ hD)⟩⟩
    · refine ⟨_, _, rfl, (sq_lst hA2), ?_⟩
      rw [all_rep]
      exact q G (((X0G.trans X4).trans X49).trans XG)
theorem ok__law_lack_right {P : Program} {w : World} {K : PySem.W.Frag} {mg : Str → Option Value} {base : Heap} (T : Env K mg) {d L : Nat} (hL : 155 ≤ L) (r__law_lack_right : Fc P w K mg base L (He.ga K "_law_lack_right") [] (sp__law_lack_right K d)) : Fc P w K mg base (L + 1) (He.ga K "_law_lack_right") [] (sp__law_lack_right K (d + 1)) := by
  obtain ⟨fd, D, F⟩ := fb__law_lack_right T hL r__law_lack_right
  exact F.all (D.bindsN fun _ _ _ _ _ _ us hl => match us, hl with | [_, _, _], _ => rfl)
theorem all_lack {P : Program} {w : World} {K : PySem.W.Frag} {mg : Str → Option Value} {base : Heap} (T : Env K mg) : ∀ d, Fc P w K mg base (155 + d) (He.ga K "_law_lack_right") [] (sp__law_lack_right K d)
  | 0 => fc_no fun vs H Q E h => by
    obtain ⟨N, t, a, c, b, n, _, _, _, _, h, _⟩ := h
    have := c.card.wt_pos
    omega
  | d + 1 => ok__law_lack_right T (Nat.le_add_right 155 _) (all_lack T d)
end
section
def sp__law_around (K : PySem.W.Frag) : Sp := fun vs H Q _ => ∃ (N : Addr → Prop) (t : Addr) (c : TelD) (b w : Nat) (z : Str), vs = [.ref t, .str z, .int (w : Nat)] ∧ TelN N H c t ∧ (∀ x, H x = none → N x) ∧ c.ok b ∧ c.card.wt ≤ 30 ∧ nmN z.cps.toList = true ∧ ∀ (t' : Addr) (d : TelD) H', Ex H H' → TelN N H' d t' → d.ok b → d.card.wt ≤ 40 → Q (.ref t') H'
theorem fb__law_around {P : Program} {w : World} {K : PySem.W.Frag} {mg : Str → Option Value} {base : Heap} (T : Env K mg) : ∃ fd, FunD K "_law_around" "_law_around" (defArgs s__law_around) (defBody s__law_around) (defScope s__law_around) [] [] (He.ga K "_law_around") fd ∧ Fb P w K mg base 1 (He.ga K "_law_around") fd ["_law_told", "_law_name_here", "_law_way"] (sp__law_around K) := by
  obtain ⟨fd, F⟩ := T.f__law_around
  refine ⟨fd, F, fb_of F sc__law_around (fun vs H Q E h => ?_) (fun cdv A outer s H vs Q E hr h => ?_)⟩
  · obtain ⟨N, t, c, b, w, z, rfl, _⟩ := h
    rfl
  · obtain ⟨N, t, c, b, w, z, rfl, ht, hN, hk, hw, hz, q⟩ := h
    refine ⟨_, (pss_cons (ps_if (pt_cmpR op_eq (pv 2) pe_int (nomark _))
      (pss_one (ps_ret (pe_tup (pa_cons pe_str (pa_cons (pv 0) (pa_cons (pe_tup (pa_cons pe_str (pa_cons (pv 1) pa_nil))) pa_nil))))))
      pss_nil)
      (pss_cons (ps_if (pt_cmpR op_eq (pv 2) pe_int (nomark _))
      (pss_one (ps_ret (pe_tup (pa_cons pe_str (pa_cons (pe_lst (pa_cons (pv 0) (pa_cons (pe_tup (pa_cons pe_str (pa_cons pe_str pa_nil))) (pa_cons (pe_tup (pa_cons pe_str (pa_cons (pv 1) pa_nil))) pa_nil)))) pa_nil)))))
      pss_nil)
      (pss_one (ps_ret (pe_ifExp (pt_cmpR op_eq (pv 2) pe_int (nomark _)) (pe_tup (pa_cons pe_str (pa_cons (pe_tup (pa_cons pe_str (pa_cons (pv 1) pa_nil))) (pa_cons pe_int pa_nil)))) (pv 0)))))), ?_⟩
    have as1 : ∀ {H' : Hp} {u : Addr} {y : Str}, H' u = some (.tup [.str (Str.ofString "as"), .str y]) → TelN N H' (.as_ y) u := fun h => by
      unfold TelN
      exact h
    have W1 : ∀ y, (TelD.as_ y).card.wt = 1 := fun y => by rw [TelD.card, CardD.wt]
    have okA : ∀ {y : Str}, nmN y.cps.toList = true → (TelD.as_ y).ok b := fun h => by
      unfold TelD.ok
      exact h
    refine ⟨_, rfl, rfl, _, rfl, ite2 (fun _ => ?_) (fun _ => ?_)⟩
    · refine ⟨_, rfl, _, rfl, by show 2 ≤ sizeLine; decide, fun u nu => ⟨by show 3 ≤ sizeLine; decide, fun t2 nt2 => ?_⟩⟩
      have Xu := ex_new (o := HO.tup [V.str (Str.ofString "as"), V.str z]) nu
      have hu : upd H u (HO.tup [V.str (Str.ofString "as"), V.str z]) u = some (HO.tup [V.str (Str.ofString "as"), V.str z]) := upd_same
      generalize upd H u (HO.tup [V.str (Str.ofString "as"), V.str z]) = G at Xu hu nt2 ⊢
      have X2 := ex_new (o := HO.tup [V.str (Str.ofString "less"), V.ref t, V.ref u]) nt2
      refine q t2 (.less c (.as_ z)) _ (Xu.trans X2) ?_ (by unfold TelD.ok; exact ⟨hk, okA hz⟩) (by rw [TelD.card, CardD.wt, W1]; omega)
      unfold TelN
      exact ⟨t, u, upd_same, (ht.mono Xu).mono X2, as1 (X2 _ _ hu)⟩
    refine ⟨_, rfl, rfl, _, rfl, ite2 (fun _ => ?_) (fun _ => ?_)⟩
    · refine ⟨_, rfl, by show 2 ≤ sizeLine; decide, fun u nu => ?_⟩
      have Xu := ex_new (o := HO.tup [V.str (Str.ofString "as"), V.str (Str.ofString "b")]) nu
      have hu : upd H u (HO.tup [V.str (Str.ofString "as"), V.str (Str.ofString "b")]) u = some (HO.tup [V.str (Str.ofString "as"), V.str (Str.ofString "b")]) := upd_same
      refine ⟨_, rfl, by show 2 ≤ sizeLine; decide, fun v nv => ?_⟩
      generalize upd H u (HO.tup [V.str (Str.ofString "as"), V.str (Str.ofString "b")]) = G at Xu hu nv ⊢
      have Xv := ex_new (o := HO.tup [V.str (Str.ofString "as"), V.str z]) nv
      have hv : upd G v (HO.tup [V.str (Str.ofString "as"), V.str z]) v = some (HO.tup [V.str (Str.ofString "as"), V.str z]) := upd_same
      refine ⟨by show 3 ≤ sizeLine; decide, fun l nl => ?_⟩
      generalize upd G v (HO.tup [V.str (Str.ofString "as"), V.str z]) = G2 at Xv hv nl ⊢
      have Xl := ex_new (o := HO.lst ([t, u, v].map V.ref)) nl
      have hl : upd G2 l (HO.lst ([t, u, v].map V.ref)) l = some (HO.lst ([t, u, v].map V.ref)) := upd_same
      have Nl : N l := hN l (ex_fresh (Xu.trans Xv) nl)
      refine ⟨by show 2 ≤ sizeLine; decide, fun t2 nt2 => ?_⟩
      have nt3 : upd G2 l (HO.lst ([t, u, v].map V.ref)) t2 = none := nt2
      show Q (.ref t2) (upd (upd G2 l (HO.lst ([t, u, v].map V.ref))) t2 (HO.tup [V.str (Str.ofString "join"), V.ref l]))
      generalize upd G2 l (HO.lst ([t, u, v].map V.ref)) = G3 at Xl hl nt3 ⊢
      have X2 := ex_new (o := HO.tup [V.str (Str.ofString "join"), V.ref l]) nt3
      have wl : wtL (cardL [c, .as_ (Str.ofString "b"), .as_ z]) = c.card.wt + 2 := by
        show c.card.wt + ((TelD.as_ (Str.ofString "b")).card.wt + ((TelD.as_ z).card.wt + 0)) = _
        rw [W1, W1]
      refine q t2 (.join [c, .as_ (Str.ofString "b"), .as_ z]) _ (((Xu.trans Xv).trans Xl).trans X2) ?_ ?_ (by rw [TelD.card, CardD.wt, wl]; omega)
      · unfold TelN
        have ht3 := ((ht.mono Xu).mono Xv).mono Xl
        exact ⟨l, [t, u, v], upd_same, X2 _ _ hl, Nl, .cons (ht3.mono X2) (.cons (as1 (X2 _ _ (Xl _ _ (Xv _ _ hu)))) (.one (as1 (X2 _ _ (Xl _ _ hv)))))⟩
      · unfold TelD.ok
        refine ⟨okTs_of fun e he => ?_, nofun, by omega⟩
        simp only [List.mem_cons, List.not_mem_nil, or_false] at he
        rcases he with rfl | rfl | rfl
        · exact hk
        · exact okA (by decide +kernel)
        · exact okA hz
    refine ⟨_, rfl, rfl, _, rfl, ite2 (fun _ => ?_) (fun _ => ?_)⟩
    · refine ⟨_, rfl, by show 2 ≤ sizeLine; decide, fun u nu => ⟨by show 3 ≤ sizeLine; decide, fun t2 nt2 => ?_⟩⟩
      have Xu := ex_new (o := HO.tup [V.str (Str.ofString "as"), V.str z]) nu
      have hu : upd H u (HO.tup [V.str (Str.ofString "as"), V.str z]) u = some (HO.tup [V.str (Str.ofString "as"), V.str z]) := upd_same
      generalize upd H u (HO.tup [V.str (Str.ofString "as"), V.str z]) = G at Xu hu nt2 ⊢
      have X2 := ex_new (o := HO.tup [V.str (Str.ofString "later"), V.ref u, V.int ((5 : Nat) : Int)]) nt2
      refine q t2 (.later (.as_ z) 5) _ (Xu.trans X2) ?_ (by unfold TelD.ok; exact ⟨okA hz, by decide⟩) (by rw [TelD.card, CardD.wt, W1]; decide)
      unfold TelN
      exact ⟨u, upd_same, as1 (X2 _ _ hu)⟩
    exact ⟨_, rfl, q t c H (.refl _) ht hk (by omega)⟩
theorem ok__law_around {P : Program} {w : World} {K : PySem.W.Frag} {mg : Str → Option Value} {base : Heap} (T : Env K mg) : Fc P w K mg base 1 (He.ga K "_law_around") [] (sp__law_around K ) := by
  obtain ⟨fd, D, F⟩ := fb__law_around T
  exact F.all (D.bindsN fun _ _ _ _ _ _ us hl => match us, hl with | [_, _, _], _ => rfl)
end
section
def sp__law_all_notes (K : PySem.W.Frag) (d : Nat) : Sp := fun vs H Q _ => ∃ (N : Addr → Prop) (t : Addr) (c : TelD) (b : Nat), vs = [.ref t] ∧ TelN N H c t ∧ c.ok b ∧ c.card.wt ≤ d ∧ c.card.wt ≤ 60 ∧ ∀ a zs H', Ex H H' → H a = none → H' a = some (.lst zs) → zs.length ≤ 7 * c.card.wt → Q (.ref a) H'
theorem fb__law_all_notes {P : Program} {w : World} {K : PySem.W.Frag} {mg : Str → Option Value} {base : Heap} (T : Env K mg) {d L : Nat} (hL : 60 ≤ L) (r__law_all_notes : Fc P w K mg base L (He.ga K "_law_all_notes") [] (sp__law_all_notes K d)) : ∃ fd, FunD K "_law_all_notes" "_law_all_notes" (defArgs s__law_all_notes) (defBody s__law_all_notes) (defScope s__law_all_notes) [] [] (He.ga K "_law_all_notes") fd ∧ Fb P w K mg base (L + 1) (He.ga K "_law_all_notes") fd ["_law_told"] (sp__law_all_notes K (d + 1)) := by
  obtain ⟨fd, F⟩ := T.f__law_all_notes
  refine ⟨fd, F, fb_of F sc__law_all_notes (fun vs H Q E h => ?_) (fun cdv A outer s H vs Q E hr h => ?_)⟩
  · obtain ⟨N, t, c, b, rfl, _⟩ := h
    rfl
  · obtain ⟨N, t, c, b, rfl, ht, hk, hw, hw6, q⟩ := h
    refine ⟨_, (pss_cons (ps_set (i := 1) sc__law_all_notes.nd rfl (Or.inl rfl) (pe_lst pa_nil))
      (pss_cons (ps_if (pt_cmpR op_in_seq (pe_ix ix_tup (pv 0) pe_int (fun _ _ => rfl)) (pe_tup (pa_cons pe_str (pa_cons pe_str pa_nil))) (by rfl))
      (pss_one (ps_set (i := 1) sc__law_all_notes.nd rfl (Or.inl rfl) (pe_callTy call_list_of (by rfl) T.n_list (by decide +kernel) (pa_cons (pe_ix ix_tup (pv 0) (pe_un un_neg pe_int) (fun _ _ => rfl)) pa_nil))))
      pss_nil)
      (pss_cons (ps_if (pt_cmpR op_eq (pe_ix ix_tup (pv 0) pe_int (fun _ _ => rfl)) pe_str (nomark _))
      (pss_one (ps_set (i := 1) sc__law_all_notes.nd rfl (Or.inl rfl) (pe_lst (pa_cons (pe_ix ix_tup (pv 0) pe_int (fun _ _ => rfl)) pa_nil))))
      pss_nil)
      (pss_cons (ps_for (passes_of rfl) rfl (pi_list (c_call (ok__law_inner T) (hr.mono (by omega)) T.g__law_inner T.k__law_inner takes0 (pa_cons (pv 0) pa_nil))) (pg_name (i := 2) sc__law_all_notes.nd rfl (Or.inl rfl))
      (pss_one (ps_expr (pe_bm PySem.F.plainAttrs_list PySem.F.slot_list_extend PySem.F.type_list_extend mt_extend (pv 1) (pa_cons (c_call r__law_all_notes (hr.mono (by omega)) T.g__law_all_notes T.k__law_all_notes takes0 (pa_cons (pv 2) pa_nil)) pa_nil)))))
      (pss_one (ps_ret (pv 1))))))), ?_⟩
    have hT := ht.live
    have wp := c.card.wt_pos
    cases c with
    | once rs ws =>
      unfold TelN at ht
      have hk0 := hk
      unfold TelD.ok at hk
      obtain ⟨r, w, h1, h2, h3, _⟩ := ht
      refine ⟨(by decide), ?_⟩
      intro a1 na1
      have Xa1 := ex_new (o := HO.lst []) na1
      have ha1 : upd H a1 (HO.lst []) a1 = some (HO.lst []) := upd_same
      generalize upd H a1 (HO.lst []) = Ga1 at Xa1 ha1 ⊢
      refine ⟨_, rfl, _, _, _, _, rfl, rfl, (sq_tup (Xa1 _ _ h1)), rfl, (by decide), ?_⟩
      intro a2 na2
      have Xa2 := ex_new (o := HO.tup [V.str (Str.ofString "once"), V.str (Str.ofString "every")]) na2
      have ha2 : upd Ga1 a2 (HO.tup [V.str (Str.ofString "once"), V.str (Str.ofString "every")]) a2 = some (HO.tup [V.str (Str.ofString "once"), V.str (Str.ofString "every")]) := upd_same
      generalize upd Ga1 a2 (HO.tup [V.str (Str.ofString "once"), V.str (Str.ofString "every")]) = Ga2 at Xa2 ha2 ⊢
      refine ⟨_, _, rfl, (.inr (sq_tup ha2)), rfl, rfl, _, rfl, _, rfl, _, rfl, _, _, _, _, rfl, rfl, (sq_tup (Xa2 _ _ (Xa1 _ _ h1))), rfl, _, _, rfl, (.inl (sq_lst (Xa2 _ _ (Xa1 _ _ h3)))), ?_⟩
      intro a3 na3
      have Xa3 := ex_new (o := HO.lst (List.map V.str ws)) na3
      have ha3 : upd Ga2 a3 (HO.lst (List.map V.str ws)) a3 = some (HO.lst (List.map V.str ws)) := upd_same
      generalize upd Ga2 a3 (HO.lst (List.map V.str ws)) = Ga3 at Xa3 ha3 ⊢
      refine ⟨_, rfl, _, _, _, _, rfl, rfl, (sq_tup (Xa3 _ _ (Xa2 _ _ (Xa1 _ _ h1)))), rfl, rfl, _, rfl, _, rfl, _, _, _, rfl, (((hT.mono Xa1).mono Xa2).mono Xa3), ?_⟩
      intro l1 as1 G X1 n1 hl1 hN1
      have hin := fun e' mm => TelD.inn_ok (e := e') hk0 mm
      have hiw := fun e' mm => TelD.inn_wt (c := TelD.once rs ws) (e := e') mm
      have wsum := inn_sum (TelD.once rs ws)
      have z0 : 7 + 7 * wtL (cardL (TelD.once rs ws).inn) ≤ 7 * (TelD.once rs ws).card.wt := by omega
      generalize he : (TelD.once rs ws).inn = cs0 at hN1 hin hiw wsum z0
      refine ⟨_, rfl, ⟨_, sq_lst hl1⟩, ?_⟩
      have X01 := (Xa1.trans (Xa2.trans Xa3)).trans X1
      have nf : H a3 = none := (ex_fresh (Xa1.trans Xa2) na3)
      have hf := ha3
      have la1 : l1 ≠ a3 := (ne_of_none hf n1).symm
      have lcs := hN1.len
      refine for_on as1 V.ref L2.walk_list (fun i σ G' => Oth a3 G G' ∧ ∃ (ms : List V) (v2 : Option V), σ = [some (.ref t), some (.ref a3), v2] ∧ G' a3 = some (.lst ms) ∧ ms.length ≤ 7 + 7 * wtL (cardL (cs0.take i))) ⟨.refl _ _, _, _, rfl, X1 _ _ hf, by rw [List.length_map]; have := hk.2.2.2.2; omega⟩ (fun i σ G' p => sq_lst (p.1 _ _ la1 hl1)) ?_ ?_
      · rintro i a9 σ G' ha9 ⟨OG, ms, v2, rfl, gA, lm⟩
        obtain ⟨c9, hc9, hT9⟩ := hN1.get ha9
        have m9 := List.mem_of_getElem? hc9
        have w9 := hiw c9 m9
        obtain ⟨s1, s2⟩ := wtL_takeT hc9
        have hT9' : TelN (fun b => H b ≠ none) G' c9 a9 := hT9.keep (fun _ _ z _ => z) (fun b o ho e => OG b o (fun z => by rw [z, X1 _ _ hf] at e; cases e; exact ho _ rfl) e) fun b o nb e => OG b o (fun z => nb (z ▸ nf)) e
        refine ⟨_, rfl, .inl ⟨rfl, _, sq_lst gA⟩, _, rfl, _, a9, c9, b, rfl, hT9', hin c9 m9, by omega, by omega, fun l2 zs G3 X3 nl hl2 hlen => ?_⟩
        refine ⟨a3, l2, _, _, rfl, rfl, X3 _ _ gA, hl2, by rw [sizeLine_eq]; omega, ?_⟩
        exact ⟨(OG.trans (ex_oth X3)).upd, ms ++ zs, _, rfl, upd_same, by rw [List.length_append, s1]; omega⟩
      · rintro σ G' ⟨OG, ms, v2, rfl, gA, lm⟩
        have XG := Oth.ex X01 nf OG
        rw [lcs, List.take_length] at lm
        exact ⟨_, rfl, q a3 ms G' XG nf gA (by omega)⟩
    | every D rs ws =>
      unfold TelN at ht
      have hk0 := hk
      unfold TelD.ok at hk
      obtain ⟨x, g, l, r, w, h1, h0, h2, h3, _⟩ := ht
      refine ⟨(by decide), ?_⟩
      intro a1 na1
      have Xa1 := ex_new (o := HO.lst []) na1
      have ha1 : upd H a1 (HO.lst []) a1 = some (HO.lst []) := upd_same
      generalize upd H a1 (HO.lst []) = Ga1 at Xa1 ha1 ⊢
      refine ⟨_, rfl, _, _, _, _, rfl, rfl, (sq_tup (Xa1 _ _ h1)), rfl, (by decide), ?_⟩
      intro a2 na2
      have Xa2 := ex_new (o := HO.tup [V.str (Str.ofString "once"), V.str (Str.ofString "every")]) na2
      have ha2 : upd Ga1 a2 (HO.tup [V.str (Str.ofString "once"), V.str (Str.ofString "every")]) a2 = some (HO.tup [V.str (Str.ofString "once"), V.str (Str.ofString "every")]) := upd_same
      generalize upd Ga1 a2 (HO.tup [V.str (Str.ofString "once"), V.str (Str.ofString "every")]) = Ga2 at Xa2 ha2 ⊢
      refine ⟨_, _, rfl, (.inr (sq_tup ha2)), rfl, rfl, _, rfl, _, rfl, _, rfl, _, _, _, _, rfl, rfl, (sq_tup (Xa2 _ _ (Xa1 _ _ h1))), rfl, _, _, rfl, (.inl (sq_lst (Xa2 _ _ (Xa1 _ _ h3)))), ?_⟩
      intro a3 na3
      have Xa3 := ex_new (o := HO.lst (List.map V.str ws)) na3
      have ha3 : upd Ga2 a3 (HO.lst (List.map V.str ws)) a3 = some (HO.lst (List.map V.str ws)) := upd_same
      generalize upd Ga2 a3 (HO.lst (List.map V.str ws)) = Ga3 at Xa3 ha3 ⊢
      refine ⟨_, rfl, _, _, _, _, rfl, rfl, (sq_tup (Xa3 _ _ (Xa2 _ _ (Xa1 _ _ h1)))), rfl, rfl, _, rfl, _, rfl, _, _, _, rfl, (((hT.mono Xa1).mono Xa2).mono Xa3), ?_⟩
      intro l1 as1 G X1 n1 hl1 hN1
      have hin := fun e' mm => TelD.inn_ok (e := e') hk0 mm
      have hiw := fun e' mm => TelD.inn_wt (c := TelD.every D rs ws) (e := e') mm
      have wsum := inn_sum (TelD.every D rs ws)
      have z0 : 7 + 7 * wtL (cardL (TelD.every D rs ws).inn) ≤ 7 * (TelD.every D rs ws).card.wt := by omega
      generalize he : (TelD.every D rs ws).inn = cs0 at hN1 hin hiw wsum z0
      refine ⟨_, rfl, ⟨_, sq_lst hl1⟩, ?_⟩
      have X01 := (Xa1.trans (Xa2.trans Xa3)).trans X1
      have nf : H a3 = none := (ex_fresh (Xa1.trans Xa2) na3)
      have hf := ha3
      have la1 : l1 ≠ a3 := (ne_of_none hf n1).symm
      have lcs := hN1.len
      refine for_on as1 V.ref L2.walk_list (fun i σ G' => Oth a3 G G' ∧ ∃ (ms : List V) (v2 : Option V), σ = [some (.ref t), some (.ref a3), v2] ∧ G' a3 = some (.lst ms) ∧ ms.length ≤ 7 + 7 * wtL (cardL (cs0.take i))) ⟨.refl _ _, _, _, rfl, X1 _ _ hf, by rw [List.length_map]; have := hk.2.2.2.2.2.2; omega⟩ (fun i σ G' p => sq_lst (p.1 _ _ la1 hl1)) ?_ ?_
      · rintro i a9 σ G' ha9 ⟨OG, ms, v2, rfl, gA, lm⟩
        obtain ⟨c9, hc9, hT9⟩ := hN1.get ha9
        have m9 := List.mem_of_getElem? hc9
        have w9 := hiw c9 m9
        obtain ⟨s1, s2⟩ := wtL_takeT hc9
        have hT9' : TelN (fun b => H b ≠ none) G' c9 a9 := hT9.keep (fun _ _ z _ => z) (fun b o ho e => OG b o (fun z => by rw [z, X1 _ _ hf] at e; cases e; exact ho _ rfl) e) fun b o nb e => OG b o (fun z => nb (z ▸ nf)) e
        refine ⟨_, rfl, .inl ⟨rfl, _, sq_lst gA⟩, _, rfl, _, a9, c9, b, rfl, hT9', hin c9 m9, by omega, by omega, fun l2 zs G3 X3 nl hl2 hlen => ?_⟩
        refine ⟨a3, l2, _, _, rfl, rfl, X3 _ _ gA, hl2, by rw [sizeLine_eq]; omega, ?_⟩
        exact ⟨(OG.trans (ex_oth X3)).upd, ms ++ zs, _, rfl, upd_same, by rw [List.length_append, s1]; omega⟩
      · rintro σ G' ⟨OG, ms, v2, rfl, gA, lm⟩
        have XG := Oth.ex X01 nf OG
        rw [lcs, List.take_length] at lm
        exact ⟨_, rfl, q a3 ms G' XG nf gA (by omega)⟩
    | join cs =>
      unfold TelN at ht
      obtain ⟨l, as, h1, h2, _, h3⟩ := ht
      refine ⟨(by decide), ?_⟩
      intro a1 na1
      have Xa1 := ex_new (o := HO.lst []) na1
      have ha1 : upd H a1 (HO.lst []) a1 = some (HO.lst []) := upd_same
      generalize upd H a1 (HO.lst []) = Ga1 at Xa1 ha1 ⊢
      refine ⟨_, rfl, _, _, _, _, rfl, rfl, (sq_tup (Xa1 _ _ h1)), rfl, (by decide), ?_⟩
      intro a2 na2
      have Xa2 := ex_new (o := HO.tup [V.str (Str.ofString "once"), V.str (Str.ofString "every")]) na2
      have ha2 : upd Ga1 a2 (HO.tup [V.str (Str.ofString "once"), V.str (Str.ofString "every")]) a2 = some (HO.tup [V.str (Str.ofString "once"), V.str (Str.ofString "every")]) := upd_same
      generalize upd Ga1 a2 (HO.tup [V.str (Str.ofString "once"), V.str (Str.ofString "every")]) = Ga2 at Xa2 ha2 ⊢
      refine ⟨_, _, rfl, (.inr (sq_tup ha2)), rfl, rfl, _, rfl, _, rfl, _, _, _, _, rfl, rfl, (sq_tup (Xa2 _ _ (Xa1 _ _ h1))), rfl, rfl, _, rfl, _, rfl, _, _, _, rfl, ((hT.mono Xa1).mono Xa2), ?_⟩
      intro l1 as1 G X1 n1 hl1 hN1
      have hin := fun e' mm => TelD.inn_ok (e := e') hk mm
      have hiw := fun e' mm => TelD.inn_wt (c := TelD.join cs) (e := e') mm
      have wsum := inn_sum (TelD.join cs)
      have z0 : 0 + 7 * wtL (cardL (TelD.join cs).inn) ≤ 7 * (TelD.join cs).card.wt := by omega
      generalize he : (TelD.join cs).inn = cs0 at hN1 hin hiw wsum z0
      refine ⟨_, rfl, ⟨_, sq_lst hl1⟩, ?_⟩
      have X01 := (Xa1.trans Xa2).trans X1
      have nf : H a1 = none := na1
      have hf := (Xa2 _ _ ha1)
      have la1 : l1 ≠ a1 := (ne_of_none hf n1).symm
      have lcs := hN1.len
      refine for_on as1 V.ref L2.walk_list (fun i σ G' => Oth a1 G G' ∧ ∃ (ms : List V) (v2 : Option V), σ = [some (.ref t), some (.ref a1), v2] ∧ G' a1 = some (.lst ms) ∧ ms.length ≤ 0 + 7 * wtL (cardL (cs0.take i))) ⟨.refl _ _, _, _, rfl, X1 _ _ hf, Nat.le_refl _⟩ (fun i σ G' p => sq_lst (p.1 _ _ la1 hl1)) ?_ ?_
      · rintro i a9 σ G' ha9 ⟨OG, ms, v2, rfl, gA, lm⟩
        obtain ⟨c9, hc9, hT9⟩ := hN1.get ha9
        have m9 := List.mem_of_getElem? hc9
        have w9 := hiw c9 m9
        obtain ⟨s1, s2⟩ := wtL_takeT hc9
        have hT9' : TelN (fun b => H b ≠ none) G' c9 a9 := hT9.keep (fun _ _ z _ => z) (fun b o ho e => OG b o (fun z => by rw [z, X1 _ _ hf] at e; cases e; exact ho _ rfl) e) fun b o nb e => OG b o (fun z => nb (z ▸ nf)) e
        refine ⟨_, rfl, .inl ⟨rfl, _, sq_lst gA⟩, _, rfl, _, a9, c9, b, rfl, hT9', hin c9 m9, by omega, by omega, fun l2 zs G3 X3 nl hl2 hlen => ?_⟩
        refine ⟨a1, l2, _, _, rfl, rfl, X3 _ _ gA, hl2, by rw [sizeLine_eq]; omega, ?_⟩
        exact ⟨(OG.trans (ex_oth X3)).upd, ms ++ zs, _, rfl, upd_same, by rw [List.length_append, s1]; omega⟩
      · rintro σ G' ⟨OG, ms, v2, rfl, gA, lm⟩
        have XG := Oth.ex X01 nf OG
        rw [lcs, List.take_length] at lm
        exact ⟨_, rfl, q a1 ms G' XG nf gA (by omega)⟩
    | as_ z =>
      unfold TelN at ht
      have h1 := ht
      refine ⟨(by decide), ?_⟩
      intro a1 na1
      have Xa1 := ex_new (o := HO.lst []) na1
      have ha1 : upd H a1 (HO.lst []) a1 = some (HO.lst []) := upd_same
      generalize upd H a1 (HO.lst []) = Ga1 at Xa1 ha1 ⊢
      refine ⟨_, rfl, _, _, _, _, rfl, rfl, (sq_tup (Xa1 _ _ h1)), rfl, (by decide), ?_⟩
      intro a2 na2
      have Xa2 := ex_new (o := HO.tup [V.str (Str.ofString "once"), V.str (Str.ofString "every")]) na2
      have ha2 : upd Ga1 a2 (HO.tup [V.str (Str.ofString "once"), V.str (Str.ofString "every")]) a2 = some (HO.tup [V.str (Str.ofString "once"), V.str (Str.ofString "every")]) := upd_same
      generalize upd Ga1 a2 (HO.tup [V.str (Str.ofString "once"), V.str (Str.ofString "every")]) = Ga2 at Xa2 ha2 ⊢
      refine ⟨_, _, rfl, (.inr (sq_tup ha2)), rfl, rfl, _, rfl, _, rfl, _, _, _, _, rfl, rfl, (sq_tup (Xa2 _ _ (Xa1 _ _ h1))), rfl, rfl, _, rfl, _, rfl, _, _, _, rfl, ((hT.mono Xa1).mono Xa2), ?_⟩
      intro l1 as1 G X1 n1 hl1 hN1
      have hin := fun e' mm => TelD.inn_ok (e := e') hk mm
      have hiw := fun e' mm => TelD.inn_wt (c := TelD.as_ z) (e := e') mm
      have wsum := inn_sum (TelD.as_ z)
      have z0 : 0 + 7 * wtL (cardL (TelD.as_ z).inn) ≤ 7 * (TelD.as_ z).card.wt := by omega
      generalize he : (TelD.as_ z).inn = cs0 at hN1 hin hiw wsum z0
      refine ⟨_, rfl, ⟨_, sq_lst hl1⟩, ?_⟩
      have X01 := (Xa1.trans Xa2).trans X1
      have nf : H a1 = none := na1
      have hf := (Xa2 _ _ ha1)
      have la1 : l1 ≠ a1 := (ne_of_none hf n1).symm
      have lcs := hN1.len
      refine for_on as1 V.ref L2.walk_list (fun i σ G' => Oth a1 G G' ∧ ∃ (ms : List V) (v2 : Option V), σ = [some (.ref t), some (.ref a1), v2] ∧ G' a1 = some (.lst ms) ∧ ms.length ≤ 0 + 7 * wtL (cardL (cs0.take i))) ⟨.refl _ _, _, _, rfl, X1 _ _ hf, Nat.le_refl _⟩ (fun i σ G' p => sq_lst (p.1 _ _ la1 hl1)) ?_ ?_
      · rintro i a9 σ G' ha9 ⟨OG, ms, v2, rfl, gA, lm⟩
        obtain ⟨c9, hc9, hT9⟩ := hN1.get ha9
        have m9 := List.mem_of_getElem? hc9
        have w9 := hiw c9 m9
        obtain ⟨s1, s2⟩ := wtL_takeT hc9
        have hT9' : TelN (fun b => H b ≠ none) G' c9 a9 := hT9.keep (fun _ _ z _ => z) (fun b o ho e => OG b o (fun z => by rw [z, X1 _ _ hf] at e; cases e; exact ho _ rfl) e) fun b o nb e => OG b o (fun z => nb (z ▸ nf)) e
        refine ⟨_, rfl, .inl ⟨rfl, _, sq_lst gA⟩, _, rfl, _, a9, c9, b, rfl, hT9', hin c9 m9, by omega, by omega, fun l2 zs G3 X3 nl hl2 hlen => ?_⟩
        refine ⟨a1, l2, _, _, rfl, rfl, X3 _ _ gA, hl2, by rw [sizeLine_eq]; omega, ?_⟩
        exact ⟨(OG.trans (ex_oth X3)).upd, ms ++ zs, _, rfl, upd_same, by rw [List.length_append, s1]; omega⟩
      · rintro σ G' ⟨OG, ms, v2, rfl, gA, lm⟩
        have XG := Oth.ex X01 nf OG
        rw [lcs, List.take_length] at lm
        exact ⟨_, rfl, q a1 ms G' XG nf gA (by omega)⟩
    | less c e =>
      unfold TelN at ht
      obtain ⟨a, e1, h1, h2, h3⟩ := ht
      refine ⟨(by decide), ?_⟩
      intro a1 na1
      have Xa1 := ex_new (o := HO.lst []) na1
      have ha1 : upd H a1 (HO.lst []) a1 = some (HO.lst []) := upd_same
      generalize upd H a1 (HO.lst []) = Ga1 at Xa1 ha1 ⊢
      refine ⟨_, rfl, _, _, _, _, rfl, rfl, (sq_tup (Xa1 _ _ h1)), rfl, (by decide), ?_⟩
      intro a2 na2
      have Xa2 := ex_new (o := HO.tup [V.str (Str.ofString "once"), V.str (Str.ofString "every")]) na2
      have ha2 : upd Ga1 a2 (HO.tup [V.str (Str.ofString "once"), V.str (Str.ofString "every")]) a2 = some (HO.tup [V.str (Str.ofString "once"), V.str (Str.ofString "every")]) := upd_same
      generalize upd Ga1 a2 (HO.tup [V.str (Str.ofString "once"), V.str (Str.ofString "every")]) = Ga2 at Xa2 ha2 ⊢
      refine ⟨_, _, rfl, (.inr (sq_tup ha2)), rfl, rfl, _, rfl, _, rfl, _, _, _, _, rfl, rfl, (sq_tup (Xa2 _ _ (Xa1 _ _ h1))), rfl, rfl, _, rfl, _, rfl, _, _, _, rfl, ((hT.mono Xa1).mono Xa2), ?_⟩
      intro l1 as1 G X1 n1 hl1 hN1
      have hin := fun e' mm => TelD.inn_ok (e := e') hk mm
      have hiw := fun e' mm => TelD.inn_wt (c := TelD.less c e) (e := e') mm
      have wsum := inn_sum (TelD.less c e)
      have z0 : 0 + 7 * wtL (cardL (TelD.less c e).inn) ≤ 7 * (TelD.less c e).card.wt := by omega
      generalize he : (TelD.less c e).inn = cs0 at hN1 hin hiw wsum z0
      refine ⟨_, rfl, ⟨_, sq_lst hl1⟩, ?_⟩
      have X01 := (Xa1.trans Xa2).trans X1
      have nf : H a1 = none := na1
      have hf := (Xa2 _ _ ha1)
      have la1 : l1 ≠ a1 := (ne_of_none hf n1).symm
      have lcs := hN1.len
      refine for_on as1 V.ref L2.walk_list (fun i σ G' => Oth a1 G G' ∧ ∃ (ms : List V) (v2 : Option V), σ = [some (.ref t), some (.ref a1), v2] ∧ G' a1 = some (.lst ms) ∧ ms.length ≤ 0 + 7 * wtL (cardL (cs0.take i))) ⟨.refl _ _, _, _, rfl, X1 _ _ hf, Nat.le_refl _⟩ (fun i σ G' p => sq_lst (p.1 _ _ la1 hl1)) ?_ ?_
      · rintro i a9 σ G' ha9 ⟨OG, ms, v2, rfl, gA, lm⟩
        obtain ⟨c9, hc9, hT9⟩ := hN1.get ha9
        have m9 := List.mem_of_getElem? hc9
        have w9 := hiw c9 m9
        obtain ⟨s1, s2⟩ := wtL_takeT hc9
        have hT9' : TelN (fun b => H b ≠ none) G' c9 a9 := hT9.keep (fun _ _ z _ => z) (fun b o ho e => OG b o (fun z => by rw [z, X1 _ _ hf] at e; cases e; exact ho _ rfl) e) fun b o nb e => OG b o (fun z => nb (z ▸ nf)) e
        refine ⟨_, rfl, .inl ⟨rfl, _, sq_lst gA⟩, _, rfl, _, a9, c9, b, rfl, hT9', hin c9 m9, by omega, by omega, fun l2 zs G3 X3 nl hl2 hlen => ?_⟩
        refine ⟨a1, l2, _, _, rfl, rfl, X3 _ _ gA, hl2, by rw [sizeLine_eq]; omega, ?_⟩
        exact ⟨(OG.trans (ex_oth X3)).upd, ms ++ zs, _, rfl, upd_same, by rw [List.length_append, s1]; omega⟩
      · rintro σ G' ⟨OG, ms, v2, rfl, gA, lm⟩
        have XG := Oth.ex X01 nf OG
        rw [lcs, List.take_length] at lm
        exact ⟨_, rfl, q a1 ms G' XG nf gA (by omega)⟩
    | swap c D e =>
      unfold TelN at ht
      obtain ⟨a, x, g, l, e1, h1, h0, n1, n2, h2, h3⟩ := ht
      refine ⟨(by decide), ?_⟩
      intro a1 na1
      have Xa1 := ex_new (o := HO.lst []) na1
      have ha1 : upd H a1 (HO.lst []) a1 = some (HO.lst []) := upd_same
      generalize upd H a1 (HO.lst []) = Ga1 at Xa1 ha1 ⊢
      refine ⟨_, rfl, _, _, _, _, rfl, rfl, (sq_tup (Xa1 _ _ h1)), rfl, (by decide), ?_⟩
      intro a2 na2
      have Xa2 := ex_new (o := HO.tup [V.str (Str.ofString "once"), V.str (Str.ofString "every")]) na2
      have ha2 : upd Ga1 a2 (HO.tup [V.str (Str.ofString "once"), V.str (Str.ofString "every")]) a2 = some (HO.tup [V.str (Str.ofString "once"), V.str (Str.ofString "every")]) := upd_same
      generalize upd Ga1 a2 (HO.tup [V.str (Str.ofString "once"), V.str (Str.ofString "every")]) = Ga2 at Xa2 ha2 ⊢
      refine ⟨_, _, rfl, (.inr (sq_tup ha2)), rfl, rfl, _, rfl, _, rfl, _, _, _, _, rfl, rfl, (sq_tup (Xa2 _ _ (Xa1 _ _ h1))), rfl, rfl, _, rfl, _, rfl, _, _, _, rfl, ((hT.mono Xa1).mono Xa2), ?_⟩
      intro l1 as1 G X1 n1 hl1 hN1
      have hin := fun e' mm => TelD.inn_ok (e := e') hk mm
      have hiw := fun e' mm => TelD.inn_wt (c := TelD.swap c D e) (e := e') mm
      have wsum := inn_sum (TelD.swap c D e)
      have z0 : 0 + 7 * wtL (cardL (TelD.swap c D e).inn) ≤ 7 * (TelD.swap c D e).card.wt := by omega
      generalize he : (TelD.swap c D e).inn = cs0 at hN1 hin hiw wsum z0
      refine ⟨_, rfl, ⟨_, sq_lst hl1⟩, ?_⟩
      have X01 := (Xa1.trans Xa2).trans X1
      have nf : H a1 = none := na1
      have hf := (Xa2 _ _ ha1)
      have la1 : l1 ≠ a1 := (ne_of_none hf n1).symm
      have lcs := hN1.len
      refine for_on as1 V.ref L2.walk_list (fun i σ G' => Oth a1 G G' ∧ ∃ (ms : List V) (v2 : Option V), σ = [some (.ref t), some (.ref a1), v2] ∧ G' a1 = some (.lst ms) ∧ ms.length ≤ 0 + 7 * wtL (cardL (cs0.take i))) ⟨.refl _ _, _, _, rfl, X1 _ _ hf, Nat.le_refl _⟩ (fun i σ G' p => sq_lst (p.1 _ _ la1 hl1)) ?_ ?_
      · rintro i a9 σ G' ha9 ⟨OG, ms, v2, rfl, gA, lm⟩
        obtain ⟨c9, hc9, hT9⟩ := hN1.get ha9
        have m9 := List.mem_of_getElem? hc9
        have w9 := hiw c9 m9
        obtain ⟨s1, s2⟩ := wtL_takeT hc9
        have hT9' : TelN (fun b => H b ≠ none) G' c9 a9 := hT9.keep (fun _ _ z _ => z) (fun b o ho e => OG b o (fun z => by rw [z, X1 _ _ hf] at e; cases e; exact ho _ rfl) e) fun b o nb e => OG b o (fun z => nb (z ▸ nf)) e
        refine ⟨_, rfl, .inl ⟨rfl, _, sq_lst gA⟩, _, rfl, _, a9, c9, b, rfl, hT9', hin c9 m9, by omega, by omega, fun l2 zs G3 X3 nl hl2 hlen => ?_⟩
        refine ⟨a1, l2, _, _, rfl, rfl, X3 _ _ gA, hl2, by rw [sizeLine_eq]; omega, ?_⟩
        exact ⟨(OG.trans (ex_oth X3)).upd, ms ++ zs, _, rfl, upd_same, by rw [List.length_append, s1]; omega⟩
      · rintro σ G' ⟨OG, ms, v2, rfl, gA, lm⟩
        have XG := Oth.ex X01 nf OG
        rw [lcs, List.take_length] at lm
        exact ⟨_, rfl, q a1 ms G' XG nf gA (by omega)⟩
    | later c m =>
      unfold TelN at ht
      obtain ⟨a, h1, h2⟩ := ht
      refine ⟨(by decide), ?_⟩
      intro a1 na1
      have Xa1 := ex_new (o := HO.lst []) na1
      have ha1 : upd H a1 (HO.lst []) a1 = some (HO.lst []) := upd_same
      generalize upd H a1 (HO.lst []) = Ga1 at Xa1 ha1 ⊢
      refine ⟨_, rfl, _, _, _, _, rfl, rfl, (sq_tup (Xa1 _ _ h1)), rfl, (by decide), ?_⟩
      intro a2 na2
      have Xa2 := ex_new (o := HO.tup [V.str (Str.ofString "once"), V.str (Str.ofString "every")]) na2
      have ha2 : upd Ga1 a2 (HO.tup [V.str (Str.ofString "once"), V.str (Str.ofString "every")]) a2 = some (HO.tup [V.str (Str.ofString "once"), V.str (Str.ofString "every")]) := upd_same
      generalize upd Ga1 a2 (HO.tup [V.str (Str.ofString "once"), V.str (Str.ofString "every")]) = Ga2 at Xa2 ha2 ⊢
      refine ⟨_, _, rfl, (.inr (sq_tup ha2)), rfl, rfl, _, rfl, _, rfl, _, _, _, _, rfl, rfl, (sq_tup (Xa2 _ _ (Xa1 _ _ h1))), rfl, rfl, _, rfl, _, rfl, _, _, _, rfl, ((hT.mono Xa1).mono Xa2), ?_⟩
      intro l1 as1 G X1 n1 hl1 hN1
      have hin := fun e' mm => TelD.inn_ok (e := e') hk mm
      have hiw := fun e' mm => TelD.inn_wt (c := TelD.later c m) (e := e') mm
      have wsum := inn_sum (TelD.later c m)
      have z0 : 0 + 7 * wtL (cardL (TelD.later c m).inn) ≤ 7 * (TelD.later c m).card.wt := by omega
      generalize he : (TelD.later c m).inn = cs0 at hN1 hin hiw wsum z0
      refine ⟨_, rfl, ⟨_, sq_lst hl1⟩, ?_⟩
      have X01 := (Xa1.trans Xa2).trans X1
      have nf : H a1 = none := na1
      have hf := (Xa2 _ _ ha1)
      have la1 : l1 ≠ a1 := (ne_of_none hf n1).symm
      have lcs := hN1.len
      refine for_on as1 V.ref L2.walk_list (fun i σ G' => Oth a1 G G' ∧ ∃ (ms : List V) (v2 : Option V), σ = [some (.ref t), some (.ref a1), v2] ∧ G' a1 = some (.lst ms) ∧ ms.length ≤ 0 + 7 * wtL (cardL (cs0.take i))) ⟨.refl _ _, _, _, rfl, X1 _ _ hf, Nat.le_refl _⟩ (fun i σ G' p => sq_lst (p.1 _ _ la1 hl1)) ?_ ?_
      · rintro i a9 σ G' ha9 ⟨OG, ms, v2, rfl, gA, lm⟩
        obtain ⟨c9, hc9, hT9⟩ := hN1.get ha9
        have m9 := List.mem_of_getElem? hc9
        have w9 := hiw c9 m9
        obtain ⟨s1, s2⟩ := wtL_takeT hc9
        have hT9' : TelN (fun b => H b ≠ none) G' c9 a9 := hT9.keep (fun _ _ z _ => z) (fun b o ho e => OG b o (fun z => by rw [z, X1 _ _ hf] at e; cases e; exact ho _ rfl) e) fun b o nb e => OG b o (fun z => nb (z ▸ nf)) e
        refine ⟨_, rfl, .inl ⟨rfl, _, sq_lst gA⟩, _, rfl, _, a9, c9, b, rfl, hT9', hin c9 m9, by omega, by omega, fun l2 zs G3 X3 nl hl2 hlen => ?_⟩
        refine ⟨a1, l2, _, _, rfl, rfl, X3 _ _ gA, hl2, by rw [sizeLine_eq]; omega, ?_⟩
        exact ⟨(OG.trans (ex_oth X3)).upd, ms ++ zs, _, rfl, upd_same, by rw [List.length_append, s1]; omega⟩
      · rintro σ G' ⟨OG, ms, v2, rfl, gA, lm⟩
        have XG := Oth.ex X01 nf OG
        rw [lcs, List.take_length] at lm
        exact ⟨_, rfl, q a1 ms G' XG nf gA (by omega)⟩
    | noted c z =>
      unfold TelN at ht
      obtain ⟨a, h1, h2⟩ := ht
      refine ⟨(by decide), ?_⟩
      intro a1 na1
      have Xa1 := ex_new (o := HO.lst []) na1
      have ha1 : upd H a1 (HO.lst []) a1 = some (HO.lst []) := upd_same
      generalize upd H a1 (HO.lst []) = Ga1 at Xa1 ha1 ⊢
      refine ⟨_, rfl, _, _, _, _, rfl, rfl, (sq_tup (Xa1 _ _ h1)), rfl, (by decide), ?_⟩
      intro a2 na2
      have Xa2 := ex_new (o := HO.tup [V.str (Str.ofString "once"), V.str (Str.ofString "every")]) na2
      have ha2 : upd Ga1 a2 (HO.tup [V.str (Str.ofString "once"), V.str (Str.ofString "every")]) a2 = some (HO.tup [V.str (Str.ofString "once"), V.str (Str.ofString "every")]) := upd_same
      generalize upd Ga1 a2 (HO.tup [V.str (Str.ofString "once"), V.str (Str.ofString "every")]) = Ga2 at Xa2 ha2 ⊢
      refine ⟨_, _, rfl, (.inr (sq_tup ha2)), rfl, rfl, _, rfl, _, rfl, _, _, _, _, rfl, rfl, (sq_tup (Xa2 _ _ (Xa1 _ _ h1))), rfl, rfl, _, rfl, _, rfl, _, _, _, _, rfl, rfl, (sq_tup (Xa2 _ _ (Xa1 _ _ h1))), rfl, (by show 1 ≤ sizeLine; decide), ?_⟩
      intro a3 na3
      have Xa3 := ex_new (o := HO.lst [V.str z]) na3
      have ha3 : upd Ga2 a3 (HO.lst [V.str z]) a3 = some (HO.lst [V.str z]) := upd_same
      generalize upd Ga2 a3 (HO.lst [V.str z]) = Ga3 at Xa3 ha3 ⊢
      refine ⟨_, rfl, _, _, _, rfl, (((hT.mono Xa1).mono Xa2).mono Xa3), ?_⟩
      intro l1 as1 G X1 n1 hl1 hN1
      have hin := fun e' mm => TelD.inn_ok (e := e') hk mm
      have hiw := fun e' mm => TelD.inn_wt (c := TelD.noted c z) (e := e') mm
      have wsum := inn_sum (TelD.noted c z)
      have z0 : 7 + 7 * wtL (cardL (TelD.noted c z).inn) ≤ 7 * (TelD.noted c z).card.wt := by omega
      generalize he : (TelD.noted c z).inn = cs0 at hN1 hin hiw wsum z0
      refine ⟨_, rfl, ⟨_, sq_lst hl1⟩, ?_⟩
      have X01 := (Xa1.trans (Xa2.trans Xa3)).trans X1
      have nf : H a3 = none := (ex_fresh (Xa1.trans Xa2) na3)
      have hf := ha3
      have la1 : l1 ≠ a3 := (ne_of_none hf n1).symm
      have lcs := hN1.len
      refine for_on as1 V.ref L2.walk_list (fun i σ G' => Oth a3 G G' ∧ ∃ (ms : List V) (v2 : Option V), σ = [some (.ref t), some (.ref a3), v2] ∧ G' a3 = some (.lst ms) ∧ ms.length ≤ 7 + 7 * wtL (cardL (cs0.take i))) ⟨.refl _ _, _, _, rfl, X1 _ _ hf, by show 1 ≤ 7; decide⟩ (fun i σ G' p => sq_lst (p.1 _ _ la1 hl1)) ?_ ?_
      · rintro i a9 σ G' ha9 ⟨OG, ms, v2, rfl, gA, lm⟩
        obtain ⟨c9, hc9, hT9⟩ := hN1.get ha9
        have m9 := List.mem_of_getElem? hc9
        have w9 := hiw c9 m9
        obtain ⟨s1, s2⟩ := wtL_takeT hc9
        have hT9' : TelN (fun b => H b ≠ none) G' c9 a9 := hT9.keep (fun _ _ z _ => z) (fun b o ho e => OG b o (fun z => by rw [z, X1 _ _ hf] at e; cases e; exact ho _ rfl) e) fun b o nb e => OG b o (fun z => nb (z ▸ nf)) e
        refine ⟨_, rfl, .inl ⟨rfl, _, sq_lst gA⟩, _, rfl, _, a9, c9, b, rfl, hT9', hin c9 m9, by omega, by omega, fun l2 zs G3 X3 nl hl2 hlen => ?_⟩
        refine ⟨a3, l2, _, _, rfl, rfl, X3 _ _ gA, hl2, by rw [sizeLine_eq]; omega, ?_⟩
        exact ⟨(OG.trans (ex_oth X3)).upd, ms ++ zs, _, rfl, upd_same, by rw [List.length_append, s1]; omega⟩
      · rintro σ G' ⟨OG, ms, v2, rfl, gA, lm⟩
        have XG := Oth.ex X01 nf OG
        rw [lcs, List.take_length] at lm
        exact ⟨_, rfl, q a3 ms G' XG nf gA (by omega)⟩
theorem ok__law_all_notes {P : Program} {w : World} {K : PySem.W.Frag} {mg : Str → Option Value} {base : Heap} (T : Env K mg) {d L : Nat} (hL : 60 ≤ L) (r__law_all_notes : Fc P w K mg base L (He.ga K "_law_all_notes") [] (sp__law_all_notes K d)) : Fc P w K mg base (L + 1) (He.ga K "_law_all_notes") [] (sp__law_all_notes K (d + 1)) := by
  obtain ⟨fd, D, F⟩ := fb__law_all_notes T hL r__law_all_notes
  exact F.all (D.bindsN fun _ _ _ _ _ _ us hl => match us, hl with | [_], _ => rfl)
theorem all_allnotes {P : Program} {w : World} {K : PySem.W.Frag} {mg : Str → Option Value} {base : Heap} (T : Env K mg) : ∀ d, Fc P w K mg base (60 + d) (He.ga K "_law_all_notes") [] (sp__law_all_notes K d)
  | 0 => fc_no fun vs H Q E h => by
    obtain ⟨N, t, c, b, _, _, _, h, _⟩ := h
    have := c.card.wt_pos
    omega
  | d + 1 => ok__law_all_notes T (Nat.le_add_right 60 _) (all_allnotes T d)
end
section
def Pts (ps : List Addr) (M : Nat) (H : Hp) : Prop := ∀ p ∈ ps, PotN M H p
/-- only the pots have changed -/
def KpH (ps : List Addr) (M : Nat) (G G' : Hp) : Prop := Pts ps M G' ∧ ∀ b o, b ∉ ps → G b = some o → G' b = some o
theorem Pts.le {ps : List Addr} {M M' : Nat} {H : Hp} (h : Pts ps M H) (l : M ≤ M') : Pts ps M' H := fun p m => (h p m).le l
theorem Pts.ex {ps : List Addr} {M : Nat} {H H' : Hp} (h : Pts ps M H) (e : Ex H H') : Pts ps M H' := fun p m => (h p m).ex e
theorem Pts.not {ps : List Addr} {M : Nat} {H : Hp} {b : Addr} (h : Pts ps M H) (n : H b = none) : b ∉ ps := fun m => (h b m).some n rfl
theorem KpH.refl {ps : List Addr} {M : Nat} {H : Hp} (h : Pts ps M H) : KpH ps M H H := ⟨h, fun _ _ _ e => e⟩
theorem KpH.ex {ps : List Addr} {M : Nat} {G H H' : Hp} (h : KpH ps M G H) (e : Ex H H') : KpH ps M G H' := ⟨h.1.ex e, fun b o n z => e _ _ (h.2 b o n z)⟩
theorem KpH.le {ps : List Addr} {M M' : Nat} {G H : Hp} (h : KpH ps M G H) (l : M ≤ M') : KpH ps M' G H := ⟨h.1.le l, h.2⟩
theorem KpH.trans {ps : List Addr} {M M' : Nat} {G H H' : Hp} (h : KpH ps M G H) (k : KpH ps M' H H') : KpH ps M' G H' := ⟨k.1, fun b o n z => k.2 b o n (h.2 b o n z)⟩
theorem KpH.lists {ps : List Addr} {M M' : Nat} {G G' : Hp} (h : Pts ps M G) (k : KpH ps M' G G') : ∀ b o, (∀ ys, o ≠ .lst ys) → G b = some o → G' b = some o := fun b o ho e => k.2 b o (fun m => by
  obtain ⟨u1, u2, u3, u4, _⟩ := h b m
  rw [u4] at e
  cases e
  exact ho _ rfl) e
theorem TelN.kp {ps : List Addr} {M M' : Nat} {G G' : Hp} {d : TelD} {t : Addr} (a : TelN (fun b => b ∉ ps) G d t) (h : Pts ps M G) (k : KpH ps M' G G') : TelN (fun b => b ∉ ps) G' d t := a.keep (fun _ _ z _ => z) (KpH.lists h k) k.2
theorem TelN.fresh {ps : List Addr} {M : Nat} {p : Addr} {G G' : Hp} {d : TelD} {t : Addr} (a : TelN (NewN G p) G' d t) (h : Pts ps M G) : TelN (fun b => b ∉ ps) G' d t := a.imp fun _ n => h.not n.1
theorem SomeAt.kp {ps : List Addr} {M M' : Nat} {G G' : Hp} {t g l : Addr} {D : DaysD} (a : SomeAt G t g l D) (h : Pts ps M G) (k : KpH ps M' G G') (gn : g ∉ ps) (ln : l ∉ ps) : SomeAt G' t g l D := ⟨KpH.lists h k _ _ nofun a.1, k.2 _ _ gn a.2.1, k.2 _ _ ln a.2.2⟩
end
section
def sp_law (K : PySem.W.Frag) : Sp := fun vs H Q _ => ∃ (a : Addr) (ns : List Int), vs = [.ref a] ∧ SqL K H a (ns.map V.int) ∧ ns.length ≤ 63 ∧ ∀ H', Q (.bl true) H'
theorem ok_law {P : Program} {w : World} {K : PySem.W.Frag} {mg : Str → Option Value} {base : Heap} (T : Env K mg) {fd : FuncData} (F : FunD K "law" "law" (defArgs s_law) (defBody s_law) (defScope s_law) [] [] (He.ga K "law") fd) : Fb P w K mg base 222 (He.ga K "law") fd ["_law_script"] (sp_law K) := by
  refine fb_of F sc_law (fun vs H Q E h => ?_) (fun cdv A outer s H vs Q E hr h => ?_)
  · obtain ⟨a, ns, rfl, _⟩ := h
    rfl
  · obtain ⟨a, ns, rfl, hS, hl, q⟩ := h
    refine ⟨_, (pss_cons (ps_set (i := 1) sc_law.nd rfl (Or.inl rfl) (c_call (ok__law_great T) (hr.mono (by decide)) T.g__law_great T.k__law_great takes0 (pa_cons (c_call (ok__law_pot T) (hr.mono (by decide)) T.g__law_pot T.k__law_pot takes0 (pa_cons (pv 0) (pa_cons pe_int pa_nil))) pa_nil)))
      (pss_cons (ps_set (i := 2) sc_law.nd rfl (Or.inl rfl) (c_call (ok__law_pot T) (hr.mono (by decide)) T.g__law_pot T.k__law_pot takes0 (pa_cons (pv 0) (pa_cons pe_int pa_nil))))
      (pss_cons (ps_set (i := 3) sc_law.nd rfl (Or.inl rfl) (c_call (ok__law_take T) (hr.mono (by decide)) T.g__law_take T.k__law_take takes0 (pa_cons (pv 2) (pa_cons pe_int pa_nil))))
      (pss_cons (ps_set (i := 4) sc_law.nd rfl (Or.inl rfl) (c_call (ok__law_name T) (hr.mono (by decide)) T.g__law_name T.k__law_name takes0 (pa_cons (pv 2) pa_nil)))
      (pss_cons (ps_set (i := 5) sc_law.nd rfl (Or.inl rfl) (c_call (ok__law_around T) (hr.mono (by decide)) T.g__law_around T.k__law_around takes0 (pa_cons (c_call (all_card T 4) (hr.mono (by decide)) T.g__law_card T.k__law_card takes0 (pa_cons (pv 2) (pa_cons (pv 1) (pa_cons (pe_op op_add pe_int (c_call (ok__law_take T) (hr.mono (by decide)) T.g__law_take T.k__law_take takes0 (pa_cons (pv 2) (pa_cons pe_int pa_nil)))) pa_nil)))) (pa_cons (pv 4) (pa_cons (pv 3) pa_nil)))))
      (pss_cons (ps_if (pt_cmpR op_gt (pe_callB call_len (by rfl) T.n_len (by decide +kernel) (pa_cons (c_call (all_allnotes T 60) (hr.mono (by decide)) T.g__law_all_notes T.k__law_all_notes takes0 (pa_cons (pv 5) pa_nil)) pa_nil)) pe_int (nomark _))
      (pss_one (ps_ret pe_bl))
      pss_nil)
      (pss_cons (ps_set (i := 6) sc_law.nd rfl (Or.inl rfl) (c_call (ok__law_pot T) (hr.mono (by decide)) T.g__law_pot T.k__law_pot takes0 (pa_cons (pv 0) (pa_cons pe_int pa_nil))))
      (pss_cons (ps_set (i := 7) sc_law.nd rfl (Or.inl rfl) (pe_op op_add (pe_op op_mul (pv 1) pe_int) (c_call (ok__law_take T) (hr.mono (by decide)) T.g__law_take T.k__law_take takes0 (pa_cons (pv 6) (pa_cons pe_int pa_nil)))))
      (pss_cons (ps_set (i := 8) sc_law.nd rfl (Or.inl rfl) (c_make T.mk_As (ok_As_init T) (hr.mono (by decide)) T.g_As takes0 (pa_cons (pv 4) pa_nil)))
      (pss_cons (ps_if (PW.pt (pw_or (pt_cmpR op_ne (pe_fld (pv 8) (by rfl)) (pv 4) (nomark _)) (pw_or (pt_cmpR op_ne (pe_callB SkE.call_repr_int (by rfl) T.n_repr (by decide +kernel) (pa_cons (c_meth0 (pv 8) T.c_As T.m_As_size (T.e_As_size ▸ (ok_Card_size T)) (hr.mono (by decide)) takes0) pa_nil)) pe_str (nomark _)) (pw_or1 (pt_cmpR (op_neD hr.rm.units) (c_meth0 (pv 8) T.c_As T.m_As_inner (T.e_As_inner ▸ (ok_Card_inner T)) (hr.mono (by decide)) takes0) (pe_lst pa_nil) (nomark _))))))
      (pss_one (ps_ret pe_bl))
      pss_nil)
      (pss_cons (ps_if (PW.pt (pw_or (pt_cmpR (op_neD hr.rm.units) (c_call (ok__law_asked T) (hr.mono (by decide)) T.g__law_asked T.k__law_asked takes0 (pa_cons pe_int (pa_cons (pv 8) (pa_cons (pv 7) pa_nil)))) (pe_tup (pa_cons pe_str (pa_cons (pv 4) pa_nil))) (nomark _)) (pw_or1 (pt_cmpR (op_neD hr.rm.units) (c_call (ok__law_asked T) (hr.mono (by decide)) T.g__law_asked T.k__law_asked takes0 (pa_cons pe_int (pa_cons (pv 8) (pa_cons (pv 1) pa_nil)))) (pe_tup (pa_cons pe_str (pa_cons (pv 4) pa_nil))) (nomark _)))))
      (pss_one (ps_ret pe_bl))
      pss_nil)
      (pss_cons (ps_set (i := 9) sc_law.nd rfl (Or.inl rfl) (c_call (all_made T 60) (hr.mono (by decide)) T.g__law_made T.k__law_made takes0 (pa_cons (pv 5) pa_nil)))
      (pss_one (ps_ret (pe_and (c_call (all_lack T 60) (hr.mono (by decide)) T.g__law_lack_right T.k__law_lack_right takes0 (pa_cons (pv 5) (pa_cons (pv 9) (pa_cons (pv 7) pa_nil)))) (pe_one (c_call (all_lack T 60) (hr.mono (by decide)) T.g__law_lack_right T.k__law_lack_right takes0 (pa_cons (pv 5) (pa_cons (pv 9) (pa_cons (pe_op op_add (pv 7) pe_int) pa_nil)))))))))))))))))))), ?_⟩
    refine ⟨_, rfl, a, ns, 0, rfl, hS, by decide, by decide, fun p0 H1 n0 P0 K0 => ?_⟩
    have X1 : Ex H H1 := fun b o e => by rw [K0 b (ne_of_none e n0)]; exact e
    refine ⟨p0, 0, rfl, P0, by decide, fun b H2 hb S0 => ?_⟩
    have X2 : Ex H H2 := PotOnN.ex X1 n0 S0
    refine ⟨_, rfl, a, ns, 1, rfl, ex_sql X2 hS, by decide, by decide, fun p1 H3 n1 P1 K1 => ?_⟩
    have X3 : Ex H2 H3 := fun b o e => by rw [K1 b (ne_of_none e n1)]; exact e
    refine ⟨_, rfl, p1, 0, 8, rfl, P1, by decide, by decide, by decide, fun wy H4 w0 w8 S4 => ?_⟩
    obtain ⟨wy, rfl⟩ := Int.eq_ofNat_of_zero_le w0
    refine ⟨_, rfl, p1, _, rfl, S4.1, by decide, fun z H5 hz S5 => ?_⟩
    refine ⟨_, rfl, _, rfl, _, rfl, p1, _, 2, rfl, S5.1, by decide, by decide, by decide, fun e0 H6 e00 e02 S6 => ?_⟩
    obtain ⟨e0, rfl⟩ := Int.eq_ofNat_of_zero_le e00
    have b56 : b < 10 ^ 57 := Nat.lt_trans hb (by decide)
    have c3 := csD_three (e := 1 + e0) (by omega)
    refine ⟨_, _, rfl, rfl, p1, _, b, 1 + e0, ?_, S6.1, by omega, b56, by omega, by omega, fun t c H7 ok wt nt tp hT S7 => ?_⟩
    · show [V.ref p1, V.int (b : Nat), V.int (1 + ((e0 : Nat) : Int))] = _
      rw [show (1 : Int) + ((e0 : Nat) : Int) = ((1 + e0 : Nat) : Int) by omega]
    have w13 := wtD_two (e := 1 + e0) (by omega)
    have X7 : Ex H2 H7 := PotOnN.ex X3 n1 (((S4.trans S5).trans S6).trans S7)
    refine ⟨_, rfl, _, rfl, fun _ => True, t, c, b, wy, z, rfl, hT.imp fun _ _ => trivial, fun _ _ => trivial, ok, by omega, hz, fun t c H8 X8 hT ok wt => ?_⟩
    have hT := hT.live
    have X28 := X7.trans X8
    refine ⟨_, rfl, _, t, c, b, rfl, hT, ok, by omega, by omega, fun l zs H9 X9 nl hl9 lz => ?_⟩
    refine ⟨_, _, rfl, (.inl ⟨_, ⟨(sq_lst hl9), rfl⟩⟩), _, _, rfl, rfl, _, rfl, ?_⟩
    refine ite2 (fun _ => q H9) (fun _ => ?_)
    have X29 := X28.trans X9
    refine ⟨_, rfl, a, ns, 2, rfl, ex_sql (X2.trans X29) hS, by decide, by decide, fun p2 H10 n2 P2 K2 => ?_⟩
    have X10 : Ex H9 H10 := fun b o e => by rw [K2 b (ne_of_none e n2)]; exact e
    have n28 := ex_fresh X9 n2
    have hT10 := (hT.mono X9).mono X10
    have Np : ∀ x, H8 x ≠ none → x ≠ p2 := fun x h z => h (z ▸ n28)
    refine ⟨_, rfl, _, _, rfl, rfl, .inr ⟨by decide, by decide⟩, _, rfl, p2, _, 17280, rfl, P2, by decide, by decide, by decide, fun k H11 k0 k17 S11 => ⟨_, _, rfl, rfl, ?_⟩⟩
    obtain ⟨k, rfl⟩ := Int.eq_ofNat_of_zero_le k0
    have hT11 := hT10.pot P2 Np S11
    obtain ⟨m, hm⟩ : ∃ m, m = b * 1440 + k := ⟨_, rfl⟩
    have em : (fun i j : Int => V.int (i + j)) (((b : Nat) : Int) * 1440) ((k : Nat) : Int) = V.int ((m : Nat) : Int) := by
      show V.int (((b : Nat) : Int) * 1440 + ((k : Nat) : Int)) = _
      rw [show ((b : Nat) : Int) * 1440 + ((k : Nat) : Int) = ((m : Nat) : Int) by omega]
    rw [em]
    have m80 : m + 1 < 10 ^ 80 := by
      have z : (10 : Nat) ^ 57 * 1440 + 20000 < 10 ^ 80 := by decide +kernel
      omega
    refine ⟨_, rfl, fun x dx nx nd ne => ?_⟩
    show sp_As_init K [.ref x, .str z] _ _ _
    refine as_new nx nd ne hz fun hd H12 X12 nh hh h' hB => ⟨rfl, ?_⟩
    refine ⟨_, rfl, _, _, _, _, _, rfl, h', T.c_As, T.a_As_name, rfl, _, rfl, rfl, _, rfl, ?_⟩
    rw [decide_eq_true rfl]
    refine iteF ?_
    refine ⟨_, rfl, _, _, _, rfl, h', rfl, _, _, _, _, _, _, rfl, h', T.c_As, T.a_As_weight, _, rfl, (by decide), rfl, _, rfl, _, rfl, _, _, _, rfl, h', rfl, _, _, _, _, _, _, _, rfl, h', T.c_As, T.a_As_held, hh, ?_⟩
    intro a1 na1
    have Xa1 := ex_new (o := HO.lst []) na1
    have ha1 : upd H12 a1 (HO.lst []) a1 = some (HO.lst []) := upd_same
    generalize upd H12 a1 (HO.lst []) = Ga1 at Xa1 ha1 ⊢
    refine ⟨(by decide), ?_⟩
    intro a2 na2
    have Xa2 := ex_new (o := HO.lst []) na2
    have ha2 : upd Ga1 a2 (HO.lst []) a2 = some (HO.lst []) := upd_same
    generalize upd Ga1 a2 (HO.lst []) = Ga2 at Xa2 ha2 ⊢
    refine ⟨_, _, .lst (sq_lst (Xa2 _ _ ha1)) .nil, .lst (sq_lst ha2) .nil, rfl, rfl, _, rfl, ?_⟩
    rw [SeqAt.eqv_refl _ (show PyData.canLay0 (.list []) = true from rfl)]
    refine iteF ?_
    have X1214 := Xa1.trans Xa2
    obtain ⟨s1, s2⟩ := noline_lay hz
    have ask : ∀ (G : Hp) (w k : Nat) (QQ : VK) (EE : XK), Ex H12 G → (∀ r H', Ex G H' → G r = none → H' r = some (.tup [.str "noline", .str z]) → QQ (.ref r) H') → sp__law_asked K [.int (w : Nat), .ref x, .int (k : Nat)] G QQ EE := fun G w k QQ EE X hq => ⟨x, .as_ z, w, .int (k : Nat), rfl, hB.mono X, hz, by rw [CardD.wt]; decide, cl_int _, fun e => absurd e (by
      show ¬ (true && decide (0 ≤ ((k : Nat) : Int))) = false
      rw [decide_eq_true (by omega)]
      nofun), fun n' en => ⟨fun z' hz' r H' X nr hr => hq r H' X nr (by rw [CardD.fst] at hz'; cases hz'; exact hr), fun e => by rw [CardD.fst] at e; cases e⟩⟩
    refine ⟨_, rfl, _, rfl, ?_⟩
    dsimp only [tNil]
    refine ask _ 0 m _ _ X1214 fun r3 G3 Y3 nr3 hr3 => ?_
    refine ⟨_, rfl, by show 2 ≤ sizeLine; decide, fun w2 nw2 => ?_⟩
    have Xw := ex_new (o := HO.tup [V.str "noline", V.str z]) nw2
    refine ⟨_, _, .tup (sq_tup (Xw _ _ hr3)) (.cons (.str _) (.cons (.str _) .nil)), .tup (sq_tup upd_same) (.cons (.str _) (.cons (.str _) .nil)), s1, s1, _, rfl, ?_⟩
    rw [SeqAt.eqv_refl _ s2]
    refine iteF ?_
    have X123 := (X1214.trans Y3).trans Xw
    refine ⟨_, rfl, _, rfl, ?_⟩
    dsimp only [tNil]
    refine ask _ 1 b _ _ X123 fun r4 G4 Y4 nr4 hr4 => ?_
    refine ⟨_, rfl, by show 2 ≤ sizeLine; decide, fun w3 nw3 => ?_⟩
    have Xw3 := ex_new (o := HO.tup [V.str "noline", V.str z]) nw3
    refine ⟨_, _, .tup (sq_tup (Xw3 _ _ hr4)) (.cons (.str _) (.cons (.str _) .nil)), .tup (sq_tup upd_same) (.cons (.str _) (.cons (.str _) .nil)), s1, s1, _, rfl, ?_⟩
    rw [SeqAt.eqv_refl _ s2]
    refine iteF ?_
    have X124 := (X123.trans Y4).trans Xw3
    have hT12 := (hT11.mono X12).mono X124
    refine ⟨_, rfl, _, t, c, b, rfl, hT12, ok, by omega, by omega, fun x1 G5 Y5 m5 hC1 => ?_⟩
    have hC1 := hC1.at
    have hT13 := hT12.mono Y5
    refine ⟨_, rfl, _, rfl, _, rfl, _, t, x1, c, b, m, rfl, hT13, hC1, ok, by omega, by omega, by omega, fun G6 Y6 => ⟨true, rfl, ?_⟩⟩
    refine iteT ⟨_, rfl, _, rfl, _, rfl, _, _, rfl, rfl, _, t, x1, c, b, m + 1, ?_, hT13.mono Y6, hC1.mono Y6, ok, by omega, by omega, by omega, fun G7 _ => q G7⟩
    show [V.ref t, V.ref x1, V.int (((m : Nat) : Int) + 1)] = _
    rw [show ((m : Nat) : Int) + 1 = ((m + 1 : Nat) : Int) by omega]
end
end Toy
namespace Toy
open PySem PySem.Spec PyProof.Rows L2 L3
theorem env_of {K : PySem.W.Frag} {h : Heap} {mg : Str → Option Value} (X : K.In h) (G : h.Ns mainGlobals mg) (c : SaysX xf fn K) : Env K mg :=
  ⟨He.glo_ok X G (c.fact 0 (f := fun K => (He.Fa.glo "is_whole").ok K) rfl),
  He.glo_ok X G (c.fact 1 (f := fun K => (He.Fa.glo "is_moment").ok K) rfl),
  He.glo_ok X G (c.fact 2 (f := fun K => (He.Fa.glo "want_moment").ok K) rfl),
  He.glo_ok X G (c.fact 3 (f := fun K => (He.Fa.glo "want_day").ok K) rfl),
  He.glo_ok X G (c.fact 4 (f := fun K => (He.Fa.glo "are_signs").ok K) rfl),
  He.glo_ok X G (c.fact 5 (f := fun K => (He.Fa.glo "told_days").ok K) rfl),
  He.glo_ok X G (c.fact 6 (f := fun K => (He.Fa.glo "want_till").ok K) rfl),
  He.glo_ok X G (c.fact 7 (f := fun K => (He.Fa.glo "is_name").ok K) rfl),
  He.glo_ok X G (c.fact 8 (f := fun K => (He.Fa.glo "notes_of").ok K) rfl),
  He.glo_ok X G (c.fact 9 (f := fun K => (He.Fa.glo "notes_together").ok K) rfl),
  He.glo_ok X G (c.fact 10 (f := fun K => (He.Fa.glo "is_number").ok K) rfl),
  He.glo_ok X G (c.fact 11 (f := fun K => (He.Fa.glo "all_rising").ok K) rfl),
  He.glo_ok X G (c.fact 12 (f := fun K => (He.Fa.glo "shorts_in").ok K) rfl),
  He.glo_ok X G (c.fact 13 (f := fun K => (He.Fa.glo "row_moments").ok K) rfl),
  He.glo_ok X G (c.fact 14 (f := fun K => (He.Fa.glo "row_many").ok K) rfl),
  He.glo_ok X G (c.fact 15 (f := fun K => (He.Fa.glo "want").ok K) rfl),
  He.glo_ok X G (c.fact 16 (f := fun K => (He.Fa.glo "first_as").ok K) rfl),
  He.glo_ok X G (c.fact 17 (f := fun K => (He.Fa.glo "want_card").ok K) rfl),
  He.glo_ok X G (c.fact 18 (f := fun K => (He.Fa.glo "want_known").ok K) rfl),
  He.glo_ok X G (c.fact 19 (f := fun K => (He.Fa.glo "goings_within").ok K) rfl),
  He.glo_ok X G (c.fact 20 (f := fun K => (He.Fa.glo "going_at").ok K) rfl),
  He.glo_ok X G (c.fact 21 (f := fun K => (He.Fa.glo "goings_on").ok K) rfl),
  He.glo_ok X G (c.fact 22 (f := fun K => (He.Fa.glo "_law_pot").ok K) rfl),
  He.glo_ok X G (c.fact 23 (f := fun K => (He.Fa.glo "_law_take").ok K) rfl),
  He.glo_ok X G (c.fact 24 (f := fun K => (He.Fa.glo "_law_great").ok K) rfl),
  He.glo_ok X G (c.fact 25 (f := fun K => (He.Fa.glo "_law_name").ok K) rfl),
  He.glo_ok X G (c.fact 26 (f := fun K => (He.Fa.glo "_law_notes_drawn").ok K) rfl),
  He.glo_ok X G (c.fact 27 (f := fun K => (He.Fa.glo "_law_runs").ok K) rfl),
  He.glo_ok X G (c.fact 28 (f := fun K => (He.Fa.glo "_law_moments_of").ok K) rfl),
  He.glo_ok X G (c.fact 29 (f := fun K => (He.Fa.glo "_law_spread").ok K) rfl),
  He.glo_ok X G (c.fact 30 (f := fun K => (He.Fa.glo "_law_days_drawn").ok K) rfl),
  He.glo_ok X G (c.fact 31 (f := fun K => (He.Fa.glo "_law_has").ok K) rfl),
  He.glo_ok X G (c.fact 32 (f := fun K => (He.Fa.glo "_law_days_made").ok K) rfl),
  He.glo_ok X G (c.fact 33 (f := fun K => (He.Fa.glo "_law_leaf").ok K) rfl),
  He.glo_ok X G (c.fact 34 (f := fun K => (He.Fa.glo "_law_card").ok K) rfl),
  He.glo_ok X G (c.fact 35 (f := fun K => (He.Fa.glo "_law_inner").ok K) rfl),
  He.glo_ok X G (c.fact 36 (f := fun K => (He.Fa.glo "_law_together").ok K) rfl),
  He.glo_ok X G (c.fact 37 (f := fun K => (He.Fa.glo "_law_notes").ok K) rfl),
  He.glo_ok X G (c.fact 38 (f := fun K => (He.Fa.glo "_law_made").ok K) rfl),
  He.glo_ok X G (c.fact 39 (f := fun K => (He.Fa.glo "_law_first").ok K) rfl),
  He.glo_ok X G (c.fact 40 (f := fun K => (He.Fa.glo "_law_many").ok K) rfl),
  He.glo_ok X G (c.fact 41 (f := fun K => (He.Fa.glo "_law_lack").ok K) rfl),
  He.glo_ok X G (c.fact 42 (f := fun K => (He.Fa.glo "_law_no").ok K) rfl),
  He.glo_ok X G (c.fact 43 (f := fun K => (He.Fa.glo "_law_asked").ok K) rfl),
  He.glo_ok X G (c.fact 44 (f := fun K => (He.Fa.glo "_law_told_right").ok K) rfl),
  He.glo_ok X G (c.fact 45 (f := fun K => (He.Fa.glo "_law_lack_right").ok K) rfl),
  He.glo_ok X G (c.fact 46 (f := fun K => (He.Fa.glo "_law_around").ok K) rfl),
  He.glo_ok X G (c.fact 47 (f := fun K => (He.Fa.glo "_law_all_notes").ok K) rfl),
  He.glo_ok X G (c.fact 48 (f := fun K => (He.Fa.glo "law").ok K) rfl),
  gint_of X G (c.fact 49 (f := fun K => (He.Fa.int "DAY" (1440)).ok K) rfl),
  gint_of X G (c.fact 50 (f := fun K => (He.Fa.int "MOST_SIGNS" (7)).ok K) rfl),
  gstr_of X G (c.fact 51 (f := fun K => (He.Fa.str "NOUGHT" "0").ok K) rfl),
  gstr_of X G (c.fact 52 (f := fun K => (He.Fa.str "ONE" "1").ok K) rfl),
  gint_of X G (c.fact 53 (f := fun K => (He.Fa.int "MOST_DAYS" (8)).ok K) rfl),
  gstr_of X G (c.fact 54 (f := fun K => (He.Fa.str "NAME_SIGNS" "abcdefghijklmnopqrstuvwxyz").ok K) rfl),
  gint_of X G (c.fact 55 (f := fun K => (He.Fa.int "LONGEST_NAME" (8)).ok K) rfl),
  gint_of X G (c.fact 56 (f := fun K => (He.Fa.int "MOST_MOMENTS" (1440)).ok K) rfl),
  gint_of X G (c.fact 57 (f := fun K => (He.Fa.int "MOST_NESTED" (8)).ok K) rfl),
  gint_of X G (c.fact 58 (f := fun K => (He.Fa.int "MOST_CARDS" (60)).ok K) rfl),
  gint_of X G (c.fact 59 (f := fun K => (He.Fa.int "LATEST" (10080)).ok K) rfl),
  He.free_ok X G (c.fact 60 (f := fun K => (He.Fa.free "LookupError").ok K) rfl),
  He.free_ok X G (c.fact 61 (f := fun K => (He.Fa.free "ValueError").ok K) rfl),
  He.free_ok X G (c.fact 62 (f := fun K => (He.Fa.free "all").ok K) rfl),
  He.free_ok X G (c.fact 63 (f := fun K => (He.Fa.free "any").ok K) rfl),
  He.free_ok X G (c.fact 64 (f := fun K => (He.Fa.free "bool").ok K) rfl),
  He.free_ok X G (c.fact 65 (f := fun K => (He.Fa.free "dict").ok K) rfl),
  He.free_ok X G (c.fact 66 (f := fun K => (He.Fa.free "divmod").ok K) rfl),
  He.free_ok X G (c.fact 67 (f := fun K => (He.Fa.free "int").ok K) rfl),
  He.free_ok X G (c.fact 68 (f := fun K => (He.Fa.free "isinstance").ok K) rfl),
  He.free_ok X G (c.fact 69 (f := fun K => (He.Fa.free "len").ok K) rfl),
  He.free_ok X G (c.fact 70 (f := fun K => (He.Fa.free "list").ok K) rfl),
  He.free_ok X G (c.fact 71 (f := fun K => (He.Fa.free "max").ok K) rfl),
  He.free_ok X G (c.fact 72 (f := fun K => (He.Fa.free "min").ok K) rfl),
  He.free_ok X G (c.fact 73 (f := fun K => (He.Fa.free "range").ok K) rfl),
  He.free_ok X G (c.fact 74 (f := fun K => (He.Fa.free "repr").ok K) rfl),
  He.free_ok X G (c.fact 75 (f := fun K => (He.Fa.free "set").ok K) rfl),
  He.free_ok X G (c.fact 76 (f := fun K => (He.Fa.free "sorted").ok K) rfl),
  He.free_ok X G (c.fact 77 (f := fun K => (He.Fa.free "str").ok K) rfl),
  He.free_ok X G (c.fact 78 (f := fun K => (He.Fa.free "sum").ok K) rfl),
  He.free_ok X G (c.fact 79 (f := fun K => (He.Fa.free "tuple").ok K) rfl),
  He.free_ok X G (c.fact 80 (f := fun K => (He.Fa.free "zip").ok K) rfl),
  He.glo_ok X G (c.fact 81 (f := fun K => (He.Fa.glo "GoingError").ok K) rfl),
  He.glo_ok X G (c.fact 82 (f := fun K => (He.Fa.glo "LackError").ok K) rfl),
  He.glo_ok X G (c.fact 83 (f := fun K => (He.Fa.glo "BookError").ok K) rfl),
  He.glo_ok X G (c.fact 84 (f := fun K => (He.Fa.glo "NoTime").ok K) rfl),
  exo_of (c.fact 85 (f := exoB bmV "ValueError.__new__" "NoTime") rfl),
  He.glo_ok X G (c.fact 86 (f := fun K => (He.Fa.glo "NoPiece").ok K) rfl),
  exo_of (c.fact 87 (f := exoB bmV "ValueError.__new__" "NoPiece") rfl),
  He.glo_ok X G (c.fact 88 (f := fun K => (He.Fa.glo "NoDays").ok K) rfl),
  exo_of (c.fact 89 (f := exoB bmV "ValueError.__new__" "NoDays") rfl),
  He.glo_ok X G (c.fact 90 (f := fun K => (He.Fa.glo "NoCard").ok K) rfl),
  exo_of (c.fact 91 (f := exoB bmV "ValueError.__new__" "NoCard") rfl),
  He.glo_ok X G (c.fact 92 (f := fun K => (He.Fa.glo "NoLine").ok K) rfl),
  He.glo_ok X G (c.fact 93 (f := fun K => (He.Fa.glo "NoGoing").ok K) rfl),
  He.glo_ok X G (c.fact 94 (f := fun K => (He.Fa.glo "Ring").ok K) rfl),
  He.glo_ok X G (c.fact 95 (f := fun K => (He.Fa.glo "Days").ok K) rfl),
  He.glo_ok X G (c.fact 96 (f := fun K => (He.Fa.glo "Going").ok K) rfl),
  He.glo_ok X G (c.fact 97 (f := fun K => (He.Fa.glo "Short").ok K) rfl),
  He.glo_ok X G (c.fact 98 (f := fun K => (He.Fa.glo "At").ok K) rfl),
  He.glo_ok X G (c.fact 99 (f := fun K => (He.Fa.glo "Over").ok K) rfl),
  He.glo_ok X G (c.fact 100 (f := fun K => (He.Fa.glo "Spread").ok K) rfl),
  He.glo_ok X G (c.fact 101 (f := fun K => (He.Fa.glo "Card").ok K) rfl),
  He.glo_ok X G (c.fact 102 (f := fun K => (He.Fa.glo "Once").ok K) rfl),
  He.glo_ok X G (c.fact 103 (f := fun K => (He.Fa.glo "Every").ok K) rfl),
  He.glo_ok X G (c.fact 104 (f := fun K => (He.Fa.glo "Join").ok K) rfl),
  He.glo_ok X G (c.fact 105 (f := fun K => (He.Fa.glo "Less").ok K) rfl),
  He.glo_ok X G (c.fact 106 (f := fun K => (He.Fa.glo "Swap").ok K) rfl),
  He.glo_ok X G (c.fact 107 (f := fun K => (He.Fa.glo "Later").ok K) rfl),
  He.glo_ok X G (c.fact 108 (f := fun K => (He.Fa.glo "Noted").ok K) rfl),
  He.glo_ok X G (c.fact 109 (f := fun K => (He.Fa.glo "As").ok K) rfl),
  bxi_of (c.fact 110 (f := bxiF "LookupError.__init__" "LackError") rfl),
  clsM_of (c.fact 111 (f := clsMF "Card" "__init__") rfl),
  oex_of (c.fact 112 (f := oexF bmL "LookupError.__new__" "NoLine") rfl),
  He.meth_ok (c.fact 113 (f := fun K => (He.Fa.meth "NoLine" "__init__").ok K) rfl),
  xfB_ok (c.fact 114 (f := fun K => xfB K (He.ga K "NoLine")) rfl),
  He.noat_ok (c.fact 115 (f := fun K => (He.Fa.noat "NoLine" "name").ok K) rfl),
  He.cls_ok (c.fact 116 (f := fun K => (He.Fa.cls "Ring").ok K) rfl),
  insC_of (c.fact 117 (f := insB "Ring") rfl),
  He.noat_ok (c.fact 118 (f := fun K => (He.Fa.noat "Ring" "bits").ok K) rfl),
  He.meth_ok (c.fact 119 (f := fun K => (He.Fa.meth "Ring" "rings").ok K) rfl),
  He.mkr_ok (c.fact 120 (f := fun K => (He.Fa.mkr "Ring").ok K) rfl),
  of_decide_eq_true (c.fact 121 (f := kitF "Ring" "Ring" true) rfl),
  He.cls_ok (c.fact 122 (f := fun K => (He.Fa.cls "Days").ok K) rfl),
  insC_of (c.fact 123 (f := insB "Days") rfl),
  He.noat_ok (c.fact 124 (f := fun K => (He.Fa.noat "Days" "ring").ok K) rfl),
  He.noat_ok (c.fact 125 (f := fun K => (He.Fa.noat "Days" "since").ok K) rfl),
  He.noat_ok (c.fact 126 (f := fun K => (He.Fa.noat "Days" "till").ok K) rfl),
  He.noat_ok (c.fact 127 (f := fun K => (He.Fa.noat "Days" "out").ok K) rfl),
  He.noat_ok (c.fact 128 (f := fun K => (He.Fa.noat "Days" "also").ok K) rfl),
  He.meth_ok (c.fact 129 (f := fun K => (He.Fa.meth "Days" "has").ok K) rfl),
  He.mkr_ok (c.fact 130 (f := fun K => (He.Fa.mkr "Days").ok K) rfl),
  of_decide_eq_true (c.fact 131 (f := kitF "Days" "Days" true) rfl),
  He.cls_ok (c.fact 132 (f := fun K => (He.Fa.cls "Going").ok K) rfl),
  insC_of (c.fact 133 (f := insB "Going") rfl),
  He.noat_ok (c.fact 134 (f := fun K => (He.Fa.noat "Going" "moment").ok K) rfl),
  He.noat_ok (c.fact 135 (f := fun K => (He.Fa.noat "Going" "notes").ok K) rfl),
  He.mkr_ok (c.fact 136 (f := fun K => (He.Fa.mkr "Going").ok K) rfl),
  of_decide_eq_true (c.fact 137 (f := kitF "Going" "Going" true) rfl),
  He.cls_ok (c.fact 138 (f := fun K => (He.Fa.cls "At").ok K) rfl),
  insC_of (c.fact 139 (f := insB "At") rfl),
  He.noat_ok (c.fact 140 (f := fun K => (He.Fa.noat "At" "moment").ok K) rfl),
  He.meth_ok (c.fact 141 (f := fun K => (He.Fa.meth "At" "moments").ok K) rfl),
  He.meth_ok (c.fact 142 (f := fun K => (He.Fa.meth "At" "begins").ok K) rfl),
  He.meth_ok (c.fact 143 (f := fun K => (He.Fa.meth "At" "ends").ok K) rfl),
  He.meth_ok (c.fact 144 (f := fun K => (He.Fa.meth "At" "means_many").ok K) rfl),
  He.meth_ok (c.fact 145 (f := fun K => (He.Fa.meth "At" "nested").ok K) rfl),
  He.mkr_ok (c.fact 146 (f := fun K => (He.Fa.mkr "At").ok K) rfl),
  of_decide_eq_true (c.fact 147 (f := kitF "At" "Short" true) rfl),
  He.cls_ok (c.fact 148 (f := fun K => (He.Fa.cls "Over").ok K) rfl),
  insC_of (c.fact 149 (f := insB "Over") rfl),
  He.noat_ok (c.fact 150 (f := fun K => (He.Fa.noat "Over" "kept").ok K) rfl),
  He.noat_ok (c.fact 151 (f := fun K => (He.Fa.noat "Over" "many").ok K) rfl),
  He.noat_ok (c.fact 152 (f := fun K => (He.Fa.noat "Over" "step").ok K) rfl),
  He.meth_ok (c.fact 153 (f := fun K => (He.Fa.meth "Over" "moments").ok K) rfl),
  He.meth_ok (c.fact 154 (f := fun K => (He.Fa.meth "Over" "begins").ok K) rfl),
  He.meth_ok (c.fact 155 (f := fun K => (He.Fa.meth "Over" "ends").ok K) rfl),
  He.meth_ok (c.fact 156 (f := fun K => (He.Fa.meth "Over" "means_many").ok K) rfl),
  He.meth_ok (c.fact 157 (f := fun K => (He.Fa.meth "Over" "nested").ok K) rfl),
  He.mkr_ok (c.fact 158 (f := fun K => (He.Fa.mkr "Over").ok K) rfl),
  of_decide_eq_true (c.fact 159 (f := kitF "Over" "Short" true) rfl),
  He.cls_ok (c.fact 160 (f := fun K => (He.Fa.cls "Spread").ok K) rfl),
  insC_of (c.fact 161 (f := insB "Spread") rfl),
  He.noat_ok (c.fact 162 (f := fun K => (He.Fa.noat "Spread" "kept").ok K) rfl),
  He.noat_ok (c.fact 163 (f := fun K => (He.Fa.noat "Spread" "held").ok K) rfl),
  He.meth_ok (c.fact 164 (f := fun K => (He.Fa.meth "Spread" "moments").ok K) rfl),
  He.mkr_ok (c.fact 165 (f := fun K => (He.Fa.mkr "Spread").ok K) rfl),
  of_decide_eq_true (c.fact 166 (f := kitF "Spread" "Spread" true) rfl),
  He.cls_ok (c.fact 167 (f := fun K => (He.Fa.cls "Once").ok K) rfl),
  insC_of (c.fact 168 (f := insB "Once") rfl),
  He.noat_ok (c.fact 169 (f := fun K => (He.Fa.noat "Once" "spread").ok K) rfl),
  He.noat_ok (c.fact 170 (f := fun K => (He.Fa.noat "Once" "notes").ok K) rfl),
  He.noat_ok (c.fact 171 (f := fun K => (He.Fa.noat "Once" "own").ok K) rfl),
  He.noat_ok (c.fact 172 (f := fun K => (He.Fa.noat "Once" "held").ok K) rfl),
  He.noat_ok (c.fact 173 (f := fun K => (He.Fa.noat "Once" "weight").ok K) rfl),
  He.meth_ok (c.fact 174 (f := fun K => (He.Fa.meth "Once" "notes_at").ok K) rfl),
  He.meth_ok (c.fact 175 (f := fun K => (He.Fa.meth "Once" "moments_within").ok K) rfl),
  He.meth_ok (c.fact 176 (f := fun K => (He.Fa.meth "Once" "inner").ok K) rfl),
  of_decide_eq_true (c.fact 177 (f := sameF "Once" "Card" "inner") rfl),
  He.meth_ok (c.fact 178 (f := fun K => (He.Fa.meth "Once" "size").ok K) rfl),
  of_decide_eq_true (c.fact 179 (f := sameF "Once" "Card" "size") rfl),
  He.mkr_ok (c.fact 180 (f := fun K => (He.Fa.mkr "Once").ok K) rfl),
  of_decide_eq_true (c.fact 181 (f := kitF "Once" "Card" true) rfl),
  of_decide_eq_true (c.fact 182 (f := kitF "Once" "As" false) rfl),
  He.cls_ok (c.fact 183 (f := fun K => (He.Fa.cls "Every").ok K) rfl),
  insC_of (c.fact 184 (f := insB "Every") rfl),
  He.noat_ok (c.fact 185 (f := fun K => (He.Fa.noat "Every" "days").ok K) rfl),
  He.noat_ok (c.fact 186 (f := fun K => (He.Fa.noat "Every" "spread").ok K) rfl),
  He.noat_ok (c.fact 187 (f := fun K => (He.Fa.noat "Every" "notes").ok K) rfl),
  He.noat_ok (c.fact 188 (f := fun K => (He.Fa.noat "Every" "own").ok K) rfl),
  He.noat_ok (c.fact 189 (f := fun K => (He.Fa.noat "Every" "held").ok K) rfl),
  He.noat_ok (c.fact 190 (f := fun K => (He.Fa.noat "Every" "weight").ok K) rfl),
  He.meth_ok (c.fact 191 (f := fun K => (He.Fa.meth "Every" "notes_at").ok K) rfl),
  He.meth_ok (c.fact 192 (f := fun K => (He.Fa.meth "Every" "moments_within").ok K) rfl),
  He.meth_ok (c.fact 193 (f := fun K => (He.Fa.meth "Every" "inner").ok K) rfl),
  of_decide_eq_true (c.fact 194 (f := sameF "Every" "Card" "inner") rfl),
  He.meth_ok (c.fact 195 (f := fun K => (He.Fa.meth "Every" "size").ok K) rfl),
  of_decide_eq_true (c.fact 196 (f := sameF "Every" "Card" "size") rfl),
  He.mkr_ok (c.fact 197 (f := fun K => (He.Fa.mkr "Every").ok K) rfl),
  of_decide_eq_true (c.fact 198 (f := kitF "Every" "Card" true) rfl),
  of_decide_eq_true (c.fact 199 (f := kitF "Every" "As" false) rfl),
  He.cls_ok (c.fact 200 (f := fun K => (He.Fa.cls "Join").ok K) rfl),
  insC_of (c.fact 201 (f := insB "Join") rfl),
  He.noat_ok (c.fact 202 (f := fun K => (He.Fa.noat "Join" "held").ok K) rfl),
  He.noat_ok (c.fact 203 (f := fun K => (He.Fa.noat "Join" "weight").ok K) rfl),
  He.meth_ok (c.fact 204 (f := fun K => (He.Fa.meth "Join" "notes_at").ok K) rfl),
  He.meth_ok (c.fact 205 (f := fun K => (He.Fa.meth "Join" "inner").ok K) rfl),
  of_decide_eq_true (c.fact 206 (f := sameF "Join" "Card" "inner") rfl),
  He.meth_ok (c.fact 207 (f := fun K => (He.Fa.meth "Join" "size").ok K) rfl),
  of_decide_eq_true (c.fact 208 (f := sameF "Join" "Card" "size") rfl),
  He.meth_ok (c.fact 209 (f := fun K => (He.Fa.meth "Join" "moments_within").ok K) rfl),
  of_decide_eq_true (c.fact 210 (f := sameF "Join" "Card" "moments_within") rfl),
  He.mkr_ok (c.fact 211 (f := fun K => (He.Fa.mkr "Join").ok K) rfl),
  of_decide_eq_true (c.fact 212 (f := kitF "Join" "Card" true) rfl),
  of_decide_eq_true (c.fact 213 (f := kitF "Join" "As" false) rfl),
  He.cls_ok (c.fact 214 (f := fun K => (He.Fa.cls "Less").ok K) rfl),
  insC_of (c.fact 215 (f := insB "Less") rfl),
  He.noat_ok (c.fact 216 (f := fun K => (He.Fa.noat "Less" "held").ok K) rfl),
  He.noat_ok (c.fact 217 (f := fun K => (He.Fa.noat "Less" "weight").ok K) rfl),
  He.meth_ok (c.fact 218 (f := fun K => (He.Fa.meth "Less" "notes_at").ok K) rfl),
  He.meth_ok (c.fact 219 (f := fun K => (He.Fa.meth "Less" "inner").ok K) rfl),
  of_decide_eq_true (c.fact 220 (f := sameF "Less" "Card" "inner") rfl),
  He.meth_ok (c.fact 221 (f := fun K => (He.Fa.meth "Less" "size").ok K) rfl),
  of_decide_eq_true (c.fact 222 (f := sameF "Less" "Card" "size") rfl),
  He.meth_ok (c.fact 223 (f := fun K => (He.Fa.meth "Less" "moments_within").ok K) rfl),
  of_decide_eq_true (c.fact 224 (f := sameF "Less" "Card" "moments_within") rfl),
  He.mkr_ok (c.fact 225 (f := fun K => (He.Fa.mkr "Less").ok K) rfl),
  of_decide_eq_true (c.fact 226 (f := kitF "Less" "Card" true) rfl),
  of_decide_eq_true (c.fact 227 (f := kitF "Less" "As" false) rfl),
  He.cls_ok (c.fact 228 (f := fun K => (He.Fa.cls "Swap").ok K) rfl),
  insC_of (c.fact 229 (f := insB "Swap") rfl),
  He.noat_ok (c.fact 230 (f := fun K => (He.Fa.noat "Swap" "days").ok K) rfl),
  He.noat_ok (c.fact 231 (f := fun K => (He.Fa.noat "Swap" "held").ok K) rfl),
  He.noat_ok (c.fact 232 (f := fun K => (He.Fa.noat "Swap" "weight").ok K) rfl),
  He.meth_ok (c.fact 233 (f := fun K => (He.Fa.meth "Swap" "notes_at").ok K) rfl),
  He.meth_ok (c.fact 234 (f := fun K => (He.Fa.meth "Swap" "inner").ok K) rfl),
  of_decide_eq_true (c.fact 235 (f := sameF "Swap" "Card" "inner") rfl),
  He.meth_ok (c.fact 236 (f := fun K => (He.Fa.meth "Swap" "size").ok K) rfl),
  of_decide_eq_true (c.fact 237 (f := sameF "Swap" "Card" "size") rfl),
  He.meth_ok (c.fact 238 (f := fun K => (He.Fa.meth "Swap" "moments_within").ok K) rfl),
  of_decide_eq_true (c.fact 239 (f := sameF "Swap" "Card" "moments_within") rfl),
  He.mkr_ok (c.fact 240 (f := fun K => (He.Fa.mkr "Swap").ok K) rfl),
  of_decide_eq_true (c.fact 241 (f := kitF "Swap" "Card" true) rfl),
  of_decide_eq_true (c.fact 242 (f := kitF "Swap" "As" false) rfl),
  He.cls_ok (c.fact 243 (f := fun K => (He.Fa.cls "Later").ok K) rfl),
  insC_of (c.fact 244 (f := insB "Later") rfl),
  He.noat_ok (c.fact 245 (f := fun K => (He.Fa.noat "Later" "minutes").ok K) rfl),
  He.noat_ok (c.fact 246 (f := fun K => (He.Fa.noat "Later" "held").ok K) rfl),
  He.noat_ok (c.fact 247 (f := fun K => (He.Fa.noat "Later" "weight").ok K) rfl),
  He.meth_ok (c.fact 248 (f := fun K => (He.Fa.meth "Later" "notes_at").ok K) rfl),
  He.meth_ok (c.fact 249 (f := fun K => (He.Fa.meth "Later" "moments_within").ok K) rfl),
  He.meth_ok (c.fact 250 (f := fun K => (He.Fa.meth "Later" "inner").ok K) rfl),
  of_decide_eq_true (c.fact 251 (f := sameF "Later" "Card" "inner") rfl),
  He.meth_ok (c.fact 252 (f := fun K => (He.Fa.meth "Later" "size").ok K) rfl),
  of_decide_eq_true (c.fact 253 (f := sameF "Later" "Card" "size") rfl),
  He.mkr_ok (c.fact 254 (f := fun K => (He.Fa.mkr "Later").ok K) rfl),
  of_decide_eq_true (c.fact 255 (f := kitF "Later" "Card" true) rfl),
  of_decide_eq_true (c.fact 256 (f := kitF "Later" "As" false) rfl),
  He.cls_ok (c.fact 257 (f := fun K => (He.Fa.cls "Noted").ok K) rfl),
  insC_of (c.fact 258 (f := insB "Noted") rfl),
  He.noat_ok (c.fact 259 (f := fun K => (He.Fa.noat "Noted" "note").ok K) rfl),
  He.noat_ok (c.fact 260 (f := fun K => (He.Fa.noat "Noted" "held").ok K) rfl),
  He.noat_ok (c.fact 261 (f := fun K => (He.Fa.noat "Noted" "weight").ok K) rfl),
  He.meth_ok (c.fact 262 (f := fun K => (He.Fa.meth "Noted" "notes_at").ok K) rfl),
  He.meth_ok (c.fact 263 (f := fun K => (He.Fa.meth "Noted" "inner").ok K) rfl),
  of_decide_eq_true (c.fact 264 (f := sameF "Noted" "Card" "inner") rfl),
  He.meth_ok (c.fact 265 (f := fun K => (He.Fa.meth "Noted" "size").ok K) rfl),
  of_decide_eq_true (c.fact 266 (f := sameF "Noted" "Card" "size") rfl),
  He.meth_ok (c.fact 267 (f := fun K => (He.Fa.meth "Noted" "moments_within").ok K) rfl),
  of_decide_eq_true (c.fact 268 (f := sameF "Noted" "Card" "moments_within") rfl),
  He.mkr_ok (c.fact 269 (f := fun K => (He.Fa.mkr "Noted").ok K) rfl),
  of_decide_eq_true (c.fact 270 (f := kitF "Noted" "Card" true) rfl),
  of_decide_eq_true (c.fact 271 (f := kitF "Noted" "As" false) rfl),
  He.cls_ok (c.fact 272 (f := fun K => (He.Fa.cls "As").ok K) rfl),
  insC_of (c.fact 273 (f := insB "As") rfl),
  He.noat_ok (c.fact 274 (f := fun K => (He.Fa.noat "As" "name").ok K) rfl),
  He.noat_ok (c.fact 275 (f := fun K => (He.Fa.noat "As" "held").ok K) rfl),
  He.noat_ok (c.fact 276 (f := fun K => (He.Fa.noat "As" "weight").ok K) rfl),
  He.meth_ok (c.fact 277 (f := fun K => (He.Fa.meth "As" "inner").ok K) rfl),
  of_decide_eq_true (c.fact 278 (f := sameF "As" "Card" "inner") rfl),
  He.meth_ok (c.fact 279 (f := fun K => (He.Fa.meth "As" "size").ok K) rfl),
  of_decide_eq_true (c.fact 280 (f := sameF "As" "Card" "size") rfl),
  He.meth_ok (c.fact 281 (f := fun K => (He.Fa.meth "As" "notes_at").ok K) rfl),
  of_decide_eq_true (c.fact 282 (f := sameF "As" "Card" "notes_at") rfl),
  He.meth_ok (c.fact 283 (f := fun K => (He.Fa.meth "As" "moments_within").ok K) rfl),
  of_decide_eq_true (c.fact 284 (f := sameF "As" "Card" "moments_within") rfl),
  He.mkr_ok (c.fact 285 (f := fun K => (He.Fa.mkr "As").ok K) rfl),
  of_decide_eq_true (c.fact 286 (f := kitF "As" "Card" true) rfl),
  of_decide_eq_true (c.fact 287 (f := kitF "As" "As" true) rfl),
  of_decide_eq_true (c.fact 288 (f := exm1F "NoTime" "LackError" false) rfl),
  of_decide_eq_true (c.fact 289 (f := exm1F "NoTime" "GoingError" true) rfl),
  excC_of (c.fact 290 (f := excCB "NoTime") rfl),
  of_decide_eq_true (c.fact 291 (f := kitF "NoTime" "LackError" false) rfl),
  of_decide_eq_true (c.fact 292 (f := kitF "NoTime" "BookError" false) rfl),
  of_decide_eq_true (c.fact 293 (f := kitF "NoTime" "NoTime" true) rfl),
  of_decide_eq_true (c.fact 294 (f := kitF "NoTime" "NoCard" false) rfl),
  of_decide_eq_true (c.fact 295 (f := kitFT "NoTime" "ValueError" true) rfl),
  of_decide_eq_true (c.fact 296 (f := exm1F "NoLine" "LackError" true) rfl),
  excC_of (c.fact 297 (f := excCB "NoLine") rfl),
  of_decide_eq_true (c.fact 298 (f := kitF "NoLine" "GoingError" false) rfl),
  of_decide_eq_true (c.fact 299 (f := kitF "NoLine" "BookError" false) rfl),
  of_decide_eq_true (c.fact 300 (f := kitF "NoLine" "NoLine" true) rfl),
  of_decide_eq_true (c.fact 301 (f := kitF "NoLine" "NoGoing" false) rfl),
  of_decide_eq_true (c.fact 302 (f := kitFT "NoLine" "LookupError" true) rfl),
  c.def_ 0 (d := d_NoLine_init) rfl,
  c.def_ 1 (d := d_is_whole) rfl,
  c.def_ 2 (d := d_is_moment) rfl,
  c.def_ 3 (d := d_want_moment) rfl,
  c.def_ 4 (d := d_want_day) rfl,
  c.def_ 5 (d := d_are_signs) rfl,
  c.def_ 6 (d := d_Ring_init) rfl,
  c.def_ 7 (d := d_Ring_rings) rfl,
  c.def_ 8 (d := d_told_days) rfl,
  c.def_ 9 (d := d_want_till) rfl,
  c.def_ 10 (d := d_Days_init) rfl,
  c.def_ 11 (d := d_Days_has) rfl,
  c.def_ 12 (d := d_is_name) rfl,
  c.def_ 13 (d := d_notes_of) rfl,
  c.def_ 14 (d := d_notes_together) rfl,
  c.def_ 15 (d := d_Going_init) rfl,
  c.def_ 16 (d := d_is_number) rfl,
  c.def_ 17 (d := d_all_rising) rfl,
  c.def_ 18 (d := d_shorts_in) rfl,
  c.def_ 19 (d := d_row_moments) rfl,
  c.def_ 20 (d := d_row_many) rfl,
  c.def_ 21 (d := d_At_init) rfl,
  c.def_ 22 (d := d_At_moments) rfl,
  c.def_ 23 (d := d_At_begins) rfl,
  c.def_ 24 (d := d_At_ends) rfl,
  c.def_ 25 (d := d_At_means_many) rfl,
  c.def_ 26 (d := d_At_nested) rfl,
  c.def_ 27 (d := d_Over_init) rfl,
  c.def_ 28 (d := d_Over_moments) rfl,
  c.def_ 29 (d := d_Over_begins) rfl,
  c.def_ 30 (d := d_Over_ends) rfl,
  c.def_ 31 (d := d_Over_means_many) rfl,
  c.def_ 32 (d := d_Over_nested) rfl,
  c.def_ 33 (d := d_Spread_init) rfl,
  c.def_ 34 (d := d_Spread_moments) rfl,
  c.def_ 35 (d := d_want) rfl,
  c.def_ 36 (d := d_Card_init) rfl,
  c.def_ 37 (d := d_Card_inner) rfl,
  c.def_ 38 (d := d_Card_size) rfl,
  c.def_ 39 (d := d_Card_notes_at) rfl,
  c.def_ 40 (d := d_Card_moments_within) rfl,
  c.def_ 41 (d := d_Once_init) rfl,
  c.def_ 42 (d := d_Once_notes_at) rfl,
  c.def_ 43 (d := d_Once_moments_within) rfl,
  c.def_ 44 (d := d_Every_init) rfl,
  c.def_ 45 (d := d_Every_notes_at) rfl,
  c.def_ 46 (d := d_Every_moments_within) rfl,
  c.def_ 47 (d := d_Join_init) rfl,
  c.def_ 48 (d := d_Join_notes_at) rfl,
  c.def_ 49 (d := d_Less_init) rfl,
  c.def_ 50 (d := d_Less_notes_at) rfl,
  c.def_ 51 (d := d_Swap_init) rfl,
  c.def_ 52 (d := d_Swap_notes_at) rfl,
  c.def_ 53 (d := d_Later_init) rfl,
  c.def_ 54 (d := d_Later_notes_at) rfl,
  c.def_ 55 (d := d_Noted_init) rfl,
  c.def_ 56 (d := d_Noted_notes_at) rfl,
  c.def_ 57 (d := d_As_init) rfl,
  c.def_ 58 (d := d_first_as) rfl,
  c.def_ 59 (d := d_want_card) rfl,
  c.def_ 60 (d := d_want_known) rfl,
  c.def_ 61 (d := d_goings_within) rfl,
  c.def_ 62 (d := d_going_at) rfl,
  c.def_ 63 (d := d_goings_on) rfl,
  c.def_ 64 (d := d__law_pot) rfl,
  c.def_ 65 (d := d__law_take) rfl,
  c.def_ 66 (d := d__law_great) rfl,
  c.def_ 67 (d := d__law_name) rfl,
  c.def_ 68 (d := d__law_notes_drawn) rfl,
  c.def_ 69 (d := d__law_runs) rfl,
  c.def_ 70 (d := d__law_moments_of) rfl,
  c.def_ 71 (d := d__law_spread) rfl,
  c.def_ 72 (d := d__law_days_drawn) rfl,
  c.def_ 73 (d := d__law_has) rfl,
  c.def_ 74 (d := d__law_days_made) rfl,
  c.def_ 75 (d := d__law_leaf) rfl,
  c.def_ 76 (d := d__law_card) rfl,
  c.def_ 77 (d := d__law_inner) rfl,
  c.def_ 78 (d := d__law_together) rfl,
  c.def_ 79 (d := d__law_notes) rfl,
  c.def_ 80 (d := d__law_made) rfl,
  c.def_ 81 (d := d__law_first) rfl,
  c.def_ 82 (d := d__law_many) rfl,
  c.def_ 83 (d := d__law_lack) rfl,
  c.def_ 84 (d := d__law_no) rfl,
  c.def_ 85 (d := d__law_asked) rfl,
  c.def_ 86 (d := d__law_told_right) rfl,
  c.def_ 87 (d := d__law_lack_right) rfl,
  c.def_ 88 (d := d__law_around) rfl,
  c.def_ 89 (d := d__law_all_notes) rfl,
  c.def_ 90 (d := d_law) rfl⟩
end Toy
open PySem PySem.W PySem.Calls PyProof.Rows
set_option maxRecDepth 100000 in
set_option maxHeartbeats 0 in
theorem PySem.Challenge.cw_shortgoings_k58_as_without_a_book_holds : PySem.Challenge.rw_shortgoings_k58_as_without_a_book.Holds := by
  w_on; o_law
  refine HandSHeadRun.head_any (r := OpenLaw.row PySem.Challenge.rw_shortgoings_k58_as_without_a_book) (q := view (OpenLaw.row PySem.Challenge.rw_shortgoings_k58_as_without_a_book).prog [110]) (H := Toy.hk) (ob := Toy.ob) (M := 10600) (loose := Toy.nss) (d := HandSHeadRun.topDef (OpenLaw.row PySem.Challenge.rw_shortgoings_k58_as_without_a_book).prog 110) (kwd := []) Toy.ob_eq
    (by kernel_rfl) (fun s => by kernel_rfl) Toy.run (by kernel_rfl) (by kernel_rfl) (by kernel_rfl) (by rfl) (by first | assumption | decide +kernel) (by decide +kernel) ⟨rfl, rfl, rfl, rfl, rfl, by decide +kernel⟩ ?hw ?hc
  case hw => w_witness2
  case hc =>
    refine L3.walk_end (l := PySem.Challenge.rw_shortgoings_k58_as_without_a_book) (n := 63) (k := 222) (x := "_law_script") rfl (by decide) (by kernel_rfl) (L3.rm_caller.mono (by decide)) ?F
    intro w mg fa h Y G hmg0
    obtain ⟨K, KX, c⟩ := Y
    have hmg : mg ("law" : PySem.Str) = some (.ref fa) := by
      have e : (HandSHeadRun.topDef (OpenLaw.row PySem.Challenge.rw_shortgoings_k58_as_without_a_book).prog 110).name = ("law" : PySem.Str) := by kernel_rfl
      rw [← e]
      exact hmg0
    have T := Toy.env_of KX G c
    have e := hmg.symm.trans T.g_law
    cases e
    obtain ⟨fd, F⟩ := T.f_law
    have b := L2.FunD.bindsA (ps := ["_law_script"]) F fun _ _ _ _ _ _ us hl => match us, hl with | [_], _ => rfl
    exact ⟨K, fd, Toy.sp_law K, KX, fun s v => b s [v] rfl, fun H a ns hl hS => ⟨a, ns, rfl, hS, hl, fun _ => rfl⟩, fun base _ _ => Toy.ok_law T F⟩
