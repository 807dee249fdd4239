import PyProof.Rows.All
import Wide.All
import OpenK.AllK
import Wide.FinOn
import PyProof.EqAt
import PyProof.EqKinds
import PyProof.TupleCall
import HandS.ForMost
import HandS.ForExc
import HandS.Defaults
import HandS.MakeKwOnly
import HandS.WideBits
import HandS.IsInst
import HandS.Flow
import HandS.Style
import HandS.Evl
import HandS.StrMore
import HandS.TupAny
import HandS.SortInts
import HandS.RaiseMore
import HandS.Zip
import HandS.Head0
import HandS.Head1
import HandS.Head2
import HandS.HeadEnd
import HandS.HeadHook1
import HandS.HeadHook2
import HandS.Walk
import PyProof.Rows.StrJoinRep
import PyProof.StrLawsLast
import HandS.Codes
import HandS.ExcIs
import KE.KTryMore
import KE.KFmtOwn
import PyProof.InstSpecial
import HandS.TryOnly
import HandS.FStr
import HandS.Conv
import HandS.SetFor
import HandS.Strs
import HandS.OwnEq
import HandS.Deep
import HandS.RaiseFrom
import HandS.SuiteRaise
import HandS.Exc
import KE.GoesMore
import HandS.HotCalls
import HandS.ExcField
import HandS.More
import HandS.SetTxt0
import KE.KExcInit
import HandS.ExcInit
import HandS.ExcValue
import KE.KDictZip
import HandS.TupMul
import PySem.Challenge.RW_shortgoings_k55_what_is_no_card
set_option Elab.async false
set_option linter.all false
set_option maxRecDepth 100000
set_option maxHeartbeats 4000000
namespace L3
open PySem PySem.Spec PyProof.Rows L2
structure Rm (k : Nat) (A : Around) : Prop where
  rm : Room k A
  gd : A.guards = some []
theorem Rm.mono {j k : Nat} {A : Around} (r : Rm k A) (h : j ≤ k) : Rm j A := ⟨r.rm.mono h, r.gd⟩
theorem Rm.deeper {k : Nat} {A : Around} (r : Rm (k + 1) A) (env : Env) : Rm k (A.deeper env) := ⟨r.rm.deeper env, r.gd⟩
theorem make_guards {A : Around} {C : Addr} {us : List Value} {kw : List (Str × Value)} : (A.under (.builtin "type.__call__" ⟨.ref C :: us, kw⟩)).guards = A.guards := by
  have e : Code.guards (.builtin "type.__call__" ⟨.ref C :: us, kw⟩) = [] := by
    first | rfl | simp [Code.guards, Code.isGuard, guardIds]
  show pushGuards (Code.guards (.builtin "type.__call__" ⟨.ref C :: us, kw⟩)) A.guards = A.guards
  rw [e]
  cases A.guards <;> rfl
theorem Rm.make {k : Nat} {A : Around} (r : Rm (k + 1) A) (C : Addr) (us : List Value) (kw : List (Str × Value)) : Rm k (A.under (.builtin "type.__call__" ⟨.ref C :: us, kw⟩)) :=
  ⟨r.rm.make C us kw, make_guards.trans r.gd⟩
structure Fb (P : Program) (w : World) (K : PySem.W.Frag) (mg : Str → Option Value) (base : Heap) (k : Nat) (f : Addr) (fd : FuncData) (ps : List Str) (sp : Sp) : Prop where
  len : ∀ vs H Q E, sp vs H Q E → vs.length = ps.length
  run : ∀ (A : Around) (outer : List Env) (s : Shared) (H : Hp) (args : Args) (us : List Value) (vs : List V) (Q : VK) (E : XK), Rm k A → Env0 P w K mg base A outer s H → BindsTo s fd args (ps.zip us) → Vals vs us → sp vs H Q E →
    codeAny (model P w) A (.call (.ref f) args) (CR (L2.CX P w) outer P w H s Q E) s
section
variable {P : Program} {w : World} {K : PySem.W.Frag} {mg : Str → Option Value} {base : Heap} {x qual : Str} {params : Arguments} {body : List Stmt} {scope : Scope} {dvs : List V} {kws : List (Str × V)} {f : Addr} {fd : FuncData} {k : Nat} {ps N : List Str} {sp : Sp}
theorem fb_of (F : FunD K x qual params body scope dvs kws f fd) (S : FnScope N ps scope) (len : ∀ vs H Q E, sp vs H Q E → vs.length = ps.length)
    (hbody : ∀ (cdv : Value) (A : Around) (outer : List Env) (s : Shared) (H : Hp) (vs : List V) (Q : VK) (E : XK), Rm k (A.deeper (envOfC qual scope s.heap.objs.size f cdv)) → sp vs H Q E →
      ∃ t, PSs (cxOf (L2.CX P w) P w K mg base N qual scope f cdv A outer s H E) body t ∧ t { nx := fun _ H' => Q .non H', rt := Q } (start N vs) H) : Fb P w K mg base (k + 1) f fd ps sp := by
  obtain ⟨oc, od, dV, kV, doc, pm, an, cdv, ct, osl, rfl, lk, hcd, _, _⟩ := F.ex
  refine ⟨len, fun A outer s H args us vs Q E hr e0 hb r hsp => ?_⟩
  have hl := len _ _ _ _ hsp
  have KX : K.In s.heap := e0.mod.kin.keeps fun b o e => (e0.bs b o e).1
  have lim : s.heap.NoLimit := e0.mod.nolimit.keeps fun b o e => (e0.bs b o e).1
  have hkind : ∀ y ∈ ps.zip us, scope.names.lookup y.1 = some .local ∨ (scope.names.lookup y.1 = some .cell ∧ ((cellsFrom (s.heap.objs.size + 1) scope.names []).lookup y.1).isSome = true) := fun ⟨n, v⟩ hy => by
    rcases S.par n (List.of_mem_zip hy).1 with q | q
    · exact .inl q
    · exact .inr ⟨q, PySem.W.cellsFrom_some _ _ _ (.inl q)⟩
  refine codeAny_call_function hr.rm.depth (KX _ _ lk) rfl S.co S.gen rfl (PySem.W.codeRec_of KX hcd) (hb _ _ _ _ ?_)
  refine wpAny_newFunctionEnv_cells S.kind hkind fun env he s1 x => ?_
  subst he
  refine ⟨lim.keeps x.toInCall.keep, codeAny_func ?_⟩
  obtain ⟨t, ht, hq⟩ := hbody cdv A outer s H vs Q E (hr.deeper _) hsp
  have I : Inv (cxOf (L2.CX P w) P w K mg base N qual scope f cdv A outer s H E) [] (start N vs) H s1 := inv_start S hr.rm.hd e0 hl r x
  refine wpAny_mono (ht.run [] s1 (start N vs) H _ I hq) (fun fl s' hs => ?_) fun e s' hs => hs
  have fin : ∀ {σ' : L2.St} {H' : Hp} {v : V} {u : Value}, Inv (cxOf (L2.CX P w) P w K mg base N qual scope f cdv A outer s H E) [] σ' H' s' → RelV v u → Q v H' → CE outer P w H s Q u s' :=
    fun {σ' H' v u} J rv q => ⟨v, H', J.os, J.bare, J.base, J.hok, rv, q⟩
  cases fl with
  | ret u =>
    obtain ⟨v, σ', H', J, rv, q⟩ := hs
    exact fin J rv q
  | next =>
    obtain ⟨σ', H', J, q⟩ := hs
    exact fin (v := V.non) (u := Value.none) J rfl q
  | brk =>
    obtain ⟨_, _, _, q⟩ := hs
    exact False.elim q
  | cont =>
    obtain ⟨_, _, _, q⟩ := hs
    exact False.elim q
theorem Fb.mono {j : Nat} (F : Fb P w K mg base j f fd ps sp) (h : j ≤ k) : Fb P w K mg base k f fd ps sp := ⟨F.len, fun A outer s H args us vs Q E hr => F.run A outer s H args us vs Q E (hr.mono h)⟩
theorem Fb.imp {sp' : Sp} (F : Fb P w K mg base k f fd ps sp) (h : ∀ vs H Q E, sp' vs H Q E → sp vs H Q E) : Fb P w K mg base k f fd ps sp' :=
  ⟨fun vs H Q E q => F.len vs H Q E (h _ _ _ _ q), fun A outer s H args us vs Q E hr he hb hv hs => F.run A outer s H args us vs Q E hr he hb hv (h _ _ _ _ hs)⟩
def Fc (P : Program) (w : World) (K : PySem.W.Frag) (mg : Str → Option Value) (base : Heap) (k : Nat) (f : Addr) (ks : List Str) (sp : Sp) : Prop :=
  ∀ (A : Around) (outer : List Env) (s : Shared) (H : Hp) (us ws : List Value) (vs : List V) (Q : VK) (E : XK), Rm k A → Env0 P w K mg base A outer s H → Vals vs (us ++ ws) → ws.length = ks.length → sp vs H Q E →
    codeAny (model P w) A (.call (.ref f) ⟨us, ks.zip ws⟩) (CR (L2.CX P w) outer P w H s Q E) s
theorem Fc.mono {j : Nat} {ks : List Str} (F : Fc P w K mg base j f ks sp) (h : j ≤ k) : Fc P w K mg base k f ks sp := fun A outer s H us ws vs Q E hr => F A outer s H us ws vs Q E (hr.mono h)
theorem Fc.imp {sp' : Sp} {ks : List Str} (F : Fc P w K mg base k f ks sp) (h : ∀ vs H Q E, sp' vs H Q E → sp vs H Q E) : Fc P w K mg base k f ks sp' :=
  fun A outer s H us ws vs Q E hr he hv hl hs => F A outer s H us ws vs Q E hr he hv hl (h _ _ _ _ hs)
/-- every parameter is given by place -/
theorem Fb.all (F : Fb P w K mg base k f fd ps sp) (hb : Binds K fd ps []) : Fc P w K mg base k f [] sp := fun A outer s H us ws vs Q E hr e0 r hl h => by
  cases ws with
  | cons w ws => cases hl
  | nil =>
    rw [List.append_nil] at r
    have KX : K.In s.heap := e0.mod.kin.keeps fun b o e => (e0.bs b o e).1
    have l2 : us.length = ps.length := by rw [← r.length]; exact F.len _ _ _ _ h
    have b := hb s us KX (by rw [List.append_nil]; exact l2)
    rw [List.append_nil] at b
    exact F.run A outer s H ⟨us, []⟩ us vs Q E hr e0 b r h
/-- some by place, some by name, some left out: g puts the given ones and the defaults into the parameters' order -/
theorem Fb.shape (D : FunD K x qual params body scope dvs kws f fd) (F : Fb P w K mg base k f fd ps sp) (n : Nat) (ks : List Str) (g : {α : Type} → List α → List α → List α) (hd : dvs ≠ [])
    (hrel : ∀ {vs ds : List V} {us its : List Value}, Vals vs us → Vals ds its → Vals (g vs ds) (g us its))
    (h : ∀ (T : Addr) (kV doc pm : Value) (an : Option Addr) (cdv ct : Value) (us ws its : List Value), us.length = n → ws.length = ks.length → its.length = dvs.length →
      ∃ k, bindArgs (PySem.W.fnOf x qual params body scope (.ref T) kV doc pm an cdv ct) ⟨us, ks.zip ws⟩ = seqItems? (.ref T) >>= k ∧ k (some its.toArray) = pure (ps.zip (g (us ++ ws) its))) :
    Fc P w K mg base k f ks (fun vs H Q E => vs.length = n + ks.length ∧ sp (g vs dvs) H Q E) := by
  obtain ⟨oc, od, dV, kV, doc, pm, an, cdv, ct, osl, rfl, lk, hcd, hD, hK⟩ := D.ex
  rcases hD with ⟨e, _⟩ | ⟨_, T, o, its, m, rfl, lT, oT, rT⟩
  · exact absurd e hd
  · intro A outer s H us ws vs Q E hr e0 r hl hsp
    have KX : K.In s.heap := e0.mod.kin.keeps fun b o e => (e0.bs b o e).1
    have l1 : its.length = dvs.length := rT.length.symm
    have l2 : us.length = n := by
      have e := r.length
      rw [hsp.1, List.length_append, hl] at e
      omega
    obtain ⟨k, e1, e2⟩ := h T kV doc pm an cdv ct us ws its l2 hl l1
    refine F.run A outer s H ⟨us, ks.zip ws⟩ (g (us ++ ws) its) (g vs dvs) Q E hr e0 (BindsTo.of_looks fun M => ?_) (hrel r rT) hsp.2
    rw [e1]
    exact looks_items KX lT oT (.of_pure e2)
/-- all parameters given, some by name, no defaults -/
theorem Fb.names (D : FunD K x qual params body scope [] kws f fd) (F : Fb P w K mg base k f fd ps sp) (n : Nat) (ks : List Str) (g : {α : Type} → List α → List α)
    (hrel : ∀ {vs : List V} {us : List Value}, Vals vs us → Vals (g vs) (g us))
    (h : ∀ (kV doc pm : Value) (an : Option Addr) (cdv ct : Value) (us ws : List Value), us.length = n → ws.length = ks.length →
      bindArgs (PySem.W.fnOf x qual params body scope .none kV doc pm an cdv ct) ⟨us, ks.zip ws⟩ = pure (ps.zip (g (us ++ ws)))) :
    Fc P w K mg base k f ks (fun vs H Q E => vs.length = n + ks.length ∧ sp (g vs) H Q E) := by
  obtain ⟨oc, od, dV, kV, doc, pm, an, cdv, ct, osl, rfl, lk, hcd, hD, hK⟩ := D.ex
  rcases hD with ⟨_, rfl⟩ | ⟨e, _⟩
  · intro A outer s H us ws vs Q E hr e0 r hl hsp
    have l2 : us.length = n := by
      have e := r.length
      rw [hsp.1, List.length_append, hl] at e
      omega
    exact F.run A outer s H ⟨us, ks.zip ws⟩ (g (us ++ ws)) (g vs) Q E hr e0 (.of_eq (h kV doc pm an cdv ct us ws l2 hl)) (hrel r) hsp.2
  · exact absurd rfl e
end
def tFc (sp : Sp) (W : WX) (t : TA) : TE := fun σ H Q => t σ H fun vs H1 => sp vs H1 Q (WE W σ)
section
variable {X : Cx} {k : Nat} {f C : Addr} {ks : List Str} {sp : Sp} {W : WX} {x m : Str} {p pos apos : Pos} {e o : Expr} {es : List Expr} {kws : List Keyword} {ta : TE} {t tk : TA}
theorem run_fc {pins : List (Addr × Obj)} {σ : L2.St} {H : Hp} {s : Shared} {Q : VK} {us ws : List Value} {vs : List V} (F : Fc X.prog X.w X.K X.mg X.base k f ks sp) (hr : Rm k X.A) (hx : Takes X W)
    (I : Inv X pins σ H s) (r : Vals vs (us ++ ws)) (hl : ws.length = ks.length) (h : sp vs H Q (WE W σ)) : wpAny (model X.prog X.w) X.A (call (.ref f) us (ks.zip ws)) (EP X pins σ Q) X.xe s := by
  refine wpAny_call (codeAny_mono (F X.A X.stack s H us ws vs Q (WE W σ) hr I.env0 r hl h) fun r s' hq => ?_)
  cases r with
  | error e => exact passAt hx σ pins H s e s' I hq
  | ok fl =>
    cases fl with
    | ret u => exact I.after hq
    | next => exact False.elim hq
    | brk => exact False.elim hq
    | cont => exact False.elim hq
/-- f(e, ..) -/
theorem c_call (F : Fc X.prog X.w X.K X.mg X.base k f [] sp) (hr : Rm k X.A) (hm : X.mg x = some (.ref f)) (hk : PySem.W.keepIn X.K (.ref f) = true) (hx : Takes X W)
    (ha : PA X (e :: es) t) (hg : Gl X x := by rfl) (hdb : (x == ("__debug__" : Str)) = false := by decide) (he : starEach (e :: es) X.env = (false, eval e X.env) :: starEach es X.env := by rfl) (hpl : (backTo pos (starEach es X.env)).any (·.1) = false := by rfl) :
    PE X (.Call (.Name x p) (e :: es) [] pos) (tFc sp W t) := by
  refine ⟨fun pins s σ H Q I h => ?_⟩
  refine wpAny_Call_Name_kw (ld_glob I hg hm ?_ hdb)
  refine PySem.W.callWith_K (h₀ := X.base) I.ok.mod.kin hk (thn (ha.run pos pins s σ H _ I h) fun us s1 ⟨vs, H1, I1, r, q⟩ => ⟨I1.kIn, ?_⟩) he hpl
  exact run_fc (ws := []) F hr hx I1 (by rw [List.append_nil]; exact r) rfl q
end
theorem rm_caller : Rm 230 callerA := ⟨⟨rfl, by decide, by decide⟩, rfl⟩
section
variable {P : Program} {w : World} {K : PySem.W.Frag} {mg mb : Str → Option Value} {k : Nat} {fa a : Addr} {fd : FuncData} {x : Str} {sp : Sp} {s₁ : Shared} {vs : List Value} {ns : List Int}
/-- the law's call over one abstract heap, in which at most the script is tracked -/
theorem law_core (H : Hp) (KX : K.In s₁.heap) (hns : s₁.heap.Ns mainGlobals mg) (hb : s₁.heap.Ns builtinsNs mb) (hbb : ∀ x : Str, x ≠ "__name__" → mb x = bootBuiltins x) (hlim : s₁.heap.NoLimit) (hg : s₁.gens = #[])
    (ha : s₁.heap.get? a = some { cls := .type "list", data := .seq vs.toArray }) (hr : Rm k callerA)
    (F : ∀ base : Heap, K.In base → base.Ns mainGlobals mg → Fb P w K mg base k fa fd [x] sp) (hbind : ∀ (s : Shared) (u : Value), BindsTo s fd ⟨[u], []⟩ [(x, u)])
    (hO : Only H) (hsp : sp [.ref a] H (fun v _ => v = .bl true) fun _ _ _ => False) (hok : HOk P w H s₁.heap) (hA : ∀ b, H b ≠ none → b = a) (hK : H a ≠ none → K.lookup a = none) :
    codeAny (model P w) callerA (.call (.ref fa) ⟨[.ref a], []⟩) (fun r s' => r = .ok (.ret (.bool true)) ∧ OldK s₁.heap s'.heap ∧ s'.os = s₁.os ∧ AllBare s'.gens) s₁ := by
  have isA : ∀ {b : Addr} {u : HO}, H b = some u → b = a := fun {b u} q => hA b (fun z => nomatch (q.symm.trans z))
  have free : ∀ {b : Addr} {o : Obj} {es : Array DictEntry} {ep : Nat}, s₁.heap.get? b = some o → o.data = .dict es ep → H b = none := fun {b o es ep} e d => by
    cases q : H b with
    | none => rfl
    | some u =>
      have eb := isA q
      subst eb
      rw [ha] at e
      cases e
      cases (show Data.seq vs.toArray _ = Data.dict es ep from d)
  have nsK : ∀ {b : Addr} {m : Str → Option Value}, s₁.heap.Ns b m → (hidT s₁.heap H).Ns b m := fun {b m} ⟨o, es, ep, e, d, r⟩ => ⟨o, es, ep, hidT_get e (free e d), d, r⟩
  have inK : K.In (hidT s₁.heap H) := fun b o e => hidT_get (KX b o e) (by
    cases q : H b with
    | none => rfl
    | some u =>
      have eb := isA q
      subst eb
      rw [hK (fun z => nomatch (q.symm.trans z))] at e
      cases e)
  have hM : Mod K mg (hidT s₁.heap H) := ⟨inK, nsK hns, ⟨mb, nsK hb, hbb⟩, let ⟨mc, h1, h2⟩ := hlim; ⟨mc, nsK h1, h2⟩⟩
  have e0 : Env0 P w K mg (hidT s₁.heap H) callerA [] s₁ H := ⟨rfl, hM, fun b o e => of_hidT e, Nat.le_of_eq (hidT_size _ _), trivial, (fun b z => nomatch (show b ∈ ([] : List Addr) from z)), hok, .of_eq hg⟩
  refine codeAny_mono ((F _ inK (nsK hns)).run callerA [] s₁ H ⟨[.ref a], []⟩ [.ref a] [.ref a] _ _ hr e0 (hbind s₁ (.ref a)) (.cons rfl .nil) hsp) fun r s' h => ?_
  cases r with
  | error e =>
    obtain ⟨_, _, _, _, _, _, _, _, _, _, _, _, z⟩ := h
    exact z.elim
  | ok fl =>
    cases fl with
    | next => exact h.elim
    | brk => exact h.elim
    | cont => exact h.elim
    | ret u =>
      obtain ⟨v, H', os, bare, un, hok2, rv, rfl⟩ := h
      obtain rfl : u = Value.bool true := rv
      refine ⟨rfl, OldK.of_keep fun b o e => ?_, os, bare⟩
      cases q : H b with
      | none => exact un.keep b o e q (fun z => nomatch (show b ∈ ([] : List Addr) from z)) (fun z => nomatch z)
      | some u =>
        rcases hO b with z | ⟨ob, xs, z⟩
        · exact nomatch (q.symm.trans z)
        · have e1 := (hok b _ z).1
          have e2 := (hok2 b _ (un.frzs b ob _ z)).1
          rw [e] at e1
          cases e1
          exact e2
theorem law_end (KX : K.In s₁.heap) (hns : s₁.heap.Ns mainGlobals mg) (hb : s₁.heap.Ns builtinsNs mb) (hbb : ∀ x : Str, x ≠ "__name__" → mb x = bootBuiltins x) (hlim : s₁.heap.NoLimit) (hg : s₁.gens = #[])
    (ha : s₁.heap.get? a = some { cls := .type "list", data := .seq vs.toArray }) (hi : IntsAre vs ns) (hl : ns.length ≤ sizeLine) (hr : Rm k callerA)
    (F : ∀ base : Heap, K.In base → base.Ns mainGlobals mg → Fb P w K mg base k fa fd [x] sp) (hbind : ∀ (s : Shared) (u : Value), BindsTo s fd ⟨[u], []⟩ [(x, u)])
    (hsp : ∀ H : Hp, SqL K H a (ns.map V.int) → sp [.ref a] H (fun v _ => v = .bl true) fun _ _ _ => False) :
    codeAny (model P w) callerA (.call (.ref fa) ⟨[.ref a], []⟩) (fun r s' => r = .ok (.ret (.bool true)) ∧ OldK s₁.heap s'.heap ∧ s'.os = s₁.os ∧ AllBare s'.gens) s₁ := by
  have rv := vals_ints hi
  cases hk : K.lookup a with
  | some o =>
    have e := KX a o hk
    rw [ha] at e
    cases e
    have sq : SqL K (fun _ => none) a (ns.map V.int) := .inr ⟨_, vs.toArray, _, hk, rfl, rfl, rfl, by rw [List.size_toArray, hi.length]; exact hl, by simpa using rv⟩
    exact law_core (fun _ => none) KX hns hb hbb hlim hg ha hr F hbind (fun _ => .inl rfl) (hsp _ sq) (fun b u z => nomatch (show (none : Option HO) = some u from z)) (fun b z => absurd rfl z) fun z => absurd rfl z
  | none =>
    have h1 : ∀ b, b ≠ a → (upd (fun _ => none) a (.frz { cls := .type "list", data := .seq vs.toArray } (.lst (ns.map V.int)))) b = none := fun b n => upd_ne n
    refine law_core (upd (fun _ => none) a (.frz { cls := .type "list", data := .seq vs.toArray } (.lst (ns.map V.int)))) KX hns hb hbb hlim hg ha hr F hbind (fun b => ?_) (hsp _ (.inl (.inr ⟨_, upd_same⟩))) (fun b u z => ?_) (fun b z => ?_) fun _ => hk
    · by_cases n : b = a
      · subst n
        exact .inr ⟨_, _, upd_same⟩
      · exact .inl (h1 b n)
    · by_cases n : b = a
      · subst n
        rw [upd_same] at z
        cases z
        exact ⟨ha, by rw [List.length_map]; exact hl, vs, _, rv, ha⟩
      · rw [h1 b n] at z
        cases z
    · by_cases n : b = a
      · exact n
      · exact absurd (h1 b n) z
end
theorem walk_end {l : PySem.W.OpenLaw} {n k : Nat} {q : Program} {loose : List Str} {XP : (Str → Option Value) → Heap → Prop} {YP : World → Heap → Prop} {d : DefRec} {x : Str}
    (hn : l.most = some n) (hn2 : n ≤ sizeLine) (hdf : d.params.defaults = []) (hr : Rm k callerA)
    (F : ∀ (w : World) (mg : Str → Option Value) (fa : Addr) (h : Heap), YP w h → h.Ns mainGlobals mg → mg d.name = some (.ref fa) →
      ∃ (K : PySem.W.Frag) (fd : FuncData) (sp : Sp), K.In h ∧ (∀ (s : Shared) (u : Value), BindsTo s fd ⟨[u], []⟩ [(x, u)]) ∧
        (∀ (H : Hp) (a : Addr) (ns : List Int), ns.length ≤ n → SqL K H a (ns.map V.int) → sp [.ref a] H (fun v _ => v = .bl true) fun _ _ _ => False) ∧
        ∀ base : Heap, K.In base → base.Ns mainGlobals mg → Fb l.prog w K mg base k fa fd [x] sp) :
    PySem.W.WalkO q loose XP YP l.row.toRowW d [] (fun f vs => PySem.call f vs) := by
  refine Att.attach_call hn hdf fun w s₀ s₁ mg mb fa o pm cd doc a vs ns G Y ho hd hcd hmg hobj hints hlen hg => ?_
  obtain ⟨K, fd, sp, KX, hb, hsp, hF⟩ := F w mg fa _ Y G.T.g hmg
  exact law_end KX G.T.g G.T.b G.T.builtins G.T.nolimit hg hobj hints (Nat.le_trans hlen hn2) hr hF hb (fun H hS => hsp H a ns hlen hS)
end L3
set_option Elab.async false
set_option linter.all false
set_option maxRecDepth 100000
set_option maxHeartbeats 4000000
namespace L3
open PySem PySem.Spec PyProof.Rows L2
abbrev Fx := PySem.W.Frag → Bool
def obsX (xf : List Fx) (fn : List He.DefD) (K : PySem.W.Frag) : He.AlD := ((xf.all fun p => p K) && fn.all fun d => d.ok K, fn.map fun d => He.fnW K d.at_)
def SaysX (xf : List Fx) (fn : List He.DefD) (K : PySem.W.Frag) : Prop := obsX xf fn K = He.valD fn
section
variable {xf : List Fx} {fn : List He.DefD} {K : PySem.W.Frag}
theorem SaysX.fact (c : SaysX xf fn K) (i : Nat) {f : Fx} (h : xf[i]? = some f := by rfl) : f K = true := by
  have c1 := (He.ba (show ((xf.all fun f => f K) && fn.all fun d => d.ok K) = true from congrArg (fun z : He.AlD => z.1) c)).1
  exact List.all_eq_true.mp c1 f (List.mem_of_getElem? h)
theorem SaysX.def_ (c : SaysX xf fn K) (i : Nat) {d : He.DefD} (h : fn[i]? = some d := by rfl) : ∃ fd, FunD K d.name d.qual d.params d.body d.scope (d.dvs K) (d.kws K) (He.fAd K d.at_) fd := by
  have c2 := (He.ba (show ((xf.all fun f => f K) && fn.all fun d => d.ok K) = true from congrArg (fun z : He.AlD => z.1) c)).2
  have e : fn.map (fun d => He.fnW K d.at_) = fn.map He.DefD.val := congrArg (fun z : He.AlD => z.2) c
  have e2 : (fn.map fun d => He.fnW K d.at_)[i]? = (fn.map He.DefD.val)[i]? := by rw [e]
  rw [List.getElem?_map, List.getElem?_map, h] at e2
  exact He.DefD.funD (Option.some.inj e2) (List.all_eq_true.mp c2 d (List.mem_of_getElem? h))
end
structure Exo (K : PySem.W.Frag) (C : Addr) (bmB : List Value) (newId : String) : Prop where
  x : PySem.W.excIn K C bmB newId = true
  kp : PySem.W.keepIn K (.ref C) = true
  sub : PySem.W.subIn K (.ref C) (.type "BaseException") = some true
  ty : PySem.W.typeIn K (.ref C) = some (.type "type")
abbrev bmV : List Value := [.type "ValueError", .type "Exception", .type "BaseException", .type "object"]
def exoB (bmB : List Value) (newId : String) (x : Str) : Fx := fun K => PySem.W.excIn K (He.ga K x) bmB newId && (PySem.W.keepIn K (.ref (He.ga K x)) && (decide (PySem.W.subIn K (.ref (He.ga K x)) (.type "BaseException") = some true) && decide (PySem.W.typeIn K (.ref (He.ga K x)) = some (.type "type"))))
theorem exo_of {bmB : List Value} {newId : String} {x : Str} {K : PySem.W.Frag} (h : exoB bmB newId x K = true) : Exo K (He.ga K x) bmB newId := by
  obtain ⟨h1, h⟩ := He.ba h
  obtain ⟨h2, h⟩ := He.ba h
  obtain ⟨h3, h4⟩ := He.ba h
  exact ⟨h1, h2, of_decide_eq_true h3, of_decide_eq_true h4⟩
section
variable {K : PySem.W.Frag} {h : Heap} {mg : Str → Option Value}
theorem gint_of (X : K.In h) (G : h.Ns mainGlobals mg) {x : Str} {i : Int} (c : (He.Fa.int x i).ok K = true) : ∃ u, mg x = some u ∧ RelV (.int i) u := by
  obtain ⟨t, e⟩ := He.int_ok X G c
  exact ⟨_, e, ⟨t, rfl⟩⟩
theorem gstr_of (X : K.In h) (G : h.Ns mainGlobals mg) {x z : Str} (c : (He.Fa.str x z).ok K = true) : ∃ u, mg x = some u ∧ RelV (.str z) u := by
  obtain ⟨t, e⟩ := He.str_ok X G c
  exact ⟨_, e, ⟨t, rfl⟩⟩
end
/-- a module's constant -/
theorem pe_k {X : Cx} {x : Str} {v : V} {pos : Pos} (h : ∃ u, X.mg x = some u ∧ RelV v u) (hg : Gl X x := by rfl) (hdb : (x == ("__debug__" : Str)) = false := by decide) : PE X (.Name x pos) (tC v) := by
  obtain ⟨u, e, r⟩ := h
  exact pe_glob hg e r hdb
end L3
set_option Elab.async false
set_option linter.all false
set_option maxRecDepth 100000
set_option maxHeartbeats 4000000
namespace L3
open PySem PySem.Spec PyProof.Rows L2
abbrev Ex (H H' : Hp) : Prop := Same H H'
theorem ex_new {H : Hp} {p : Addr} {o : HO} (h : H p = none) : Ex H (upd H p o) := fun a u e => by
  rw [upd_ne (ne_of_none e h)]
  exact e
/-- an object that H does not know may change -/
theorem ex_mut {H H' : Hp} {p : Addr} {o : HO} (e : Ex H H') (h : H p = none) : Ex H (upd H' p o) := fun a u ha => by
  rw [upd_ne (ne_of_none ha h)]
  exact e a u ha
theorem ex_sql {K : PySem.W.Frag} {H H' : Hp} {a : Addr} {xs : List V} (e : Ex H H') (h : SqL K H a xs) : SqL K H' a xs := Same.seq e h
theorem ex_sqt {K : PySem.W.Frag} {H H' : Hp} {a : Addr} {xs : List V} (e : Ex H H') (h : SqT K H a xs) : SqT K H' a xs := by
  rcases h with (h | ⟨o, h⟩) | h
  · exact .inl (.inl (e _ _ h))
  · exact .inl (.inr ⟨o, e _ _ h⟩)
  · exact .inr h
theorem ex_fresh {H H' : Hp} {p : Addr} (e : Ex H H') (h : H' p = none) : H p = none := Same.free e h
theorem sq_lst {K : PySem.W.Frag} {H : Hp} {a : Addr} {xs : List V} (h : H a = some (.lst xs)) : SqL K H a xs := .inl (.inl h)
theorem sq_tup {K : PySem.W.Frag} {H : Hp} {a : Addr} {xs : List V} (h : H a = some (.tup xs)) : SqT K H a xs := .inl (.inl h)
/-- a value of a known type -/
def isW : V → Bool
  | .int _ => true
  | _ => false
def isM : V → Bool
  | .int i => decide (0 ≤ i)
  | _ => false
def Cl (K : PySem.W.Frag) (H : Hp) (x : V) : Prop := ∃ t b c, TyX K H x t ∧ PySem.W.kitOne K t (.type "int") = some b ∧ PySem.W.kitOne K t (.type "bool") = some c ∧ isW x = (b && !c)
section
variable {K : PySem.W.Frag} {H : Hp}
theorem cl_int (i : Int) : Cl K H (.int i) := ⟨_, true, false, .base (.int i), kit_ty (by decide +kernel), kit_ty (by decide +kernel), rfl⟩
theorem cl_bl (b : Bool) : Cl K H (.bl b) := ⟨_, true, true, .base (.bl b), kit_ty (by decide +kernel), kit_ty (by decide +kernel), rfl⟩
theorem cl_non : Cl K H .non := ⟨_, false, false, .base .non, kit_ty (by decide +kernel), kit_ty (by decide +kernel), rfl⟩
theorem cl_str (z : Str) : Cl K H (.str z) := ⟨_, false, false, .base (.str z), kit_ty (by decide +kernel), kit_ty (by decide +kernel), rfl⟩
theorem kit_list : PySem.W.kitOne K (.type "list") (.type "int") = some false ∧ PySem.W.kitOne K (.type "list") (.type "bool") = some false := ⟨kit_ty (by decide +kernel), kit_ty (by decide +kernel)⟩
theorem kit_tuple : PySem.W.kitOne K (.type "tuple") (.type "int") = some false ∧ PySem.W.kitOne K (.type "tuple") (.type "bool") = some false := ⟨kit_ty (by decide +kernel), kit_ty (by decide +kernel)⟩
theorem kit_dict : PySem.W.kitOne K (.type "dict") (.type "int") = some false ∧ PySem.W.kitOne K (.type "dict") (.type "bool") = some false := ⟨kit_ty (by decide +kernel), kit_ty (by decide +kernel)⟩
theorem cl_lst {a : Addr} {xs : List V} (e : H a = some (.lst xs)) : Cl K H (.ref a) := ⟨_, false, false, .base (.lst e), kit_list.1, kit_list.2, rfl⟩
theorem cl_tup {a : Addr} {xs : List V} (e : H a = some (.tup xs)) : Cl K H (.ref a) := ⟨_, false, false, .base (.tup e), kit_tuple.1, kit_tuple.2, rfl⟩
theorem cl_dK {a : Addr} {kvs : List (Key × V)} (e : H a = some (.dK kvs)) : Cl K H (.ref a) := ⟨_, false, false, .base (.dK e), kit_dict.1, kit_dict.2, rfl⟩
end
theorem isM_w {x : V} (h : isM x = true) : ∃ i, x = .int i ∧ 0 ≤ i := by
  cases x with
  | int i => exact ⟨i, rfl, of_decide_eq_true h⟩
  | _ => cases h
/-- given values and defaults in the parameters' order -/
def pick {α : Type} (ix : List (Sum Nat Nat)) (us its : List α) : List α := ix.filterMap fun j => match j with
  | .inl i => us[i]?
  | .inr i => its[i]?
theorem pick_vals {vs ds : List V} {us its : List Value} (ix : List (Sum Nat Nat)) (r1 : Vals vs us) (r2 : Vals ds its) : Vals (pick ix vs ds) (pick ix us its) := by
  have one : ∀ {vs : List V} {us : List Value} (i : Nat), Vals vs us → (∃ v u, vs[i]? = some v ∧ us[i]? = some u ∧ RelV v u) ∨ (vs[i]? = none ∧ us[i]? = none) := fun {vs us} i r => by
    cases e : vs[i]? with
    | none => exact .inr ⟨rfl, r.none_of e⟩
    | some v =>
      obtain ⟨u, h1, h2⟩ := r.get e
      exact .inl ⟨v, u, rfl, h1, h2⟩
  induction ix with
  | nil => exact .nil
  | cons j ix ih =>
    unfold pick at ih ⊢
    cases j with
    | inl i =>
      rcases one i r1 with ⟨v, u, h1, h2, h3⟩ | ⟨h1, h2⟩
      · simp only [List.filterMap_cons, h1, h2]
        exact .cons h3 ih
      · simp only [List.filterMap_cons, h1, h2]
        exact ih
    | inr i =>
      rcases one i r2 with ⟨v, u, h1, h2, h3⟩ | ⟨h1, h2⟩
      · simp only [List.filterMap_cons, h1, h2]
        exact .cons h3 ih
      · simp only [List.filterMap_cons, h1, h2]
        exact ih
end L3
namespace L3
open PySem PySem.Spec PyProof.Rows L2
end L3
namespace L3
open PySem PySem.Spec PyProof.Rows L2
section
variable {K : PySem.W.Frag} {a : Addr} {xs : List V} {g : TG} {tt : TT} {te : TE} {vs : List Nat} {σ : L2.St} {H1 : Hp} {D : Addr} {Qd : Hp → Prop}
theorem small_len {n : Nat} (h : n ≤ 100000) : n < sizeLine := Nat.lt_of_le_of_lt h (by rw [sizeLine_eq]; decide)
abbrev Turn (g : TG) (tt : TT) (te : TE) (vs : List Nat) (σ : L2.St) (D : Addr) (x : V) (H : Hp) (N : Hp → Prop) : Prop :=
  g x (wipe σ vs) H fun σ2 H2 => wipe σ2 vs = wipe σ vs ∧ tt σ2 H2 fun b H3 => if b = true then te σ2 H3 fun y H4 => ∃ acc, H4 D = some (.lst acc) ∧ acc.length < sizeLine ∧ N (upd H4 D (.lst (acc ++ [y]))) else N H3
end
end L3
namespace L3
open PySem PySem.Spec PyProof.Rows L2
end L3
set_option Elab.async false
set_option linter.all false
set_option maxRecDepth 100000
set_option maxHeartbeats 4000000
namespace L3
open PySem PySem.Spec PyProof.Rows L2 TL
section
variable {J : It} {n : Nat} {G : Hp → Prop} {Y : Nat → Hp → V → Hp → Prop} {g : TG} {tt : TT} {te : TE} {vs : List Nat} {σ : L2.St} {H1 : Hp} {D : Addr} {Qd : Hp → Prop}
theorem range_fm_succ (fm : Nat → Option V) (i : Nat) : (List.range (i + 1)).filterMap fm = match fm i with
    | some y => (List.range i).filterMap fm ++ [y]
    | none => (List.range i).filterMap fm := by
  rw [List.range_succ, List.filterMap_append]
  cases e : fm i with
  | none => simp [e]
  | some y => simp [e]
theorem fm_len (fm : Nat → Option V) (i : Nat) : ((List.range i).filterMap fm).length ≤ i := by
  have := List.length_filterMap_le fm (List.range i)
  rwa [List.length_range] at this
theorem lc_fm (w : L2.Walk J n G Y) (fm : Nat → Option V) (I : Hp → Prop) (hI : ∀ H l, I H → I (upd H D (.lst l))) (i0 : I H1) (hn : n ≤ 100000) (hG : ∀ H, I H → G H)
    (hs : ∀ (i : Nat) (x : V) (H H' : Hp) (acc : List V) (N : Hp → Prop), i < n → I H → H D = some (.lst acc) → acc.length < sizeLine → Y i H x H' →
      (∀ H4, I H4 → H4 D = some (.lst acc) → match fm i with | some y => N (upd H4 D (.lst (acc ++ [y]))) | none => N H4) → Turn g tt te vs σ D x H' N)
    (hd : ∀ H, I H → H D = some (.lst ((List.range n).filterMap fm)) → Qd H) :
    ∃ W : Nat → Nat → Hp → Prop, (∃ m, W 0 m (upd H1 D (.lst []))) ∧ ∀ i m H, W i m H →
      (J.stop i H ∧ Qd H) ∨ (J.go i H ∧ ∃ Nx : Hp → Prop, (∀ H', Nx H' → ∃ m', m' < m ∧ W (i + 1) m' H') ∧ ∀ x H', J.yld i H x H' → Turn g tt te vs σ D x H' Nx) := by
  refine L2.lc_it w (fun i H => I H ∧ i ≤ n ∧ H D = some (.lst ((List.range i).filterMap fm))) ⟨hI _ _ i0, Nat.zero_le _, upd_same⟩ (fun i H _ p => hG H p.1) ?_ (fun H p => hd H p.1 p.2.2)
  rintro i x H H' hi ⟨p1, p2, p3⟩ y
  refine hs i x H H' _ _ hi p1 p3 (small_len (Nat.le_trans (fm_len fm i) (by omega))) y fun H4 i4 d4 => ?_
  have e := range_fm_succ fm i
  cases q : fm i with
  | none =>
    rw [q] at e
    exact ⟨i4, hi, by rw [e]; exact d4⟩
  | some y =>
    rw [q] at e
    exact ⟨hI _ _ i4, hi, by rw [upd_same, e]⟩
end
theorem range_map_get {α β : Type} (l : List α) (d : α) (f : α → β) : (List.range l.length).filterMap (fun i => some (f (l.getD i d))) = l.map f := by
  apply List.ext_getElem?
  intro i
  rw [List.filterMap_eq_map' (f := fun i => f (l.getD i d))]
  rw [List.getElem?_map, List.getElem?_map]
  by_cases h : i < l.length
  · rw [List.getElem?_range h, List.getElem?_eq_getElem h]
    simp [List.getD_eq_getElem?_getD, h]
  · rw [List.getElem?_eq_none (by simpa using h), List.getElem?_eq_none (by simpa using h)]
    rfl
end L3
set_option Elab.async false
set_option linter.all false
set_option maxRecDepth 100000
set_option maxHeartbeats 4000000
namespace Mo
open PySem TL
def val (l : List Nat) : Nat := NumText.digitsVal l
end Mo
set_option Elab.async false
set_option linter.all false
set_option maxRecDepth 100000
set_option maxHeartbeats 4000000
namespace L3
open PySem PySem.Spec PyProof.Rows L2
def excCB (x : Str) : Fx := fun K => He.eqO (PySem.W.findIn K (.ref (He.ga K x)) "__getattribute__") (some (some (.builtin "BaseException.__getattribute__"))) && (He.eqO (PySem.W.findIn K (.ref (He.ga K x)) "__getattr__") (some none) && (decide (PySem.W.subIn K (.ref (He.ga K x)) (.type "BaseException") = some true) && (PySem.W.hasDictIn K (He.ga K x) &&
  (He.eqO (PySem.W.findIn K (.ref (He.ga K x)) "__class__") (some (some (.builtin "object.__class__"))) && (He.eqO (PySem.W.specialIn K (.builtin "object.__class__") "__get__") (some (some (.builtin "getset_descriptor.__get__"))) && (decide (PySem.W.takesIn K (.builtin "object.__class__") = some true) && decide (PySem.W.mroIn K (He.ga K x) (.type "object") = some true)))))))
theorem excC_of {x : Str} {K : PySem.W.Frag} (h : excCB x K = true) : ExcC K (He.ga K x) := by
  obtain ⟨h1, h⟩ := He.ba h
  obtain ⟨h2, h⟩ := He.ba h
  obtain ⟨h3, h⟩ := He.ba h
  obtain ⟨h4, h⟩ := He.ba h
  obtain ⟨h5, h⟩ := He.ba h
  obtain ⟨h6, h⟩ := He.ba h
  obtain ⟨h7, h8⟩ := He.ba h
  exact ⟨He.eqO_ok h1, He.eqO_ok h2, of_decide_eq_true h3, h4, He.eqO_ok h5, He.eqO_ok h6, of_decide_eq_true h7, of_decide_eq_true h8⟩
def kitF (x y : Str) (b : Bool) : Fx := fun K => decide (PySem.W.kitOne K (.ref (He.ga K x)) (.ref (He.ga K y)) = some b)
def kitFT (x : Str) (y : String) (b : Bool) : Fx := fun K => decide (PySem.W.kitOne K (.ref (He.ga K x)) (.type y) = some b)
end L3
set_option Elab.async false
set_option linter.all false
set_option maxRecDepth 100000
set_option maxHeartbeats 4000000
namespace L3
open PySem PySem.Spec PyProof.Rows L2
def keyD : Key → PyData
  | .inl i => .int i
  | .inr x => .str x
def zipK : List (Key × V) → List PyData → List (PyData × PyData)
  | (k, _) :: r, d :: ds => (keyD k, d) :: zipK r ds
  | _, _ => []
inductive Dq (K : PySem.W.Frag) (H : Hp) : V → PyData → Prop
  | non : Dq K H .non .none
  | bl (b : Bool) : Dq K H (.bl b) (.bool b)
  | int (i : Int) : Dq K H (.int i) (.int i)
  | str (x : Str) : Dq K H (.str x) (.str x)
  | lst {a : Addr} {xs : List V} {ds : List PyData} : SqL K H a xs → xs.length = ds.length → (∀ (i : Nat) (x : V) (d : PyData), xs[i]? = some x → ds[i]? = some d → Dq K H x d) → Dq K H (.ref a) (.list ds)
  | tup {a : Addr} {xs : List V} {ds : List PyData} : SqT K H a xs → xs.length = ds.length → (∀ (i : Nat) (x : V) (d : PyData), xs[i]? = some x → ds[i]? = some d → Dq K H x d) → Dq K H (.ref a) (.tuple ds)
  | dct {a : Addr} {kvs : List (Key × V)} {ds : List PyData} : H a = some (.dK kvs) → kvs.length = ds.length → (∀ (i : Nat) (k : Key) (x : V) (d : PyData), kvs[i]? = some (k, x) → ds[i]? = some d → Dq K H x d) → Dq K H (.ref a) (.dict (zipK kvs ds))
theorem Dq.mono {K : PySem.W.Frag} {H H' : Hp} {x : V} {d : PyData} (e : Ex H H') (h : Dq K H x d) : Dq K H' x d := by
  induction h with
  | non => exact .non
  | bl b => exact .bl b
  | int i => exact .int i
  | str x => exact .str x
  | lst s l _ ih => exact .lst (ex_sql e s) l ih
  | tup s l _ ih => exact .tup (ex_sqt e s) l ih
  | dct s l _ ih => exact .dct (e _ _ s) l ih
end L3
set_option Elab.async false
set_option linter.all false
set_option maxRecDepth 100000
set_option maxHeartbeats 4000000
namespace L3
open PySem PySem.Spec PyProof.Rows L2
theorem Rm.in1 {k : Nat} {A : Around} (r : Rm (k + 1) A) : Rm k A.in1 := ⟨r.rm.in1, r.gd⟩
section
variable {X : Cx} {k : Nat} {f C : Addr} {ks : List Str} {sp : Sp} {W : WX} {x m : Str} {p pos apos : Pos} {e o : Expr} {es : List Expr} {kws : List Keyword} {ta : TE} {t tk : TA}
/-- o.m(e, ..) of an instance of the class at C -/
def tMt (C : Addr) (m : Str) (sp : Sp) (W : WX) (ta : TE) (t : TA) : TE := fun σ H Q => ta σ H fun x H1 => ∃ a dx fs, x = .ref a ∧ H1 a = some (.ins C dx fs) ∧ fs.lookup m = none ∧ t σ H1 fun vs H2 => sp (x :: vs) H2 Q (WE W σ)
theorem c_meth0 {pl : Sem Bool} (he : PE X o ta) (c : Cls X.K C) (hm : Meth X.K C m f) (F : Fc X.prog X.w X.K X.mg X.base k f [] sp) (hr : Rm k X.A) (hx : Takes X W)
    (ht : eval (.Call (.Attribute o m apos) [] [] pos) X.env = (do
      let ov ← eval o X.env
      standAt apos.atName
      let (f, first) ← holding [ov] (getMethod ov m pl)
      callWith pos f first (backTo pos (starEach [] X.env)) (backToKw pos (keywordEach [] X.env))) := by rfl) :
    PE X (.Call (.Attribute o m apos) [] [] pos) (tMt C m sp W ta tNil) := by
  refine ⟨fun pins s σ H Q I h => ?_⟩
  refine PySem.W.methodCall_KW (pl := pl) (thn (he.run pins s σ H _ I h) fun u s1 ⟨x, H1, I1, rx, a, dx, fs, ex, ea, l, q⟩ => ?_) ht
  subst ex
  obtain rfl : u = Value.ref a := rx
  refine getmeth_ok I1 ea c hm l ?_
  exact PySem.W.callWith_K0 (first := [.ref a]) I1.kIn hm.kp (run_fc (us := [.ref a]) (ws := []) (vs := [.ref a]) F hr hx I1 (.cons rfl .nil) rfl q)
theorem run_mk {pins : List (Addr × Obj)} {σ : L2.St} {H : Hp} {s : Shared} {Q : VK} {us ws : List Value} {vs : List V} (M : Mk X.K C f) (F : Fc X.prog X.w X.K X.mg X.base k f ks sp) (hr : Rm (k + 1) X.A) (hx : Takes X W)
    (I : Inv X pins σ H s) (r : Vals vs (us ++ ws)) (hl : ws.length = ks.length)
    (h : ∀ x dx, H x = none → H dx = none → dx ≠ x → sp (.ref x :: vs) (upd (upd H dx (.own x)) x (.ins C dx [])) (fun v H2 => v = .non ∧ Q (.ref x) H2) (WE W σ)) :
    wpAny (model X.prog X.w) X.A (call (.ref C) us (ks.zip ws)) (EP X pins σ Q) X.xe s := by
  have hq := h (s.heap.objs.size + 1) s.heap.objs.size (I.hok.fresh (Nat.le_succ _)) (I.hok.fresh (Nat.le_refl _)) (Nat.ne_of_lt (Nat.lt_succ_self _))
  have I2 := Inv.made (C := C) I
  refine wpAny_call (make_map (f := f) I.kIn M.makes M.init (beq_iff_eq.mp M.fn) (codeAny_mono (F _ X.stack _ _ (Value.ref (s.heap.objs.size + 1) :: us) ws (V.ref (s.heap.objs.size + 1) :: vs) _ (WE W σ) (hr.make C us (ks.zip ws))
    (I2.env0.make C us (ks.zip ws)) (.cons rfl r) hl hq) fun r s' hq' => ?_))
  cases r with
  | error e => exact passAt hx σ pins _ _ e s' I2 hq'
  | ok fl =>
    cases fl with
    | ret u =>
      obtain ⟨v, H', I3, rv, ev, q3⟩ := I2.after hq'
      subst ev
      exact ⟨rv, ⟨V.ref (s.heap.objs.size + 1), H', I3, rfl, q3⟩⟩
    | next => exact False.elim hq'
    | brk => exact False.elim hq'
    | cont => exact False.elim hq'
def tMk (C : Addr) (sp : Sp) (W : WX) (t : TA) : TE := fun σ H Q => t σ H fun vs H1 => ∀ x dx, H1 x = none → H1 dx = none → dx ≠ x →
  sp (.ref x :: vs) (upd (upd H1 dx (.own x)) x (.ins C dx [])) (fun v H2 => v = .non ∧ Q (.ref x) H2) (WE W σ)
theorem c_make (M : Mk X.K C f) (F : Fc X.prog X.w X.K X.mg X.base k f [] sp) (hr : Rm (k + 1) X.A) (hm : X.mg x = some (.ref C)) (hx : Takes X W)
    (ha : PA X (e :: es) t) (hg : Gl X x := by rfl) (hdb : (x == ("__debug__" : Str)) = false := by decide) (he : starEach (e :: es) X.env = (false, eval e X.env) :: starEach es X.env := by rfl) (hpl : (backTo pos (starEach es X.env)).any (·.1) = false := by rfl) :
    PE X (.Call (.Name x p) (e :: es) [] pos) (tMk C sp W t) := by
  refine ⟨fun pins s σ H Q I h => ?_⟩
  refine wpAny_Call_Name_kw (ld_glob I hg hm ?_ hdb)
  refine PySem.W.callWith_K (h₀ := X.base) I.ok.mod.kin M.kp (thn (ha.run pos pins s σ H _ I h) fun us s1 ⟨vs, H1, I1, r, q⟩ => ⟨I1.kIn, ?_⟩) he hpl
  exact run_mk (ws := []) M F hr hx I1 (by rw [List.append_nil]; exact r) rfl q
end
structure InsC (K : PySem.W.Frag) (C : Addr) : Prop where
  ha : PySem.W.findIn K (.ref C) "__class__" = some (some (.builtin "object.__class__"))
  hn : PySem.W.specialIn K (.builtin "object.__class__") "__get__" = some (some (.builtin "getset_descriptor.__get__"))
  ht : PySem.W.takesIn K (.builtin "object.__class__") = some true
  hm : PySem.W.mroIn K C (.type "object") = some true
def insB (x : Str) : Fx := fun K => He.eqO (PySem.W.findIn K (.ref (He.ga K x)) "__class__") (some (some (.builtin "object.__class__"))) && (He.eqO (PySem.W.specialIn K (.builtin "object.__class__") "__get__") (some (some (.builtin "getset_descriptor.__get__"))) &&
  (decide (PySem.W.takesIn K (.builtin "object.__class__") = some true) && decide (PySem.W.mroIn K (He.ga K x) (.type "object") = some true)))
theorem insC_of {x : Str} {K : PySem.W.Frag} (h : insB x K = true) : InsC K (He.ga K x) := by
  obtain ⟨h1, h⟩ := He.ba h
  obtain ⟨h2, h⟩ := He.ba h
  obtain ⟨h3, h4⟩ := He.ba h
  exact ⟨He.eqO_ok h1, He.eqO_ok h2, of_decide_eq_true h3, of_decide_eq_true h4⟩
theorem ty_ins {K : PySem.W.Frag} {H : Hp} {a C dx : Addr} {fs : List (Str × V)} (i : InsC K C) (c : Cls K C) (e : H a = some (.ins C dx fs)) : TyX K H (.ref a) (.ref C) := .base (.ins e c i.ha i.hn i.ht i.hm)
def kitBF (y : String) (x : Str) (b : Bool) : Fx := fun K => decide (PySem.W.kitOne K (.type y) (.ref (He.ga K x)) = some b)
def exm1F (x y : Str) (b : Bool) : Fx := fun K => decide (PySem.W.exmOne K (.ref (He.ga K x)) (.ref (He.ga K y)) = some b)
def sameF (x y m : Str) : Fx := fun K => decide (He.ma K (He.ga K x) m = He.ma K (He.ga K y) m)
section
variable {X : Cx} {K : PySem.W.Frag}
theorem op_in_seqK (K : PySem.W.Frag) (h : X.K = K := by rfl) : OpR X (compareOp .In) (rIn K false) := h ▸ op_in_seq
theorem ix_listK (K : PySem.W.Frag) (h : X.K = K := by rfl) : IxR X (rIxL K) := h ▸ ix_list
theorem ix_tupK (K : PySem.W.Frag) (h : X.K = K := by rfl) : IxR X (rIxT K) := h ▸ ix_tup
theorem pe_fldK (K : PySem.W.Frag) {e : Expr} {f : Str} {pos : Pos} {ta : TE} (he : PE X e ta) (hb : attributeBase e f X.env (eval e X.env) = eval e X.env) (h : X.K = K := by rfl) : PE X (.Attribute e f pos) (tFld K ta f) := h ▸ pe_fld he hb
end
end L3
set_option Elab.async false
set_option linter.all false
set_option maxRecDepth 100000
set_option maxHeartbeats 4000000
namespace L3
open PySem PySem.Spec PyProof.Rows L2
section
variable {J : It} {n : Nat} {G : Hp → Prop} {Y : Nat → Hp → V → Hp → Prop} {g : TG} {tt : TT} {te : TE} {vs : List Nat} {σ : L2.St} {H1 : Hp} {D : Addr} {Qd : Hp → Prop}
theorem lc_any (w : L2.Walk J n G Y) (I : Nat → List V → Hp → Prop) (hI : ∀ i acc H l, I i acc H → I i acc (upd H D (.lst l))) (i0 : I 0 [] H1) (hn : n ≤ 100000) (hl : ∀ i acc H, I i acc H → acc.length ≤ i) (hG : ∀ i acc H, I i acc H → G H)
    (hs : ∀ (i : Nat) (x : V) (H H' : Hp) (acc : List V) (N : Hp → Prop), i < n → I i acc H → H D = some (.lst acc) → acc.length < sizeLine → Y i H x H' →
      (∀ y H4, H4 D = some (.lst acc) → I (i + 1) (acc ++ [y]) H4 → N (upd H4 D (.lst (acc ++ [y])))) → (∀ H4, H4 D = some (.lst acc) → I (i + 1) acc H4 → N H4) → Turn g tt te vs σ D x H' N)
    (hd : ∀ acc H, I n acc H → H D = some (.lst acc) → Qd H) :
    ∃ W : Nat → Nat → Hp → Prop, (∃ m, W 0 m (upd H1 D (.lst []))) ∧ ∀ i m H, W i m H →
      (J.stop i H ∧ Qd H) ∨ (J.go i H ∧ ∃ Nx : Hp → Prop, (∀ H', Nx H' → ∃ m', m' < m ∧ W (i + 1) m' H') ∧ ∀ x H', J.yld i H x H' → Turn g tt te vs σ D x H' Nx) := by
  refine L2.lc_it w (fun i H => i ≤ n ∧ ∃ acc, I i acc H ∧ H D = some (.lst acc)) ⟨Nat.zero_le _, [], hI _ _ _ _ i0, upd_same⟩ (fun i H _ p => ?_) ?_ (fun H p => ?_)
  · obtain ⟨_, acc, p, _⟩ := p
    exact hG i acc H p
  · rintro i x H H' hi ⟨p1, acc, p2, p3⟩ y
    have := hl _ _ _ p2
    refine hs i x H H' acc _ hi p2 p3 (small_len (by omega)) y (fun y H4 d4 i4 => ⟨hi, _, hI _ _ _ _ i4, upd_same⟩) fun H4 d4 i4 => ⟨hi, _, i4, d4⟩
  · obtain ⟨_, acc, p, d⟩ := p
    exact hd acc H p d
end
end L3
set_option Elab.async false
set_option linter.all false
set_option maxRecDepth 100000
set_option maxHeartbeats 4000000
namespace SrtA
open PySem PyProof.Rows Srt SrtO
section
variable {prog : Program} {w : World} {A : Around} {E : Value → Shared → Prop} {s : Shared}
theorem collect_tup {l : Addr} {vs : List Value} {Q : List Value → Shared → Prop} (hl : s.heap.IsTuple l vs.toArray)
    (h : Q vs { s with heap := (s.heap.push (seqObj "list" #[] 0)).update s.heap.objs.size (Obj.mapSeq (· ++ vs.toArray)) }) (hsz : vs.length ≤ sizeLine) :
    wpAny (model prog w) A (collect (.ref l)) Q E s := by
  obtain ⟨o, ho, hc, n, hd⟩ := id hl
  unfold collect
  refine wpAny_bind (wpAny_runValue (codeAny_builtin entry_proto_collect' ?_))
  show wpAny _ _ (do again (.builtin "list.__iadd__" ⟨[← newList [], .ref l], []⟩)) _ _ s
  refine wpAny_bind (wpAny_newList (wpAny_pure ⟨Code.quiet_builtin _ (by decide +kernel), codeAny_builtin entry_list_iadd' ?_⟩))
  show wpAny _ _ (Builtin.List.listExtendWith (.ref s.heap.objs.size) (.ref l) (.ref s.heap.objs.size)) _ _ { s with heap := s.heap.push (seqObj "list" #[] 0) }
  unfold Builtin.List.listExtendWith
  have ho' : (s.heap.push (seqObj "list" #[] 0)).get? l = some o := Heap.get?_push_of_some _ ho
  refine wpAny_bind (wpAny_typeOf (T := "tuple") ⟨o, ho', hc⟩ ?_)
  have ht : (Value.type "tuple" == Value.type "tuple") = true := by rfl
  rw [if_pos (by rw [ht]; simp)]
  refine wpAny_bind (listItems_at ho' hd ?_)
  refine wpAny_bind (listItems_at (xs := #[]) (n := 0) (Heap.get?_push_size _ rfl) rfl ?_)
  rw [if_neg (by simp)]
  refine wpAny_bind (listUpdate_at (xs := #[]) (n := 0) (Heap.get?_push_size _ rfl) rfl ?_ (Nat.zero_le _) (by show (#[] ++ vs.toArray).size ≤ sizeLine + 1; simp only [Array.size_append, List.size_toArray, List.length_nil]; omega))
  refine wpAny_pure ?_
  show wpAny (model prog w) A (do
      let o ← load s.heap.objs.size
      match o.data with
      | .seq xs _ => pure xs.toList
      | _ => unsupported "internal:collect") Q E { s with heap := (s.heap.push (seqObj "list" #[] 0)).update s.heap.objs.size (Obj.mapSeq (· ++ vs.toArray)) }
  refine wpAny_bind (wpAny_load (get?_update_seq (Heap.get?_push_size _ rfl) _) ?_)
  show wpAny _ _ (pure ((#[] : Array Value) ++ vs.toArray).toList) Q E _
  rw [show ((#[] : Array Value) ++ vs.toArray).toList = vs by simp]
  exact wpAny_pure h
theorem sorted_tup {l : Addr} {vs : List Value} {ltv : Value → Value → Bool} {Q : Value → Shared → Prop} (O : Swo ltv) (hl : s.heap.IsTuple l vs.toArray) (hz : vs.length ≤ sizeLine)
    (hS : 2 ≤ vs.length → ∀ (h₁ : Heap) (a : Addr), h₁.get? a = some (seqObj "list" vs.toArray 0) → (∀ b o, s.heap.get? b = some o → b ≠ a ∧ h₁.get? b = some o) → SortableO prog w A.in1.in1 { s with heap := h₁ } a vs ltv)
    (h : ∀ out : List Value, Srtd ltv out → Stb ltv out vs → Q (.ref (s.heap.objs.size + 1)) { s with heap := sortedAll s.heap vs out.toArray }) :
    wpAny (model prog w) A (call (.builtin "sorted") [.ref l]) Q E s := by
  refine Calls.call_function_entry kind_sorted plain_sorted entry_sorted (args_sorted1 _) ?_
  unfold Builtin.«sorted»
  refine wpAny_bind (m := checkCount "sorted" 1 1 _) (wpAny_pure ?_)
  refine wpAny_bind (collect_tup hl ?_ hz)
  refine wpAny_bind (wpAny_newList ?_ hz)
  have hsz : ((s.heap.push (seqObj "list" #[] 0)).update s.heap.objs.size (Obj.mapSeq (· ++ vs.toArray))).objs.size = s.heap.objs.size + 1 := by
    rw [Heap.size_update, size_push']
  have hoL : (((s.heap.push (seqObj "list" #[] 0)).update s.heap.objs.size (Obj.mapSeq (· ++ vs.toArray))).push (seqObj "list" vs.toArray 0)).get? (s.heap.objs.size + 1) = some (seqObj "list" vs.toArray 0) := by
    rw [← hsz]; exact Heap.get?_push_size _ rfl
  have keep : ∀ b o, s.heap.get? b = some o → b ≠ s.heap.objs.size + 1 ∧ (((s.heap.push (seqObj "list" #[] 0)).update s.heap.objs.size (Obj.mapSeq (· ++ vs.toArray))).push (seqObj "list" vs.toArray 0)).get? b = some o := fun b o q => by
    have hlt : b < s.heap.objs.size := Heap.lt_size q
    refine ⟨Nat.ne_of_lt (Nat.lt_succ_of_lt hlt), Heap.get?_push_of_some _ ?_⟩
    rw [Heap.get?_update_ne _ _ _ _ (Nat.ne_of_lt hlt)]
    exact Heap.get?_push_of_some _ q
  show wpAny _ _ _ _ _ { s with heap := ((s.heap.push (seqObj "list" #[] 0)).update s.heap.objs.size (Obj.mapSeq (· ++ vs.toArray))).push (seqObj "list" vs.toArray 0) }
  rw [hsz]
  refine wpAny_bind (wpAny_holding (wpAny_call_entry slot_list_sort ⟨_, hoL, rfl⟩ entry_list_sort (list_sort_ord O hoL hz (fun h2 => hS h2 _ _ hoL keep) fun out hs hb => ⟨_, rfl, ?_⟩) (args_list_sort _)))
  exact wpAny_pure ⟨_, rfl, h out hs hb⟩
end
end SrtA
namespace L3
open PySem PySem.Spec PyProof.Rows L2
/-- the numbers in order -/
def srt (ns : List Int) : List Int := ns.mergeSort (fun a b => decide (a ≤ b))
theorem srt_perm (ns : List Int) : (srt ns).Perm ns := List.mergeSort_perm ns _
theorem srt_sorted (ns : List Int) : (srt ns).Pairwise (· ≤ ·) := by
  have h := List.pairwise_mergeSort (le := fun a b : Int => decide (a ≤ b)) (fun a b c h1 h2 => decide_eq_true (Int.le_trans (of_decide_eq_true h1) (of_decide_eq_true h2))) (fun a b => by
    rcases Int.le_total a b with h | h
    · rw [decide_eq_true h]; rfl
    · rw [decide_eq_true h, Bool.or_true]) ns
  exact h.imp fun h => of_decide_eq_true h
theorem sorted_uniq : ∀ {xs ys : List Int}, xs.Perm ys → xs.Pairwise (· ≤ ·) → ys.Pairwise (· ≤ ·) → xs = ys
  | [], ys, p, _, _ => p.nil_eq
  | x :: xs, [], p, _, _ => absurd p.symm.nil_eq (by simp)
  | x :: xs, y :: ys, p, hx, hy => by
    have e : x = y := by
      have h1 : x ∈ y :: ys := p.subset List.mem_cons_self
      have h2 : y ∈ x :: xs := p.symm.subset List.mem_cons_self
      have l1 : y ≤ x := by
        rcases List.mem_cons.mp h1 with h | h
        · omega
        · exact (List.pairwise_cons.mp hy).1 x h
      have l2 : x ≤ y := by
        rcases List.mem_cons.mp h2 with h | h
        · omega
        · exact (List.pairwise_cons.mp hx).1 y h
      omega
    subst e
    rw [sorted_uniq (List.perm_cons x |>.mp p) (List.pairwise_cons.mp hx).2 (List.pairwise_cons.mp hy).2]
theorem srt_eq {xs ns : List Int} (p : xs.Perm ns) (h : xs.Pairwise (· ≤ ·)) : xs = srt ns := sorted_uniq (p.trans (srt_perm ns).symm) h (srt_sorted ns)
/-- sorted(xs), xs a list or a tuple of whole numbers -/
def rSortedA (K : PySem.W.Frag) : List V → Hp → VK → Prop := fun vs H Q => ∃ (a : Addr) (ns : List Int), vs = [V.ref a] ∧ (SqL K H a (ns.map V.int) ∨ SqT K H a (ns.map V.int)) ∧ ∀ p : Addr, H p = none → Q (.ref p) (upd H p (.lst ((srt ns).map V.int)))
section
variable {X : Cx}
theorem cr_sortedA (K : PySem.W.Frag) (hK : X.K = K := by rfl) : CallR X (.builtin "sorted") (rSortedA K) := by
  subst hK
  intro pins s σ H vs us Q I r h
  obtain ⟨a, ns, rfl, hs | hs, q⟩ := h
  · exact cr_sortedI pins s σ H [.ref a] us Q I r ⟨a, ns, rfl, hs, fun ns' p h1 h2 hp => by rw [srt_eq h1 h2]; exact q p hp⟩
  · obtain ⟨its, rv, hl, hz⟩ := I.tuple hs
    rw [Vals.ref1 r]
    have hi := rv.ints
    refine SrtA.sorted_tup SrtO.swo_int hl (by rw [← rv.length]; exact hz) (fun h2 h₁ a' _ _ => SrtO.ints_sortable hi h2) fun out h1 h2 => ?_
    obtain ⟨k1, k2, k3⟩ := SrtO.ints_out hi h1 h2
    obtain ⟨ep, he'⟩ := PyProof.Rows.sortedAll_at s.heap its out.toArray
    have hlen : ((out.map SrtO.iv).map V.int).length ≤ sizeLine := by
      rw [List.length_map, k2.length_eq]
      rw [List.length_map] at hz
      exact hz
    have q2 := q (s.heap.objs.size + 1) (I.hok.fresh (Nat.le_succ _))
    rw [← srt_eq k2 k3] at q2
    exact ⟨.ref _, upd H (s.heap.objs.size + 1) (.lst ((out.map SrtO.iv).map V.int)), I.laid (t' := s.toks) (fun _ _ => PyProof.Rows.sortedAll_old) (Nat.le_succ _) ⟨hlen, out, ep, vals_of_ints k1, he'⟩, rfl, q2⟩
end
section
variable {X : Cx} {K : PySem.W.Frag}
def iSeq (K : PySem.W.Frag) (tl : TE) : TI := fun σ H R => iList K tl σ H R ∨ iTup K tl σ H R
theorem pi_seq {tg l : Expr} {tl : TE} (hl : PE X l tl) : PI X tg l (iSeq X.K tl) := ⟨fun pins s σ H R I h => h.elim ((pi_list hl).run pins s σ H R I) ((pi_tup hl).run pins s σ H R I)⟩
theorem pg_tupK (K : PySem.W.Frag) {es : List Expr} {k : Nat} {t : TGs} {n : Nat} {pos : Pos} (hc : X.calm = true) (h : PGs X es t)
    (hn : (assignEach es X.env).length = n := by rfl) (hst : (assignEach es X.env).findIdx? (·.1) = none := by rfl) (hK : X.K = K := by rfl) : PG X (.Tuple es k pos) (gTup K n t) := hK ▸ pg_tup hc h hn hst
theorem walk_zipT {a b : Addr} {xs ys : List V} {n : Nat} (hn : n = min xs.length ys.length) : L2.Walk (RZ.ItzT K a b) n (fun H => SqT K H a xs ∧ SqT K H b ys) (L2.YPair (fun i => xs[i]?) (fun i => ys[i]?)) := by
  subst hn
  refine ⟨fun i _ hi q => ?_, fun _ q => ⟨xs, ys, q.1, q.2, by omega⟩, fun i H v H' _ q y => ?_⟩
  · have h1 : i < xs.length := by omega
    have h2 : i < ys.length := by omega
    exact ⟨xs, ys, xs[i], ys[i], q.1, q.2, by simp [h1], by simp [h2]⟩
  · obtain ⟨T, x, z, h1, h2, h3, h4, h5⟩ := y
    exact ⟨T, x, z, h1, h2, h3, h4 xs q.1, h5 ys q.2⟩
theorem inV_int (d : Int) (ns : List Int) : inV (.int d) (ns.map V.int) = decide (d ∈ ns) := by
  induction ns with
  | nil => rfl
  | cons n r ih =>
    show (eqV (.int n) (.int d) || inV (.int d) (r.map V.int)) = _
    rw [ih]
    have e : eqV (.int n) (.int d) = decide (d = n) := by
      show decide (n = d) = _
      exact decide_eq_decide.mpr ⟨fun h => h.symm, fun h => h.symm⟩
    rw [e]
    by_cases h : d = n
    · simp [h]
    · simp [h]
theorem flat_ints (ns : List Int) : (ns.map V.int).all flatV = true := by
  induction ns with
  | nil => rfl
  | cons n r ih => exact (Bool.and_eq_true_iff.mpr ⟨rfl, ih⟩)
end
theorem isM_nat (n : Nat) : isM (.int (n : Int)) = true := decide_eq_true (Int.natCast_nonneg n)
theorem isM_no {n : Nat} {C : Prop} (h : isM (.int (n : Int)) = false) : C := absurd ((isM_nat n).symm.trans h) Bool.noConfusion
end L3
set_option Elab.async false
set_option linter.all false
set_option maxRecDepth 100000
set_option maxHeartbeats 4000000
namespace L3
open PySem PySem.Spec PyProof.Rows L2
section
variable {P : Program} {w : World} {A : Around} {E : Value → Shared → Prop} {s : Shared}
abbrev newSet (w : World) : Obj := { cls := .type "set", dict := none, data := .set #[] 0 (.fresh 0 0 (!w.params.followText "set-order")) }
end
end L3
set_option Elab.async false
set_option linter.all false
set_option maxRecDepth 100000
set_option maxHeartbeats 4000000
namespace L3
open PySem PySem.Spec PyProof.Rows L2
end L3
set_option Elab.async false
set_option linter.all false
set_option maxRecDepth 100000
set_option maxHeartbeats 4000000
namespace L3
open PySem PySem.Spec PyProof.Rows L2
theorem range_fm {α β : Type} (g : α → Option β) : ∀ l : List α, (List.range l.length).filterMap (fun i => l[i]?.bind g) = l.filterMap g
  | [] => rfl
  | x :: l => by
    rw [List.length_cons, List.range_succ_eq_map, List.filterMap_cons, List.filterMap_map, List.filterMap_cons]
    have ih := range_fm g l
    have e : ((fun i => (x :: l)[i]?.bind g) ∘ Nat.succ) = fun i => l[i]?.bind g := funext fun i => by simp
    rw [e, ih]
    simp
section
variable {J : It} {G : Hp → Prop} {g : TG} {tt : TT} {te : TE} {vs : List Nat} {σ : L2.St} {H1 : Hp} {D : Addr} {Qd : Hp → Prop}
/-- a comprehension over xs (told as values by v), each of which gives gm x, or nothing -/
theorem lc_on {α : Type} (xs : List α) (v : α → V) (w : L2.Walk J (xs.map v).length G (L2.YAt (xs.map v))) (gm : α → Option V) (I : Hp → Prop) (hI : ∀ H l, I H → I (upd H D (.lst l))) (i0 : I H1) (hn : xs.length ≤ 100000) (hG : ∀ H, I H → G H)
    (hs : ∀ (i : Nat) (x : α) (H : Hp) (acc : List V) (N : Hp → Prop), xs[i]? = some x → I H → H D = some (.lst acc) → acc.length < sizeLine →
      (∀ H4, I H4 → H4 D = some (.lst acc) → match gm x with | some y => N (upd H4 D (.lst (acc ++ [y]))) | none => N H4) → Turn g tt te vs σ D (v x) H N)
    (hd : ∀ H, I H → H D = some (.lst (xs.filterMap gm)) → Qd H) :
    ∃ W : Nat → Nat → Hp → Prop, (∃ m, W 0 m (upd H1 D (.lst []))) ∧ ∀ i m H, W i m H →
      (J.stop i H ∧ Qd H) ∨ (J.go i H ∧ ∃ Nx : Hp → Prop, (∀ H', Nx H' → ∃ m', m' < m ∧ W (i + 1) m' H') ∧ ∀ x H', J.yld i H x H' → Turn g tt te vs σ D x H' Nx) := by
  refine lc_fm w (fun i => xs[i]?.bind gm) I hI i0 (by rw [List.length_map]; exact hn) hG (fun i x H H' acc N hi p hD la y k => ?_) fun H p hD => hd H p ?_
  · obtain ⟨rfl, hx⟩ := y
    rw [List.getElem?_map] at hx
    obtain ⟨z, hz, rfl⟩ := Option.map_eq_some_iff.mp hx
    refine hs i z _ acc N hz p hD la fun H4 p4 d4 => ?_
    have := k H4 p4 d4
    simp only [hz, Option.bind_some] at this
    exact this
  · rw [hD, List.length_map, range_fm]
end
section
variable {J : It} {G : Hp → Prop} {g : TG} {tb : TS} {D : Ends} {σ : L2.St} {H : Hp}
/-- a for over xs (told as values by v) -/
theorem for_on {α : Type} (xs : List α) (v : α → V) (w : L2.Walk J (xs.map v).length G (L2.YAt (xs.map v))) (Pv : Nat → L2.St → Hp → Prop) (h0 : Pv 0 σ H) (hG : ∀ i σ H, Pv i σ H → G H)
    (hs : ∀ (i : Nat) (x : α) (σ : L2.St) (H : Hp), xs[i]? = some x → Pv i σ H → g (v x) σ H fun σ2 H2 => tb { D with nx := Pv (i + 1), ct := Pv (i + 1), bk := D.nx } σ2 H2) (hd : ∀ σ H, Pv xs.length σ H → D.nx σ H) :
    ∃ W : Nat → Nat → L2.St → Hp → Prop, (∃ m, W 0 m σ H) ∧ ∀ i m σ H, W i m σ H →
      (J.stop i H ∧ D.nx σ H) ∨ (J.go i H ∧ ∃ N : L2.St → Hp → Prop, (∀ σ' H', N σ' H' → ∃ m', m' < m ∧ W (i + 1) m' σ' H') ∧ ∀ x H', J.yld i H x H' → g x σ H' fun σ2 H2 => tb { D with nx := N, ct := N, bk := D.nx } σ2 H2) := by
  refine L2.for_it w Pv h0 (fun i σ H _ p => hG i σ H p) (fun i x σ H H' hi p y => ?_) (fun σ H p => hd σ H (by rw [List.length_map] at p; exact p))
  obtain ⟨rfl, hx⟩ := y
  rw [List.getElem?_map] at hx
  obtain ⟨z, hz, rfl⟩ := Option.map_eq_some_iff.mp hx
  exact hs i z σ _ hz p
end
theorem take_snoc {α : Type} {l : List α} {i : Nat} {x : α} (h : l[i]? = some x) : l.take (i + 1) = l.take i ++ [x] := by
  rw [List.take_add_one, h]
  rfl
/-- what stands elsewhere than at f stays -/
def Oth (f : Addr) (H H' : Hp) : Prop := ∀ b o, b ≠ f → H b = some o → H' b = some o
theorem Oth.refl (f : Addr) (H : Hp) : Oth f H H := fun _ _ _ e => e
theorem Oth.trans {f : Addr} {H H1 H2 : Hp} (a : Oth f H H1) (b : Oth f H1 H2) : Oth f H H2 := fun c o h e => b c o h (a c o h e)
theorem ex_oth {f : Addr} {H H1 : Hp} (a : Ex H H1) : Oth f H H1 := fun c o _ e => a c o e
theorem Oth.upd {f : Addr} {H H1 : Hp} {o : HO} (a : Oth f H H1) : Oth f H (L2.upd H1 f o) := fun b u nb e => by rw [upd_ne nb]; exact a b u nb e
theorem Oth.ex {f : Addr} {H0 H H1 : Hp} (x : Ex H0 H) (n : H0 f = none) (a : Oth f H H1) : Ex H0 H1 := fun b o e => a b o (ne_of_none e n) (x b o e)
theorem sz_le {n : Nat} (h : n ≤ 100000) : n ≤ sizeLine := Nat.le_of_lt (small_len h)
end L3
set_option Elab.async false
set_option linter.all false
set_option maxRecDepth 100000
set_option maxHeartbeats 4000000
namespace L3
open PySem PySem.Spec PyProof.Rows L2
theorem slA_of {K : PySem.W.Frag} {H : Hp} {a : Addr} {xs : List V} {lo hi : Option Int} {Q : VK} (ha : SqT K H a xs) (q : ∀ p H', Ex H H' → SqT K H' p (cutV xs lo hi) → Q (.ref p) H') : rSlA K (.ref a) lo hi H Q := by
  refine ⟨a, xs, rfl, ha, fun hw => q a H (.refl _) ?_, fun _ p np => q p _ (ex_new np) (sq_tup upd_same)⟩
  have e : cutV xs lo hi = xs := by
    unfold cutV
    rw [hw.1, hw.2]
    simp
  rw [e]
  exact ha
theorem tyOf_mono {K : PySem.W.Frag} {H H' : Hp} {x : V} {t : Value} (e : Ex H H') (h : TyOf K H x t) : TyOf K H' x t := by
  cases h with
  | non => exact .non
  | bl x => exact .bl x
  | int i => exact .int i
  | str x => exact .str x
  | flt x => exact .flt x
  | lst h => exact .lst (e _ _ h)
  | frz h => exact .frz (e _ _ h)
  | tup h => exact .tup (e _ _ h)
  | dK h => exact .dK (e _ _ h)
  | dT h => exact .dT (e _ _ h)
  | ins h cl ha hn htk hm => exact .ins (e _ _ h) cl ha hn htk hm
theorem tyX_mono {K : PySem.W.Frag} {H H' : Hp} {x : V} {t : Value} (e : Ex H H') (h : TyX K H x t) : TyX K H' x t := by
  cases h with
  | base h => exact .base (tyOf_mono e h)
  | byt b => exact .byt b
  | set h => exact .set (e _ _ h)
  | kList h c => exact .kList h c
  | kTuple h c => exact .kTuple h c
  | kDict h c => exact .kDict h c
  | fTuple h => exact .fTuple (e _ _ h)
  | fDict h => exact .fDict (e _ _ h)
theorem Cl.mono {K : PySem.W.Frag} {H H' : Hp} {x : V} (c : Cl K H x) (e : Ex H H') : Cl K H' x := let ⟨t, b, d, h1, h2⟩ := c; ⟨t, b, d, tyX_mono e h1, h2⟩
section
variable {J : It} {n : Nat} {G : Hp → Prop} {g : TG} {tt : TT} {te : TE} {vs : List Nat} {σ : L2.St} {H1 : Hp} {D : Addr} {Qd : Hp → Prop}
/-- a comprehension over pairs of xs and ys -/
theorem lc_zip {α β : Type} (xs : List α) (ys : List β) (v : α → V) (w : β → V) (wk : L2.Walk J n G (L2.YPair (fun i => (xs.map v)[i]?) (fun i => (ys.map w)[i]?))) (hn : n = min xs.length ys.length) (gm : α → β → Option V) (I : Hp → Prop) (hI : ∀ H l, I H → I (upd H D (.lst l))) (i0 : I H1) (hz : xs.length ≤ 100000) (hG : ∀ H, I H → G H)
    (hs : ∀ (i : Nat) (a : α) (b : β) (u : Addr) (H : Hp) (acc : List V) (N : Hp → Prop), xs[i]? = some a → ys[i]? = some b → I H → H u = none → H D = some (.lst acc) → acc.length < sizeLine →
      (∀ H4, I H4 → H4 D = some (.lst acc) → match gm a b with | some y => N (upd H4 D (.lst (acc ++ [y]))) | none => N H4) → Turn g tt te vs σ D (.ref u) (upd H u (.tup [v a, w b])) N)
    (hd : ∀ H, I H → H D = some (.lst ((xs.zip ys).filterMap fun p => gm p.1 p.2)) → Qd H) :
    ∃ W : Nat → Nat → Hp → Prop, (∃ m, W 0 m (upd H1 D (.lst []))) ∧ ∀ i m H, W i m H →
      (J.stop i H ∧ Qd H) ∨ (J.go i H ∧ ∃ Nx : Hp → Prop, (∀ H', Nx H' → ∃ m', m' < m ∧ W (i + 1) m' H') ∧ ∀ x H', J.yld i H x H' → Turn g tt te vs σ D x H' Nx) := by
  refine lc_fm wk (fun i => (xs.zip ys)[i]?.bind fun p => gm p.1 p.2) I hI i0 (by omega) hG (fun i x H H' acc N hi p hD la y k => ?_) fun H p hD => hd H p ?_
  · obtain ⟨u, x1, x2, rfl, nu, rfl, g1, g2⟩ := y
    dsimp only at g1 g2
    rw [List.getElem?_map] at g1 g2
    obtain ⟨a, ha, rfl⟩ := Option.map_eq_some_iff.mp g1
    obtain ⟨b, hb, rfl⟩ := Option.map_eq_some_iff.mp g2
    refine hs i a b u H acc N ha hb p nu hD la fun H4 p4 d4 => ?_
    have := k H4 p4 d4
    have ez : (xs.zip ys)[i]? = some (a, b) := by
      rw [List.getElem?_zip_eq_some]
      exact ⟨ha, hb⟩
    simp only [ez, Option.bind_some] at this
    exact this
  · rw [hD, hn, ← List.length_zip, range_fm]
end
end L3
set_option Elab.async false
set_option linter.all false
set_option maxRecDepth 100000
set_option maxHeartbeats 4000000
namespace L3
open PySem PySem.Spec PyProof.Rows L2 PySem.SeqAt PySem.Calls
/-- a type, of which the class at C is no base, or which is that class -/
def NoSub (K : PySem.W.Frag) (C : Addr) (t : Value) : Prop := t = .ref C ∨ PySem.W.kitOne K t (.ref C) = some false
/-- the class at C is none of the types that decline -/
structure NoBase (K : PySem.W.Frag) (C : Addr) : Prop where
  non : PySem.W.mroIn K C (.type "NoneType") = some false
  bl : PySem.W.mroIn K C (.type "bool") = some false
  int : PySem.W.mroIn K C (.type "int") = some false
  str : PySem.W.mroIn K C (.type "str") = some false
  lst : PySem.W.mroIn K C (.type "list") = some false
  tup : PySem.W.mroIn K C (.type "tuple") = some false
  dct : PySem.W.mroIn K C (.type "dict") = some false
  ne : PySem.W.findIn K (.ref C) "__ne__" = some (some (.builtin "object.__ne__"))
  ob : PySem.W.mroIn K C (.type "object") = some true
theorem noSub_look {K : PySem.W.Frag} {C : Addr} {t : Value} (h : NoSub K C t) {M : Model} {hp : Heap} (X : K.In hp) (q : (Value.ref C != t) = true) : PySem.W.Looks M hp (isSubtype t (.ref C)) false := by
  rcases h with rfl | h
  · simp at q
  · unfold PySem.W.kitOne at h
    split at h
    · cases h
    · exact (PySem.W.kit_cls X h).2.2
section
variable {prog : Program} {w : World} {A : Around} {E : Value → Shared → Prop} {s : Shared} {K : PySem.W.Frag} {x C dx : Addr} {od : Option Obj}
theorem int_dec_ins (b : Int) (u : Tok) (l C dx : Addr) :
    Meets (Builtin.«int.__eq__» ⟨[.int b u, .ref l], []⟩) (fun _ R s => s.heap.get? l = some { cls := .ref C, dict := some dx, data := .plain } ∧ R (.ok (.ret .notImplemented)) s) :=
  .of_wp fun prog w A R s h => by obtain ⟨hp, g, d, tk, os⟩ := s; obtain ⟨hl, h⟩ := h; wp_walk using wpAny_loadPart' hl, wpAny_load hl; exact ⟨_, rfl, h⟩
theorem bool_dec_ins (b : Bool) (l C dx : Addr) :
    Meets (Builtin.«int.__eq__» ⟨[.bool b, .ref l], []⟩) (fun _ R s => s.heap.get? l = some { cls := .ref C, dict := some dx, data := .plain } ∧ R (.ok (.ret .notImplemented)) s) :=
  .of_wp fun prog w A R s h => by obtain ⟨hp, g, d, tk, os⟩ := s; obtain ⟨hl, h⟩ := h; wp_walk using wpAny_loadPart' hl, wpAny_load hl; exact ⟨_, rfl, h⟩
theorem str_dec_ins (b : Str) (u : Tok) (l C dx : Addr) :
    Meets (Builtin.«str.__eq__» ⟨[.str b u, .ref l], []⟩) (fun _ R s => s.heap.get? l = some { cls := .ref C, dict := some dx, data := .plain } ∧ R (.ok (.ret .notImplemented)) s) :=
  .of_wp fun prog w A R s h => by obtain ⟨hp, g, d, tk, os⟩ := s; obtain ⟨hl, h⟩ := h; wp_walk using wpAny_loadPart' hl, wpAny_load hl; exact ⟨_, rfl, h⟩
theorem wpAny_noInst {M : Model} {T : String} {Q : Bool → Shared → Prop} (X : K.In s.heap) (I : PySem.W.InstAt s.heap x (PySem.W.instObj C dx) C od) (hn : PySem.W.mroIn K C (.type T) = some false) (h : Q false s) : wpAny M A (isInstance (.ref x) (.type T)) Q E s := by
  unfold isInstance
  exact wpAny_bind (I.type.here ((PySem.W.looks_mroIn X hn).here h))
theorem list_dec_ins (l : Addr) (X : K.In s.heap) (I : PySem.W.InstAt s.heap x (PySem.W.instObj C dx) C od) (hn : PySem.W.mroIn K C (.type "list") = some false) {Q : Fin → Shared → Prop} (h : Q (.done (.ret .notImplemented)) s) :
    wpAny (model prog w) A (Builtin.«list.__eq__» ⟨[.ref l, .ref x], []⟩) Q E s := by
  unfold Builtin.«list.__eq__»
  wp_walk using wpAny_noInst X I hn
  exact h
theorem tuple_dec_ins (l : Addr) (X : K.In s.heap) (I : PySem.W.InstAt s.heap x (PySem.W.instObj C dx) C od) (hn : PySem.W.mroIn K C (.type "tuple") = some false) {Q : Fin → Shared → Prop} (h : Q (.done (.ret .notImplemented)) s) :
    wpAny (model prog w) A (Builtin.«tuple.__eq__» ⟨[.ref l, .ref x], []⟩) Q E s := by
  unfold Builtin.«tuple.__eq__»
  wp_walk using wpAny_noInst X I hn
  exact h
theorem dict_dec_ins (l : Addr) (hT : s.TypeIs (.ref l) "dict") (X : K.In s.heap) (I : PySem.W.InstAt s.heap x (PySem.W.instObj C dx) C od) (hn : PySem.W.mroIn K C (.type "dict") = some false) {Q : Fin → Shared → Prop} (h : Q (.done (.ret .notImplemented)) s) :
    wpAny (model prog w) A (Builtin.«dict.__eq__» ⟨[.ref l, .ref x], []⟩) Q E s := by
  show wpAny _ _ (Builtin.Dict.dictSlotArgs "__eq__" ⟨[.ref l, .ref x], []⟩ >>= _) _ _ s
  refine wpAny_bind ?_
  unfold Builtin.Dict.dictSlotArgs
  refine wpAny_bind (wpAny_notOrdered_dict hT ?_)
  show wpAny _ _ (pure (Value.ref l, Value.ref x)) _ _ s
  refine wpAny_pure ?_
  refine wpAny_bind (wpAny_noInst X I hn ?_)
  simp only [Bool.not_false, if_true]
  refine wpAny_bind (wpAny_rule ?_)
  exact wpAny_pure h
end
/-- values whose == declines an instance -/
inductive Dec (K : PySem.W.Frag) (H : Hp) : V → Prop where
  | non : Dec K H .non
  | bl (b : Bool) : Dec K H (.bl b)
  | int (i : Int) : Dec K H (.int i)
  | str (z : Str) : Dec K H (.str z)
  | lst {a : Addr} {xs : List V} (e : SqL K H a xs) : Dec K H (.ref a)
  | tup {a : Addr} {xs : List V} (e : SqT K H a xs) : Dec K H (.ref a)
  | dK {a : Addr} {kvs : List (Key × V)} (e : H a = some (.dK kvs)) : Dec K H (.ref a)
end L3
set_option Elab.async false
set_option linter.all false
set_option maxRecDepth 100000
set_option maxHeartbeats 4000000
namespace L3
open PySem PySem.Spec PyProof.Rows L2 PySem.SeqAt PySem.Calls
theorem call_isiK {X : Cx} (K : PySem.W.Frag) (h : X.K = K := by rfl) : CallR X (.builtin "isinstance") (rIsi K) := by
  subst h
  exact call_isi
end L3
set_option Elab.async false
set_option linter.all false
set_option maxRecDepth 100000
set_option maxHeartbeats 4000000
namespace L3
open PySem PySem.Spec PyProof.Rows L2 PySem.SeqAt PySem.Calls
section
variable {X : Cx} {e : Expr} {t1 t2 : TE}
def tOrE (t1 t2 : TE) : TE := fun σ H Q => t1 σ H Q ∨ t2 σ H Q
/-- one reading or the other -/
theorem pe_orE (h1 : PE X e t1) (h2 : PE X e t2) : PE X e (tOrE t1 t2) := ⟨fun pins s σ H Q I h => h.elim (h1.run pins s σ H Q I) (h2.run pins s σ H Q I)⟩
end
/-- a promise that is asked for nothing -/
theorem fc_no {P : Program} {w : World} {K : PySem.W.Frag} {mg : Str → Option Value} {base : Heap} {k : Nat} {f : Addr} {ks : List Str} {sp : Sp} (h : ∀ vs H Q E, ¬ sp vs H Q E) : Fc P w K mg base k f ks sp := fun _ _ _ _ _ _ _ _ _ _ _ _ _ z => absurd z (h _ _ _ _)
end L3
set_option Elab.async false
set_option linter.all false
set_option maxRecDepth 100000
set_option maxHeartbeats 4000000
namespace L3
open PySem PySem.Spec PyProof.Rows L2 PySem.SeqAt PySem.Calls
end L3
set_option Elab.async false
set_option linter.all false
set_option maxRecDepth 100000
set_option maxHeartbeats 4000000
namespace L3
open PySem PySem.Spec PyProof.Rows L2
theorem sz_big {n : Nat} (h : n ≤ 16000000) : n ≤ sizeLine := Nat.le_trans h (by rw [sizeLine_eq]; decide)
end L3
set_option Elab.async false
set_option linter.all false
set_option maxRecDepth 100000
set_option maxHeartbeats 4000000
namespace L3
open PySem PySem.Spec PyProof.Rows L2
structure FbN (P : Program) (w : World) (K : PySem.W.Frag) (mg : Str → Option Value) (base : Heap) (k : Nat) (f : Addr) (fd : FuncData) (ps : List Str) (sp : Sp) : Prop where
  len : ∀ vs H Q E, sp vs H Q E → vs.length = ps.length
  run : ∀ (A : Around) (outer : List Env) (s : Shared) (H : Hp) (args : Args) (us : List Value) (vs : List V) (Q : VK) (E : XK), Rm k A → Env0 P w K mg base A outer s H → BindsTo s fd args (ps.zip us) → Vals vs us → sp vs H Q E →
    codeAny (model P w) A (.call (.ref f) args) (CR (L2N.CX P w) outer P w H s Q E) s
section
variable {P : Program} {w : World} {K : PySem.W.Frag} {mg : Str → Option Value} {base : Heap} {x qual : Str} {params : Arguments} {body : List Stmt} {scope : Scope} {dvs : List V} {kws : List (Str × V)} {f : Addr} {fd : FuncData} {k : Nat} {ps N : List Str} {sp : Sp}
theorem fbN_of (F : FunD K x qual params body scope dvs kws f fd) (S : FnScope N ps scope) (len : ∀ vs H Q E, sp vs H Q E → vs.length = ps.length)
    (hbody : ∀ (cdv : Value) (A : Around) (outer : List Env) (s : Shared) (H : Hp) (vs : List V) (Q : VK) (E : XK), Rm k (A.deeper (envOfC qual scope s.heap.objs.size f cdv)) → sp vs H Q E →
      ∃ t, PSs (cxOf (L2N.CX P w) P w K mg base N qual scope f cdv A outer s H E) body t ∧ t { nx := fun _ H' => Q .non H', rt := Q } (start N vs) H) : FbN P w K mg base (k + 1) f fd ps sp := by
  obtain ⟨oc, od, dV, kV, doc, pm, an, cdv, ct, osl, rfl, lk, hcd, _, _⟩ := F.ex
  refine ⟨len, fun A outer s H args us vs Q E hr e0 hb r hsp => ?_⟩
  have hl := len _ _ _ _ hsp
  have KX : K.In s.heap := e0.mod.kin.keeps fun b o e => (e0.bs b o e).1
  have lim : s.heap.NoLimit := e0.mod.nolimit.keeps fun b o e => (e0.bs b o e).1
  have hkind : ∀ y ∈ ps.zip us, scope.names.lookup y.1 = some .local ∨ (scope.names.lookup y.1 = some .cell ∧ ((cellsFrom (s.heap.objs.size + 1) scope.names []).lookup y.1).isSome = true) := fun ⟨n, v⟩ hy => by
    rcases S.par n (List.of_mem_zip hy).1 with q | q
    · exact .inl q
    · exact .inr ⟨q, PySem.W.cellsFrom_some _ _ _ (.inl q)⟩
  refine codeAny_call_function hr.rm.depth (KX _ _ lk) rfl S.co S.gen rfl (PySem.W.codeRec_of KX hcd) (hb _ _ _ _ ?_)
  refine wpAny_newFunctionEnv_cells S.kind hkind fun env he s1 x => ?_
  subst he
  refine ⟨lim.keeps x.toInCall.keep, codeAny_func ?_⟩
  obtain ⟨t, ht, hq⟩ := hbody cdv A outer s H vs Q E (hr.deeper _) hsp
  have I : Inv (cxOf (L2N.CX P w) P w K mg base N qual scope f cdv A outer s H E) [] (start N vs) H s1 := inv_start S hr.rm.hd e0 hl r x
  refine wpAny_mono (ht.run [] s1 (start N vs) H _ I hq) (fun fl s' hs => ?_) fun e s' hs => hs
  have fin : ∀ {σ' : L2.St} {H' : Hp} {v : V} {u : Value}, Inv (cxOf (L2N.CX P w) P w K mg base N qual scope f cdv A outer s H E) [] σ' H' s' → RelV v u → Q v H' → CE outer P w H s Q u s' :=
    fun {σ' H' v u} J rv q => ⟨v, H', J.os, J.bare, J.base, J.hok, rv, q⟩
  cases fl with
  | ret u =>
    obtain ⟨v, σ', H', J, rv, q⟩ := hs
    exact fin J rv q
  | next =>
    obtain ⟨σ', H', J, q⟩ := hs
    exact fin (v := V.non) (u := Value.none) J rfl q
  | brk =>
    obtain ⟨_, _, _, q⟩ := hs
    exact False.elim q
  | cont =>
    obtain ⟨_, _, _, q⟩ := hs
    exact False.elim q
theorem FbN.mono {j : Nat} (F : FbN P w K mg base j f fd ps sp) (h : j ≤ k) : FbN P w K mg base k f fd ps sp := ⟨F.len, fun A outer s H args us vs Q E hr => F.run A outer s H args us vs Q E (hr.mono h)⟩
theorem FbN.imp {sp' : Sp} (F : FbN P w K mg base k f fd ps sp) (h : ∀ vs H Q E, sp' vs H Q E → sp vs H Q E) : FbN P w K mg base k f fd ps sp' :=
  ⟨fun vs H Q E q => F.len vs H Q E (h _ _ _ _ q), fun A outer s H args us vs Q E hr he hb hv hs => F.run A outer s H args us vs Q E hr he hb hv (h _ _ _ _ hs)⟩
def FcN (P : Program) (w : World) (K : PySem.W.Frag) (mg : Str → Option Value) (base : Heap) (k : Nat) (f : Addr) (ks : List Str) (sp : Sp) : Prop :=
  ∀ (A : Around) (outer : List Env) (s : Shared) (H : Hp) (us ws : List Value) (vs : List V) (Q : VK) (E : XK), Rm k A → Env0 P w K mg base A outer s H → Vals vs (us ++ ws) → ws.length = ks.length → sp vs H Q E →
    codeAny (model P w) A (.call (.ref f) ⟨us, ks.zip ws⟩) (CR (L2N.CX P w) outer P w H s Q E) s
theorem FcN.mono {j : Nat} {ks : List Str} (F : FcN P w K mg base j f ks sp) (h : j ≤ k) : FcN P w K mg base k f ks sp := fun A outer s H us ws vs Q E hr => F A outer s H us ws vs Q E (hr.mono h)
theorem FcN.imp {sp' : Sp} {ks : List Str} (F : FcN P w K mg base k f ks sp) (h : ∀ vs H Q E, sp' vs H Q E → sp vs H Q E) : FcN P w K mg base k f ks sp' :=
  fun A outer s H us ws vs Q E hr he hv hl hs => F A outer s H us ws vs Q E hr he hv hl (h _ _ _ _ hs)
/-- every parameter is given by place -/
theorem FbN.all (F : FbN P w K mg base k f fd ps sp) (hb : Binds K fd ps []) : FcN P w K mg base k f [] sp := fun A outer s H us ws vs Q E hr e0 r hl h => by
  cases ws with
  | cons w ws => cases hl
  | nil =>
    rw [List.append_nil] at r
    have KX : K.In s.heap := e0.mod.kin.keeps fun b o e => (e0.bs b o e).1
    have l2 : us.length = ps.length := by rw [← r.length]; exact F.len _ _ _ _ h
    have b := hb s us KX (by rw [List.append_nil]; exact l2)
    rw [List.append_nil] at b
    exact F.run A outer s H ⟨us, []⟩ us vs Q E hr e0 b r h
/-- all parameters given, some by name, no defaults -/
theorem FbN.names (D : FunD K x qual params body scope [] kws f fd) (F : FbN P w K mg base k f fd ps sp) (n : Nat) (ks : List Str) (g : {α : Type} → List α → List α)
    (hrel : ∀ {vs : List V} {us : List Value}, Vals vs us → Vals (g vs) (g us))
    (h : ∀ (kV doc pm : Value) (an : Option Addr) (cdv ct : Value) (us ws : List Value), us.length = n → ws.length = ks.length →
      bindArgs (PySem.W.fnOf x qual params body scope .none kV doc pm an cdv ct) ⟨us, ks.zip ws⟩ = pure (ps.zip (g (us ++ ws)))) :
    FcN P w K mg base k f ks (fun vs H Q E => vs.length = n + ks.length ∧ sp (g vs) H Q E) := by
  obtain ⟨oc, od, dV, kV, doc, pm, an, cdv, ct, osl, rfl, lk, hcd, hD, hK⟩ := D.ex
  rcases hD with ⟨_, rfl⟩ | ⟨e, _⟩
  · intro A outer s H us ws vs Q E hr e0 r hl hsp
    have l2 : us.length = n := by
      have e := r.length
      rw [hsp.1, List.length_append, hl] at e
      omega
    exact F.run A outer s H ⟨us, ks.zip ws⟩ (g (us ++ ws)) (g vs) Q E hr e0 (.of_eq (h kV doc pm an cdv ct us ws l2 hl)) (hrel r) hsp.2
  · exact absurd rfl e
end
theorem cxN {P : Program} {w : World} {outer : List Env} {H : Hp} {s : Shared} {E : XK} {u : Value} {s' : Shared} (h : L2N.CX P w outer H s E u s') : L2.CX P w outer H s E u s' := by
  obtain ⟨a, B, H', cls, d, e, fl, r⟩ := h
  exact ⟨a, B, H', cls, d, e, L2H.flyingZ_imp (fun o z => z.zc) fl, r⟩
theorem FcN.fc {P : Program} {w : World} {K : PySem.W.Frag} {mg : Str → Option Value} {base : Heap} {k : Nat} {f : Addr} {ks : List Str} {sp : Sp} (F : FcN P w K mg base k f ks sp) : Fc P w K mg base k f ks sp :=
  fun A outer s H us ws vs Q E hr e0 r hl h => codeAny_mono (F A outer s H us ws vs Q E hr e0 r hl h) fun r s' hq => by
    cases r with
    | error e => exact cxN hq
    | ok fl =>
      cases fl with
      | ret u => exact hq
      | next => exact hq
      | brk => exact hq
      | cont => exact hq
end L3
namespace L3
open PySem PySem.Spec PyProof.Rows L2 L2H HotX
end L3
set_option Elab.async false
set_option linter.all false
set_option maxRecDepth 100000
set_option maxHeartbeats 4000000
namespace L3
open PySem PySem.Spec PyProof.Rows L2
def wFst (K : PySem.W.Frag) (c : Value) (i : Nat) (ts : Addr → Value → Option Addr → TS) (D : Ends) : WX := fun cls d σ H =>
  PySem.W.exmOne K cls c = some true ∧ ∀ a, H a = none → ts a cls d { nx := fun σ' H' => D.nx (σ'.set i none) H', rt := D.rt, bk := fun σ' H' => D.bk (σ'.set i none) H', ct := fun σ' H' => D.ct (σ'.set i none) H' } (σ.set i (some (.ref a))) H
def tTryFst (K : PySem.W.Frag) (c : Value) (i : Nat) (ts : Addr → Value → Option Addr → TS) (tb : WX → TS) : TS := fun D σ H => tb (wFst K c i ts D) D σ H
section
variable {X : Cx} {x n : Str} {c : Value} {i : Nat} {body suite : List Stmt} {b₀ : Stmt} {np pos pos' : Pos} {tb : WX → TS} {ts : Addr → Value → Option Addr → TS} {hds : List ExceptHandler}
theorem ps_try_fst (hs : X.stack = X.env :: X.outer) (hf : X.env.frame = some X.env.locals) (hN : X.N.Nodup) (hi : X.N[i]? = some n) (hln : X.env.kindOf n = some .local) (hc : Names X x c)
    (hb : ∀ (W : WX) (pn : List (Addr × Obj)) (xe : Value → Shared → Prop), Takes (X.tr pn xe) W → PassesOwn (model X.prog X.w) X.A X.env xe → PSs (X.tr pn xe) body (tb W))
    (hsu : ∀ (a : Addr) (oe : Obj) (cls : Value) (d : Option Addr) (pn : List (Addr × Obj)), Zc cls d oe → (∃ vs, oe.data = .fields vs) → PSs (X.suite a ((a, oe) :: pn)) (b₀ :: suite) (ts a cls d)) :
    PS X (.Try body (.ExceptHandler (some (.Name x np)) (some n) (b₀ :: suite) pos' :: hds) [] [] pos) (tTryFst X.K c i ts tb) := by
  refine ⟨fun pins s σ H D I h => ?_⟩
  have ok := I.ok
  have hfr : X.A.frames = some (X.env :: X.outer) := by rw [ok.frames, hs]
  refine wpAny_Try_except ?_
  refine wpAny_mono ((hb (wFst X.K c i ts D) (X.pn ++ pins) (fun e s₁ => wpAny (model X.prog X.w) X.A (noteFrame e X.env) (fun _ s₂ => wpAny (model X.prog X.w) X.A (setFlight e none) (fun _ s₃ =>
    wpAny (model X.prog X.w) X.A (handleBy e X.env (.ExceptHandler (some (.Name x np)) (some n) (b₀ :: suite) pos' :: hds)) (SP X pins D) X.xe s₃) X.xe s₂) X.xe s₁) (fun u s' xx => ?_) PassesOwn.looking).run [] s σ H D (I.toTry _) h) (fun f s1 hsp => ?_) (fun e s1 he => he)
  · obtain ⟨a, B, sI, pins', σ', H', cls, d, rfl, J', nb, up, sky, na, os, ag, hb1, hyes⟩ := xx
    have J : Inv X pins σ' H' sI := J'.ofTry ok
    have sky' : Sky B (X.env :: X.outer) a (Zc cls d) X.env.locals s'.heap := by rw [← hs]; exact sky
    show wpAny (model X.prog X.w) X.A (noteFrame (.ref a) X.env) _ _ _
    refine Sky.land Zc.steady hfr hf sky' fun h3 fl3 up3 => ?_
    have J3 : Inv X pins σ' H' { s' with heap := h3 } := J.landed nb fl3.1 (up.trans up3) os ag
    obtain ⟨oe3, vs3, he3, hz3, hd3⟩ := fl3.there
    have nfr : a ∉ frs (X.env :: X.outer) := fun hm => by
      obtain ⟨_, o', e', hnf⟩ := fl3.2.2.1.mem hm
      rw [he3] at e'
      cases e'
      exact hnf _ hd3
    have nL : a ≠ X.env.locals := fun z => nfr (List.mem_filterMap.mpr ⟨X.env, List.mem_cons_self, by rw [hf, z]⟩)
    have nF : a ∉ X.fs := fun hm => by
      obtain ⟨e, he, q⟩ := List.mem_filterMap.mp hm
      exact nfr (List.mem_filterMap.mpr ⟨e, List.mem_cons_of_mem _ he, q⟩)
    have S3 := J3.suite he3 hd3 na nL nF
    refine wpAny_handleBy_cons (codeAny_handlers_test ?_) (by intro q; cases q)
    have LT : PySem.W.Looks (model X.prog X.w) h3 (typeOf (.ref a)) cls := fun A Q E s k q => wpAny_typeOf_ref (k _ _ he3) (by rw [hz3.1]; exact q)
    have LM := PySem.W.exm_one (M := model X.prog X.w) (J3.kIn) LT hb1
    have test : ∀ {Q : Value → Shared → Prop} {E : Value → Shared → Prop}, Q c { s' with heap := h3 } → wpAny (model X.prog X.w) (X.A.mark (some (.ref a))) (eval (.Name x np) X.env) Q E { s' with heap := h3 } := fun {Q E} q => by
      obtain ⟨hg, hdbg, hm | ⟨hm, hv, hnn⟩⟩ := hc
      · exact ld_glob (X := X.suite a ((a, oe3) :: (X.pn ++ pins))) S3 hg hm q hdbg
      · exact ld_blt (X := X.suite a ((a, oe3) :: (X.pn ++ pins))) S3 hg hm hv q hnn hdbg
    refine test (LM.here ?_)
    refine codeAny_handlers_suite_as ?_
    refine HandSPX.lands_againZ fl3 fun h4 fl4 up4 => ?_
    have J4 : Inv X pins σ' H' { s' with heap := h4 } := J.landed nb fl4.1 ((up.trans up3).trans up4) os ag
    obtain ⟨oe4, vs4, he4, hz4, hd4⟩ := fl4.there
    have S4 := J4.suite he4 hd4 na nL nF
    refine store_ok (X := X.suite a ((a, oe4) :: (X.pn ++ pins))) (v := .ref a) S4 hN hi (.inl hln) rfl (fun s5 S5 => ?_) (.inr hln)
    refine wpAny_mono ((hsu a oe4 cls d (X.pn ++ pins) hz4 ⟨_, hd4⟩).run [] s5 _ H' _ S5 (hyes a na)) (fun f s6 hsp => ?_) (fun _ _ z => False.elim z)
    have end_ : ∀ {σ6 : L2.St} {H6 : Hp} {Q : Shared → Prop}, Inv (X.suite a ((a, oe4) :: (X.pn ++ pins))) [] σ6 H6 s6 → (∀ s7, Inv X pins (σ6.set i none) H6 s7 → Q s7) →
        wpAny (model X.prog X.w) X.A (do bindName X.env n .none; unbindBehindTheSuite X.env n pos') (fun _ s7 => Q s7) X.xe s6 := fun {σ6 H6 Q} S6 hq => gone_ok (S6.unsuite ok) hN hi hln hq
    cases f with
    | next =>
      obtain ⟨σ6, H6, S6, q6⟩ := hsp
      exact end_ S6 fun s7 J7 => ⟨_, _, J7, q6⟩
    | brk =>
      obtain ⟨σ6, H6, S6, q6⟩ := hsp
      exact end_ S6 fun s7 J7 => ⟨_, _, J7, q6⟩
    | cont =>
      obtain ⟨σ6, H6, S6, q6⟩ := hsp
      exact end_ S6 fun s7 J7 => ⟨_, _, J7, q6⟩
    | ret u =>
      obtain ⟨v6, σ6, H6, S6, r6, q6⟩ := hsp
      exact end_ S6 fun s7 J7 => ⟨_, _, _, J7, r6, q6⟩
  · cases f with
    | next =>
      obtain ⟨σ6, H6, S6, q6⟩ := hsp
      exact wpAny_execs_nil ⟨_, _, S6.ofTry ok, q6⟩
    | brk =>
      obtain ⟨σ6, H6, S6, q6⟩ := hsp
      exact ⟨_, _, S6.ofTry ok, q6⟩
    | cont =>
      obtain ⟨σ6, H6, S6, q6⟩ := hsp
      exact ⟨_, _, S6.ofTry ok, q6⟩
    | ret u =>
      obtain ⟨v6, σ6, H6, S6, r6, q6⟩ := hsp
      exact ⟨_, _, _, S6.ofTry ok, r6, q6⟩
end
/-- o.m(e, ..) of a built-in type, the written part named -/
theorem pe_bmK {X : Cx} (K : PySem.W.Frag) {T id : String} {name : Str} {r : V → List V → Hp → VK → Prop} {o e : Expr} {es : List Expr} {to : TE} {t : TA} {apos cpos : Pos} (pa : PlainAttrs T) (slot : Slot T name id) (hty : typeOf (.builtin id) = pure (.type "method_descriptor")) (hm : MtR X id r) (ho : PE X o to) (ha : PA X (e :: es) t)
    (hK : X.K = K := by rfl)
    (hbase : attributeBase o name X.env (eval o X.env) = eval o X.env := by rfl)
    (hfew : ((backTo cpos (starEach (e :: es) X.env)).all (fun x => !x.1) && (backToKw cpos (keywordEach [] X.env)).all (fun x => x.1.isSome)
      && decide ((e :: es).length + ([] : List Keyword).length + (if ([] : List Keyword).isEmpty then 0 else 1) < 30)) = true := by rfl)
    (hline : (apos.endLine == cpos.line) = true := by rfl) (hs : starEach (e :: es) X.env = (false, eval e X.env) :: starEach es X.env := by rfl) (hplain : (backTo cpos (starEach es X.env)).any (·.1) = false := by rfl) :
    PE X (.Call (.Attribute o name apos) (e :: es) [] cpos) (tBM K T r to t) := hK ▸ pe_bm pa slot hty hm ho ha hbase hfew hline hs hplain
end L3
set_option Elab.async false
set_option linter.all false
set_option maxRecDepth 100000
set_option maxHeartbeats 4000000
namespace L3
open PySem PySem.Spec PyProof.Rows L2
def Stays (H H' : Hp) (x : V) : Prop := ∀ a o, x = .ref a → H a = some o → H' a = some o
theorem tyOf_at {K : PySem.W.Frag} {H H' : Hp} {x : V} {t : Value} (e : Stays H H' x) (h : TyOf K H x t) : TyOf K H' x t := by
  cases h with
  | non => exact .non
  | bl x => exact .bl x
  | int i => exact .int i
  | str x => exact .str x
  | flt x => exact .flt x
  | lst h => exact .lst (e _ _ rfl h)
  | frz h => exact .frz (e _ _ rfl h)
  | tup h => exact .tup (e _ _ rfl h)
  | dK h => exact .dK (e _ _ rfl h)
  | dT h => exact .dT (e _ _ rfl h)
  | ins h cl ha hn htk hm => exact .ins (e _ _ rfl h) cl ha hn htk hm
theorem tyX_at {K : PySem.W.Frag} {H H' : Hp} {x : V} {t : Value} (e : Stays H H' x) (h : TyX K H x t) : TyX K H' x t := by
  cases h with
  | base h => exact .base (tyOf_at e h)
  | byt b => exact .byt b
  | set h => exact .set (e _ _ rfl h)
  | kList h c => exact .kList h c
  | kTuple h c => exact .kTuple h c
  | kDict h c => exact .kDict h c
  | fTuple h => exact .fTuple (e _ _ rfl h)
  | fDict h => exact .fDict (e _ _ rfl h)
theorem Cl.at {K : PySem.W.Frag} {H H' : Hp} {x : V} (c : Cl K H x) (e : Stays H H' x) : Cl K H' x := let ⟨t, b, d, h1, h2⟩ := c; ⟨t, b, d, tyX_at e h1, h2⟩
end L3
set_option Elab.async false
set_option linter.all false
set_option maxRecDepth 100000
set_option maxHeartbeats 4000000
namespace L3
open PySem PySem.Spec PyProof.Rows L2
def obsA (as : List Addr) (xf : List Fx) (fn : List He.DefD) (g : Addr → Option Obj) : He.AlD := obsX xf fn (He.frG g as)
def hookA (as : List Addr) (xf : List Fx) (fn : List He.DefD) : PySem.W.Hook where
  α := He.AlD
  obs := fun s => obsA as xf fn s.heap.get?
  val := fun _ => He.valD fn
  says := fun _ h => ∃ K : PySem.W.Frag, K.In h ∧ SaysX xf fn K
  of := fun _ _ e => ⟨_, He.frG_in, e⟩
  keeps := fun _ _ _ ⟨K, hK, c⟩ k => ⟨K, PySem.W.Frag.In.keeps hK k, c⟩
theorem obsA_eq {as : List Addr} {xf : List Fx} {fn : List He.DefD} {g : Addr → Option Obj} {s : Shared} (h : ∀ a, g a = s.heap.get? a) : obsA as xf fn g = (hookA as xf fn).obs s := by
  have e : g = s.heap.get? := funext h
  rw [e] <;> rfl
end L3
noncomputable section
namespace HandSHeadRun
open PySem PySem.W PySem.Calls PyProof.Rows
abbrev endR (r : OpenRow) (M : Nat) (w : World) (os : OsState) : Option SharedT := endF (stepQ (denQ tabQ) r.prog w) M r.prog w os
/-- what the machine's own looks say behind the run -/
def RunA (r : OpenRow) (q : Program) (M : Nat) (loose : List PySem.Str) (w : World) : Prop :=
  ∀ os : OsState, (endR r M w os).map (fun s => (looksF r.prog (boot_heap w.params) s.abs, seenQ q loose (importedModules r.prog.main.body) (fun s => xlAt q [] s && recOk r.toRowW.records s) s.abs)) = some (true, openGood q loose)
/-- some facts of what stands behind the run -/
def RunB (r : OpenRow) (M : Nat) (fs : SharedT → Bool) (w : World) : Prop := ∀ os : OsState, (endR r M w os).map fs = some true
/-- the defs' own values -/
def RunC (r : OpenRow) (H : Hook) (ob : SharedT → H.α) (M : Nat) (w : World) : Prop := ∀ os : OsState, (endR r M w os).map ob = some (H.val w)
theorem runEq_of {r : OpenRow} {q : Program} {H : Hook} {ob : SharedT → H.α} {M : Nat} {loose : List PySem.Str} {w : World} (a : RunA r q M loose w) (c : RunC r H ob M w) : RunEq r q H ob M loose w := fun os => by
  have h1 := a os
  have h2 := c os
  show (endR r M w os).map _ = _
  cases e : endR r M w os with
  | none =>
    rw [e] at h1
    cases h1
  | some s =>
    rw [e] at h1 h2
    have g1 := Option.some.inj h1
    have g2 := Option.some.inj h2
    show some _ = some _
    rw [← g2]
    have e1 := congrArg Prod.fst g1
    have e2 := congrArg Prod.snd g1
    dsimp only at e1 e2 ⊢
    rw [e1, e2]
end HandSHeadRun
end
namespace L3
open PySem PySem.Spec PyProof.Rows L2 HandSHeadRun
/-- the facts in three parts: two of the Bools, one of the defs -/
theorem runC_of {r : PySem.W.OpenRow} {as : List Addr} {xf xf1 xf2 : List Fx} {fn : List He.DefD} {M : Nat} {w : World} (e : xf = xf1 ++ xf2)
    (a : RunB r M (fun s => xf1.all fun p => p (He.frG (getT s) as)) w) (b : RunB r M (fun s => xf2.all fun p => p (He.frG (getT s) as)) w)
    (c : ∀ os : OsState, (endR r M w os).map (fun s => (fn.all fun d => d.ok (He.frG (getT s) as), fn.map fun d => He.fnW (He.frG (getT s) as) d.at_)) = some (true, fn.map He.DefD.val)) :
    RunC r (hookA as xf fn) (fun s => obsA as xf fn (getT s)) M w := fun os => by
  have h1 := a os
  have h2 := b os
  have h3 := c os
  cases e2 : endR r M w os with
  | none =>
    rw [e2] at h1
    cases h1
  | some s =>
    rw [e2] at h1 h2 h3
    have g1 : (xf1.all fun p => p (He.frG (getT s) as)) = true := Option.some.inj h1
    have g2 : (xf2.all fun p => p (He.frG (getT s) as)) = true := Option.some.inj h2
    have g3 := Option.some.inj h3
    have e3 := congrArg Prod.fst g3
    have e4 := congrArg Prod.snd g3
    dsimp only at e3 e4
    show some (obsA as xf fn (getT s)) = some (He.valD fn)
    unfold obsA obsX He.valD
    rw [e, List.all_append, g1, g2, e3, e4]
    rfl
end L3
set_option Elab.async false
set_option linter.all false
set_option maxRecDepth 100000
set_option maxHeartbeats 4000000
namespace L3
open PySem PySem.Spec PyProof.Rows L2
end L3
namespace L3
open PySem PySem.Spec PyProof.Rows L2
/-- at a a list or a tuple of these -/
def SqS (K : PySem.W.Frag) (H : Hp) (a : Addr) (xs : List V) : Prop := SqL K H a xs ∨ SqT K H a xs
theorem SqS.at {K : PySem.W.Frag} {H H' : Hp} {a : Addr} {xs : List V} (h : SqS K H a xs) (e : Stays H H' (.ref a)) : SqS K H' a xs := by
  rcases h with ((h | ⟨o, h⟩) | h) | ((h | ⟨o, h⟩) | h)
  · exact .inl (.inl (.inl (e _ _ rfl h)))
  · exact .inl (.inl (.inr ⟨o, e _ _ rfl h⟩))
  · exact .inl (.inr h)
  · exact .inr (.inl (.inl (e _ _ rfl h)))
  · exact .inr (.inl (.inr ⟨o, e _ _ rfl h⟩))
  · exact .inr (.inr h)
theorem stays_ex {H H' : Hp} {x : V} (e : Ex H H') : Stays H H' x := fun a o _ h => e a o h
theorem SqS.mono {K : PySem.W.Frag} {H H' : Hp} {a : Addr} {xs : List V} (h : SqS K H a xs) (e : Ex H H') : SqS K H' a xs := h.at (stays_ex e)
theorem sqL_at {K : PySem.W.Frag} {H H' : Hp} {a : Addr} {xs : List V} (h : SqL K H a xs) (e : Stays H H' (.ref a)) : SqL K H' a xs := by
  rcases h with (h | ⟨o, h⟩) | h
  · exact .inl (.inl (e _ _ rfl h))
  · exact .inl (.inr ⟨o, e _ _ rfl h⟩)
  · exact .inr h
theorem sqT_at {K : PySem.W.Frag} {H H' : Hp} {a : Addr} {xs : List V} (h : SqT K H a xs) (e : Stays H H' (.ref a)) : SqT K H' a xs := by
  rcases h with (h | ⟨o, h⟩) | h
  · exact .inl (.inl (e _ _ rfl h))
  · exact .inl (.inr ⟨o, e _ _ rfl h⟩)
  · exact .inr h
/-- what is a list or a tuple, walked: J stands for either walk, G for what it asks of a heap -/
def iSeqB (K : PySem.W.Frag) (tl : TE) : TI := fun σ H R => tl σ H fun v H1 => ∃ a xs, v = .ref a ∧ SqS K H1 a xs ∧ ∀ J G, L2.Walk J xs.length G (L2.YAt xs) → (∀ H', Stays H1 H' (.ref a) → G H') → R J H1
theorem pi_seqB {X : Cx} {tg l : Expr} {tl : TE} (hl : PE X l tl) (K : PySem.W.Frag) (hK : X.K = K := by rfl) : PI X tg l (iSeqB K tl) := by
  subst hK
  refine ⟨fun pins s σ H R I h => ?_⟩
  refine thn (hl.run pins s σ H _ I h) fun v s1 ⟨x, H1, I1, r1, a, xs, e, hq, q⟩ => ?_
  subst e
  cases r1
  rcases hq with hq | hq
  · have q1 := q (Itl X.K a) (fun H => SqL X.K H a xs) L2.walk_list fun H' e => sqL_at hq e
    obtain ⟨its, rv, p, hz⟩ := I1.list hq
    refine wpAny_pyIter_list p.isList ?_
    refine ⟨s1.heap.objs.size, [s1.heap.objs.size], _, _, H1, rfl, I1.kept (t' := s1.toks) fun b o e => Heap.get?_push_of_some _ e, turn_list a _, ⟨_, Heap.get?_push_size _ rfl, rfl, rfl⟩, fun b hb => ?_, q1⟩
    have e : b = s1.heap.objs.size := by simpa using hb
    subst e
    exact I1.fpOk (Nat.le_refl _) (I1.hok.fresh (Nat.le_refl _))
  · have q1 := q (Itt X.K a) (fun H => SqT X.K H a xs) L2.walk_tup fun H' e => sqT_at hq e
    obtain ⟨its, rv, p, hz⟩ := I1.tuple hq
    refine wpAny_pyIter_tuple (show s1.heap.IsTuple a its.toArray from p) ?_
    refine ⟨s1.heap.objs.size, [s1.heap.objs.size], _, _, H1, rfl, I1.kept (t' := s1.toks) fun b o e => Heap.get?_push_of_some _ e, turn_tuple a _, ⟨_, Heap.get?_push_size _ rfl, rfl, rfl⟩, fun b hb => ?_, q1⟩
    have e : b = s1.heap.objs.size := by simpa using hb
    subst e
    exact I1.fpOk (Nat.le_refl _) (I1.hok.fresh (Nat.le_refl _))
end L3
set_option Elab.async false
set_option linter.all false
set_option maxRecDepth 100000
set_option maxHeartbeats 4000000
namespace L3
open PySem PySem.Spec PyProof.Rows L2
end L3
set_option Elab.async false
set_option linter.all false
set_option maxRecDepth 100000
set_option maxHeartbeats 4000000
namespace L3
open PySem PySem.Spec PySem.Calls PyProof.Rows
section
open PySem.W
variable {prog : Program} {w : World} {A : Around} {E : Value → Shared → Prop} {s : Shared} {K : Frag} {x D : Addr} {ox : Obj} {od : Option Obj}
theorem findObj_dataA {C : Addr} {name : Str} {a g : Value} (hc : (clsIn K C).isSome = true) (ha : findIn K (.ref C) name = some (some a)) (hg : specialIn K a "__get__" = some (some g)) (ht : takesIn K a = some true) : findObj K C od name = some (.bind g a) := by
  obtain ⟨cd, hc⟩ := Option.isSome_iff_exists.mp hc
  unfold findObj
  rw [hc, Option.bind_some, ha, Option.bind_some]
  simp [hg, ht]
/-- e.__class__, with or without fields of its own -/
theorem kin_classA {Q : Option Value → Shared → Prop} (C : L2.ExcC K D) (X : K.In s.heap) (I : W.InstAt s.heap x ox D od) (h : Q (some (.ref D)) { s with toks := s.toks + 1 }) : wpAny (model prog w) A (getAttr? (.ref x) "__class__") Q E s := by
  have hf : findObj K D od "__class__" = some (.bind (.builtin "getset_descriptor.__get__") (.builtin "object.__class__")) := findObj_dataA (by obtain ⟨cd, hc, _⟩ := any_some C.hd; rw [hc]; rfl) C.ha C.hn C.ht
  obtain ⟨hp, g, d, t, os⟩ := s
  have L0 := I.type (M := model prog w)
  have L1 := looks_findIn (M := model prog w) X C.hg
  have L2 := looks_findIn (M := model prog w) X C.hk
  have L3 := looks_find (M := model prog w) X I hf
  have sub : Looks (model prog w) hp (isInstance (.ref x) (.type "BaseException")) true := L0.andThen (looks_subIn X C.hs)
  have hx0 : (false && onTheHeap (Value.builtin "BaseException.__getattribute__")) = false := rfl
  have hx2 : (Value.builtin "BaseException.__getattribute__" == Value.builtin "object.__getattribute__") = false := by decide +kernel
  have hx1 : (onTheHeap (Value.ref D) && Value.builtin "BaseException.__getattribute__" == Value.builtin "object.__getattribute__") = false := by rw [hx2]; rfl
  unfold getAttr? getAttrBy? getAttrBy
  refine wpAny_bind (wpAny_mkText (wpAny_bind (wpAny_attempt (wpAny_holding (wpAny_bind (L0.at (wpAny_bind (L1.at ?_))))))))
  show wpAny _ _ (if (onTheHeap (Value.ref D) && Value.builtin "BaseException.__getattribute__" == Value.builtin "object.__getattribute__") = true then _ else _) _ _ _
  rw [hx1, if_neg Bool.false_ne_true]
  unfold getAttrByItsOwn hookBefore
  refine wpAny_bind ?_
  rw [if_pos (show onTheHeap (Value.ref D) = true from rfl)]
  refine L2.at ?_
  refine wpAny_bind (wpAny_attempt (wpAny_holding ?_))
  unfold callGetattribute
  rw [hx0, if_neg Bool.false_ne_true]
  unfold boundAndCalled
  rw [PySem.F.excAttr_ValueError.ga.bind (.ref x)]
  refine wpAny_bind (wpAny_pure ?_)
  show wpAny _ _ (call (.builtin "BaseException.__getattribute__") [.ref x, .str "__class__" t]) _ _ _
  refine wpAny_call (codeAny_call_builtin PySem.F.excAttr_ValueError.ga.plain PySem.F.entry_bexc_ga ?_)
  refine @check_slot (model prog w) _ _ ⟨hp, g, d, t + 1, os⟩ "BaseException.__getattribute__" "BaseException" "__getattribute__" (.ref x) [.str "__class__" t] [] _ (by decide +kernel) (by decide +kernel) sub (PySem.F.args_bexc_ga (.ref x) (.str "__class__" t)) ?_
  unfold Builtin.«object.__getattribute__»
  refine wpAny_bind (wpAny_of_eq (a := ((Value.ref x : Value), [Value.str "__class__" t])) (by first | rfl | (simp only [slotArgs]; rfl)) ?_)
  refine wpAny_bind (wpAny_pure (wpAny_bind (L0.at (wpAny_bind (L3.at ?_)))))
  show wpAny _ _ (holding [Value.builtin "object.__class__"] (call (.builtin "getset_descriptor.__get__") [.builtin "object.__class__", .ref x, .ref D]) >>= ret) _ _ _
  refine wpAny_bind (wpAny_holding (wpAny_call (class_get (s := ⟨hp, g, d, t + 1, os⟩) (ox := ox) (od := od) X I C.hm ?_)))
  refine wpAny_pure ?_
  show wpAny _ _ (handedOut (.ref D)) _ _ _
  rw [handedOut_of (v := .ref D) rfl]
  first
    | exact wpAny_pure (wpAny_pure h)
    | exact wpAny_pure h
    | exact wpAny_pure (wpAny_bind (wpAny_pure (wpAny_pure h)))
theorem kitx_excA (C : L2.ExcC K D) : KitX K (.ref x) (.ref D) (fun h => W.InstAt h x ox D od) where
  ty := fun _ _ _ I => I.type
  it := fun _ _ X _ => by
    obtain ⟨cdD, hcD, _⟩ := any_some C.hd
    unfold clsIn at hcD
    split at hcD
    · rename_i c' d' cd' sl' ho
      intro A' Q' E' s' k q
      unfold isType loadHead
      exact wpAny_bind (wpAny_loadPart (k _ _ (X _ _ ho)) (wpAny_pure q))
    · cases hcD
  ne := fun h tp dd its n sl X htp => by
    obtain ⟨cdD, hcD, _⟩ := any_some C.hd
    refine Bool.eq_false_iff.mpr fun q => ?_
    have e : D = tp := Value.ref.inj (beq_iff_eq.mp q)
    subst e
    unfold clsIn at hcD
    split at hcD
    · rename_i c' d' cd' sl' ho
      have z := (X _ _ ho).symm.trans htp
      cases z
    · cases hcD
  ca := fun X I k => kin_classA C X I k
end
open L2
/-- the exception's own fields, if it has any -/
def XdAt (H : Hp) (d : Option Addr) : Prop := d = none ∨ ∃ dd fs, d = some dd ∧ H dd = some (.xd fs)
section
variable {X : Cx} {a D : Addr} {oe : Obj} {cls : Value} {d : Option Addr} {pins : List (Addr × Obj)} {s : Shared} {σ : L2.St} {H : Hp}
theorem pin_inst (I : Inv X pins σ H s) (hp : (a, oe) ∈ X.pn) (hz : Zc (.ref D) d oe) (hf : ∃ vs, oe.data = .fields vs) (hd : XdAt H d) : ∃ od, PySem.W.InstAt s.heap a oe D od := by
  obtain ⟨hget, _⟩ := I.pin (a, oe) (List.mem_append.mpr (.inl hp))
  obtain ⟨vs, hv⟩ := hf
  obtain ⟨oc, odd, oda, osl⟩ := oe
  obtain ⟨h1, h2⟩ := hz
  dsimp only at h1 h2 hv
  subst h1 h2 hv
  rcases hd with rfl | ⟨dd, fs, rfl, hdd⟩
  · exact ⟨none, hget, rfl, rfl, trivial⟩
  · have hx : ObjOk X.prog X.w H s.heap dd (.xd fs) := I.hok dd _ hdd
    obtain ⟨mA, hns, _⟩ := hx
    obtain ⟨od, ho, _⟩ := lookIn_ns hns
    exact ⟨some od, hget, rfl, rfl, ho⟩
/-- isinstance(e, C), isinstance(e, (C, ..)), e the exception -/
def rIsP (K : PySem.W.Frag) (a : Addr) (cls : Value) (d : Option Addr) : List V → Hp → VK → Prop := fun xs H Q => ∃ (D : Addr) (c : V) (cv : Value) (b : Bool), cls = .ref D ∧ ExcC K D ∧ XdAt H d ∧ xs = [.ref a, c] ∧ ClsV c cv ∧ PySem.W.kitOne K (.ref D) cv = some b ∧ Q (.bl b) H
def rIsPT (K : PySem.W.Frag) (a : Addr) (cls : Value) (d : Option Addr) : List V → Hp → VK → Prop := fun xs H Q => ∃ (D tp : Addr) (cs : List V) (us : List Value) (b : Bool), cls = .ref D ∧ ExcC K D ∧ XdAt H d ∧ xs = [.ref a, .ref tp] ∧ H tp = some (.tup cs) ∧ Paired ClsV cs us ∧ PySem.W.kitAny K (.ref D) us = some b ∧ Q (.bl b) H
theorem call_isP (K : PySem.W.Frag) (hp : (a, oe) ∈ X.pn) (hz : Zc cls d oe) (hf : ∃ vs, oe.data = .fields vs) (hK : X.K = K := by rfl) : CallR X (.builtin "isinstance") (rIsP K a cls d) := by
  subst hK
  intro pins s σ H xs us Q I r h
  obtain ⟨D, c, cv, b, rfl, C, hd, rfl, k, e, q⟩ := h
  obtain ⟨u1, u2, rfl, r1, r2⟩ := vals2 r
  have e2 := k.eq r2
  subst e2
  cases (show u1 = Value.ref a from r1)
  obtain ⟨od, J⟩ := pin_inst I hp hz hf hd
  exact PySem.W.kia_one (kitx_excA C) I.kIn J e (fun z => nomatch z) fun tk => ⟨.bl b, H, I.kept (t' := tk) fun _ _ z => z, rfl, q⟩
theorem call_isPT (K : PySem.W.Frag) (hp : (a, oe) ∈ X.pn) (hz : Zc cls d oe) (hf : ∃ vs, oe.data = .fields vs) (hK : X.K = K := by rfl) : CallR X (.builtin "isinstance") (rIsPT K a cls d) := by
  subst hK
  intro pins s σ H xs us Q I r h
  obtain ⟨D, tp, cs, ws, b, rfl, C, hd, rfl, hT, k, e, q⟩ := h
  obtain ⟨u1, u2, rfl, r1, r2⟩ := vals2 r
  cases (show u1 = Value.ref a from r1)
  cases (show u2 = Value.ref tp from r2)
  obtain ⟨_, its, rv, o, h1, h2, n, h3⟩ := (show ObjOk X.prog X.w H s.heap tp (.tup cs) from I.hok tp _ hT)
  have e3 := ClsV.all k rv
  subst e3
  obtain ⟨oc, odd, dt, sl⟩ := o
  simp only at h2 h3
  subst h2 h3
  obtain ⟨od, J⟩ := pin_inst I hp hz hf hd
  exact PySem.W.kia_tup (kitx_excA C) I.kIn J h1 e (fun z => nomatch z) fun tk => ⟨.bl b, H, I.kept (t' := tk) fun _ _ z => z, rfl, q⟩
end
abbrev SpP := Addr × Obj → Sp
structure FbP (P : Program) (w : World) (K : PySem.W.Frag) (mg : Str → Option Value) (base : Heap) (k : Nat) (f : Addr) (fd : FuncData) (ps : List Str) (sp : SpP) : Prop where
  len : ∀ p vs H Q E, sp p vs H Q E → vs.length = ps.length
  run : ∀ (A : Around) (outer : List Env) (s : Shared) (H : Hp) (args : Args) (us : List Value) (vs : List V) (Q : VK) (E : XK) (p : Addr × Obj), L2H.RoomH k A → L2H.PinOk outer H s p → Env0 P w K mg base A outer s H → BindsTo s fd args (ps.zip us) → Vals vs us → sp p vs H Q E →
    codeAny (model P w) A (.call (.ref f) args) (CR (L2.CX P w) outer P w H s Q E) s
section
variable {P : Program} {w : World} {K : PySem.W.Frag} {mg : Str → Option Value} {base : Heap} {x qual : Str} {params : Arguments} {body : List Stmt} {scope : Scope} {dvs : List V} {kws : List (Str × V)} {f : Addr} {fd : FuncData} {k : Nat} {ps N : List Str} {sp : SpP}
theorem fbP_of (F : FunD K x qual params body scope dvs kws f fd) (S : FnScope N ps scope) (len : ∀ p vs H Q E, sp p vs H Q E → vs.length = ps.length)
    (hbody : ∀ (cdv : Value) (A : Around) (outer : List Env) (s : Shared) (H : Hp) (vs : List V) (Q : VK) (E : XK) (p : Addr × Obj), L2H.RoomH k (A.deeper (envOfC qual scope s.heap.objs.size f cdv)) → sp p vs H Q E →
      ∃ t, PSs (L2H.cxH (L2.CX P w) P w K mg base N qual scope f cdv A outer s H E p) body t ∧ t { nx := fun _ H' => Q .non H', rt := Q } (L2.start N vs) H) : FbP P w K mg base (k + 1) f fd ps sp := by
  obtain ⟨oc, od, dV, kV, doc, pm, an, cdv, ct, osl, rfl, lk, hcd, _, _⟩ := F.ex
  refine ⟨len, fun A outer s H args us vs Q E p hr hpin e0 hb r hsp => ?_⟩
  have hl := len _ _ _ _ _ hsp
  have KX : K.In s.heap := e0.mod.kin.keeps fun b o e => (e0.bs b o e).1
  have lim : s.heap.NoLimit := e0.mod.nolimit.keeps fun b o e => (e0.bs b o e).1
  have hkind : ∀ y ∈ ps.zip us, scope.names.lookup y.1 = some .local ∨ (scope.names.lookup y.1 = some .cell ∧ ((cellsFrom (s.heap.objs.size + 1) scope.names []).lookup y.1).isSome = true) := fun ⟨n, v⟩ hy => by
    rcases S.par n (List.of_mem_zip hy).1 with q | q
    · exact .inl q
    · exact .inr ⟨q, PySem.W.cellsFrom_some _ _ _ (.inl q)⟩
  refine codeAny_call_function hr.depth (KX _ _ lk) rfl S.co S.gen rfl (PySem.W.codeRec_of KX hcd) (hb _ _ _ _ ?_)
  refine wpAny_newFunctionEnv_cells S.kind hkind fun env he s1 x => ?_
  subst he
  refine ⟨lim.keeps x.toInCall.keep, codeAny_func ?_⟩
  obtain ⟨t, ht, hq⟩ := hbody cdv A outer s H vs Q E p (hr.deeper _) hsp
  have I : Inv (L2H.cxH (L2.CX P w) P w K mg base N qual scope f cdv A outer s H E p) [] (L2.start N vs) H s1 := L2H.inv_startH S hpin e0 hl r x
  refine wpAny_mono (ht.run [] s1 (L2.start N vs) H _ I hq) (fun fl s' hs => ?_) fun e s' hs => hs
  have fin : ∀ {σ' : L2.St} {H' : Hp} {v : V} {u : Value}, Inv (L2H.cxH (L2.CX P w) P w K mg base N qual scope f cdv A outer s H E p) [] σ' H' s' → RelV v u → Q v H' → CE outer P w H s Q u s' :=
    fun {σ' H' v u} J rv q => ⟨v, H', J.os, J.bare, J.base, J.hok, rv, q⟩
  cases fl with
  | ret u =>
    obtain ⟨v, σ', H', J, rv, q⟩ := hs
    exact fin J rv q
  | next =>
    obtain ⟨σ', H', J, q⟩ := hs
    exact fin (v := V.non) (u := Value.none) J rfl q
  | brk =>
    obtain ⟨_, _, _, q⟩ := hs
    exact False.elim q
  | cont =>
    obtain ⟨_, _, _, q⟩ := hs
    exact False.elim q
/-- such a def called with all parameters by place -/
def FcP (P : Program) (w : World) (K : PySem.W.Frag) (mg : Str → Option Value) (base : Heap) (k : Nat) (f : Addr) (sp : SpP) : Prop :=
  ∀ (A : Around) (outer : List Env) (s : Shared) (H : Hp) (us : List Value) (vs : List V) (Q : VK) (E : XK) (p : Addr × Obj), L2H.RoomH k A → L2H.PinOk outer H s p → Env0 P w K mg base A outer s H → Vals vs us → sp p vs H Q E →
    codeAny (model P w) A (.call (.ref f) ⟨us, []⟩) (CR (L2.CX P w) outer P w H s Q E) s
theorem FcP.mono {j : Nat} (F : FcP P w K mg base j f sp) (h : j ≤ k) : FcP P w K mg base k f sp := fun A outer s H us vs Q E p hr => F A outer s H us vs Q E p (hr.mono h)
theorem FbP.all (F : FbP P w K mg base k f fd ps sp) (hb : Binds K fd ps []) : FcP P w K mg base k f sp := fun A outer s H us vs Q E p hr hp e0 r h => by
  have KX : K.In s.heap := e0.mod.kin.keeps fun b o e => (e0.bs b o e).1
  have l2 : us.length = ps.length := by rw [← r.length]; exact F.len _ _ _ _ _ h
  have b := hb s us KX (by rw [List.append_nil]; exact l2)
  rw [List.append_nil] at b
  exact F.run A outer s H ⟨us, []⟩ us vs Q E p hr hp e0 b r h
end
theorem roomM {k : Nat} {A : Around} {v : Option Value} (r : Rm k A) : L2H.RoomH k (A.mark v) := ⟨r.rm.dp, r.rm.un⟩
/-- the caught exception handed to a def -/
def tFcP (a : Addr) (cls : Value) (d : Option Addr) (sp : SpP) (W : WX) (t : TA) : TE := fun σ H Q => t σ H fun vs H1 => ∀ oe : Obj, Zc cls d oe → (∃ vs, oe.data = .fields vs) → sp (a, oe) vs H1 Q (WE W σ)
section
variable {X : Cx} {k : Nat} {f : Addr} {sp : SpP} {W : WX} {x : Str} {p pos : Pos} {e : Expr} {es : List Expr} {t : TA} {a : Addr} {oe : Obj} {cls : Value} {d : Option Addr}
theorem c_callP (F : FcP X.prog X.w X.K X.mg X.base k f sp) (hr : L2H.RoomH k X.A) (hp : (a, oe) ∈ X.pn) (hz : Zc cls d oe) (hf : ∃ vs, oe.data = .fields vs) (hm : X.mg x = some (.ref f)) (hk : PySem.W.keepIn X.K (.ref f) = true) (hx : Takes X W)
    (ha : PA X (e :: es) t) (hg : Gl X x := by rfl) (hdb : (x == ("__debug__" : Str)) = false := by decide) (he : starEach (e :: es) X.env = (false, eval e X.env) :: starEach es X.env := by rfl) (hpl : (backTo pos (starEach es X.env)).any (·.1) = false := by rfl) :
    PE X (.Call (.Name x p) (e :: es) [] pos) (tFcP a cls d sp W t) := by
  refine ⟨fun pins s σ H Q I h => ?_⟩
  refine wpAny_Call_Name_kw (ld_glob I hg hm ?_ hdb)
  refine PySem.W.callWith_K (h₀ := X.base) I.ok.mod.kin hk (thn (ha.run pos pins s σ H _ I h) fun us s1 ⟨vs, H1, I1, r, q⟩ => ⟨I1.kIn, ?_⟩) he hpl
  have P1 := I1.pin (a, oe) (List.mem_append_left _ hp)
  have hpin : L2H.PinOk X.stack H1 s1 (a, oe) := ⟨P1.1, P1.2.1, fun hm => (List.mem_cons.mp (I1.stkSub a hm)).elim P1.2.2.1 P1.2.2.2.1, P1.2.2.2.2⟩
  refine wpAny_call (codeAny_mono (F X.A X.stack s1 H1 us vs Q (WE W σ) (a, oe) hr hpin I1.env0 r (q oe hz hf)) fun r s' hq => ?_)
  cases r with
  | error e => exact passAt hx σ pins H1 s1 e s' I1 hq
  | ok fl =>
    cases fl with
    | ret u => exact I1.after hq
    | next => exact False.elim hq
    | brk => exact False.elim hq
    | cont => exact False.elim hq
end
end L3
set_option Elab.async false
set_option linter.all false
set_option maxRecDepth 100000
set_option maxHeartbeats 4000000
namespace L3
open PySem PySem.Spec PyProof.Rows L2 PySem.SeqAt PySem.Calls
/-- a class without an == of its own -/
structure NoEq (K : PySem.W.Frag) (C : Addr) : Prop where
  nb : NoBase K C
  eq : PySem.W.findIn K (.ref C) "__eq__" = some (some (.builtin "object.__eq__"))
section
variable {prog : Program} {w : World} {A : Around} {E : Value → Shared → Prop} {s : Shared} {K : PySem.W.Frag} {x C dx : Addr} {ox : Obj} {od : Option Obj} {v : Value}
/-- isSame answers False -/
abbrev NSame (s : Shared) (u v : Value) : Prop := ∀ (M : Model) (A : Around) (E : Value → Shared → Prop) (Q : Bool → Shared → Prop), Q false s → wpAny M A (isSame u v) Q E s
theorem objEq_no {Q : Fin → Shared → Prop} (n : NSame s (.ref x) v) (hq : Q (.done (.ret .notImplemented)) s) : wpAny (model prog w) A (Builtin.«object.__eq__» ⟨[.ref x, v], []⟩) Q E s := by
  unfold Builtin.«object.__eq__»
  repeat (first | with_reducible refine n _ _ _ _ ?_ | wp_step)
  exact hq
theorem call_objEq_no {Q : Value → Shared → Prop} (X : K.In s.heap) (I : PySem.W.InstAt s.heap x ox C od) (nq : NoEq K C) (n : NSame s (.ref x) v) (hq : Q .notImplemented s) : wpAny (model prog w) A (call (.builtin "object.__eq__") [.ref x, v]) Q E s :=
  wpAny_call (codeAny_call_builtin F.cmp_object.eq.plain F.cmpEntry_eq (PySem.W.check_slot F.cmpKind_eq F.cmpSplit_eq (I.type.andThen (PySem.W.looks_mroIn X nq.nb.ob)) (F.cmpArgs_eq _ _) (objEq_no n hq)))
/-- the instance's == declines -/
theorem try_no {Q : Option Value → Shared → Prop} (X : K.In s.heap) (I : PySem.W.InstAt s.heap x ox C od) (nq : NoEq K C) (n : NSame s (.ref x) v) (hq : Q none s) : wpAny (model prog w) A (tryCompare (.ref x) "__eq__" v) Q E s := by
  unfold tryCompare
  exact wpAny_bind (HN.ifBound_objEq X I nq.eq (call_objEq_no X I nq n (wpAny_pure hq)))
theorem sub_base {T : String} (h : ((fastBuiltinMro T).map fun l => l.any fun v => match v with | .ref _ => true | _ => false) = some false) : PySem.W.subIn K (.type T) (.ref C) = some false := by
  show (fastBuiltinMro T).map (·.contains (.ref C)) = some false
  cases e : fastBuiltinMro T with
  | none => rw [e] at h; cases h
  | some l =>
    rw [e] at h
    have h2 : (l.any fun v => match v with | .ref _ => true | _ => false) = false := Option.some.inj h
    show some (l.contains (.ref C)) = some false
    congr 1
    rw [List.contains_eq_any_beq]
    refine Bool.eq_false_iff.mpr fun z => ?_
    obtain ⟨y, hy, e2⟩ := List.any_eq_true.mp z
    have e3 : Value.ref C = y := eq_of_beq e2
    subst e3
    exact absurd (List.any_eq_true.mpr ⟨_, hy, rfl⟩) (by rw [h2]; decide)
theorem nsame_non (s : Shared) (x : Addr) : NSame s (.ref x) .none ∧ NSame s .none (.ref x) := ⟨fun M A E Q h => wpAny_of_eq (rfl : isSame (.ref x) .none = pure false) h, fun M A E Q h => wpAny_of_eq (rfl : isSame .none (.ref x) = pure false) h⟩
theorem nsame_bl (s : Shared) (x : Addr) (b : Bool) : NSame s (.ref x) (.bool b) ∧ NSame s (.bool b) (.ref x) := ⟨fun M A E Q h => wpAny_of_eq (rfl : isSame (.ref x) (.bool b) = pure false) h, fun M A E Q h => wpAny_of_eq (rfl : isSame (.bool b) (.ref x) = pure false) h⟩
theorem nsame_int (s : Shared) (x : Addr) (i : Int) (t : Tok) : NSame s (.ref x) (.int i t) ∧ NSame s (.int i t) (.ref x) := ⟨fun M A E Q h => wpAny_of_eq (rfl : isSame (.ref x) (.int i t) = pure false) h, fun M A E Q h => wpAny_of_eq (rfl : isSame (.int i t) (.ref x) = pure false) h⟩
theorem nsame_str (s : Shared) (x : Addr) (i : Str) (t : Tok) : NSame s (.ref x) (.str i t) ∧ NSame s (.str i t) (.ref x) := ⟨fun M A E Q h => wpAny_of_eq (rfl : isSame (.ref x) (.str i t) = pure false) h, fun M A E Q h => wpAny_of_eq (rfl : isSame (.str i t) (.ref x) = pure false) h⟩
theorem nsame_ref {x y : Addr} {ox oy : Obj} (ne : x ≠ y) (hx : s.heap.get? x = some ox) (hy : s.heap.get? y = some oy) (h : ox.cls ≠ .type "tuple" ∨ oy.cls ≠ .type "tuple") : NSame s (.ref x) (.ref y) := fun M A E Q q => by
  rcases h with h | h
  · exact wpAny_isSame_ref_other ne hx hy h q
  · exact wpAny_isSame_ref_other' ne hx hy h q
end
section
variable {X : Cx} {k : Nat} {f C D : Addr} {sp : Sp} {pins : List (Addr × Obj)} {σ : L2.St} {H : Hp} {s : Shared}
/-- a value that declines, looked at from all sides -/
structure DecAt (K : PySem.W.Frag) (C : Addr) (s : Shared) (x : Addr) (u : Value) (T : String) : Prop where
  ty : s.TypeIs u T
  one : oneThing? .Eq u (.ref x) = none
  mro : PySem.W.mroIn K C (.type T) = some false
  sub : PySem.W.subIn K (.type T) (.ref C) = some false
  nl : NSame s u (.ref x)
  nr : NSame s (.ref x) u
  ne : (u == Value.ref x) = false
  try_ : ∀ (prog : Program) (w : World) (A : Around) (E : Value → Shared → Prop) (Q' : Option Value → Shared → Prop), Q' none s → wpAny (model prog w) A (tryCompare u "__eq__" (.ref x)) Q' E s
theorem dec_at {x dx : Addr} {od : Option Obj} {z : V} {u : Value} (I : Inv X pins σ H s) (r : RelV z u) (d : Dec X.K H z) (J : PySem.W.InstAt s.heap x (PySem.W.instObj C dx) C od) (nb : NoBase X.K C) : ∃ T, DecAt X.K C s x u T := by
  have nt : (PySem.W.instObj C dx).cls ≠ .type "tuple" := fun e => by
    have := J.cls
    rw [e] at this
    cases this
  cases d with
  | non =>
    cases (show u = Value.none from r)
    exact ⟨"NoneType", rfl, rfl, nb.non, sub_base (by decide +kernel), (nsame_non s x).2, (nsame_non s x).1, rfl, fun prog w A E Q' h => wpAny_tryCompare_declines (show s.TypeIs .none "NoneType" from rfl) F.slot_NoneType_eq (call_gives F.slot_NoneType_eq rfl F.entry_NoneType_eq (F.args_NoneType_eq_2 _ _) (NoneType___eq___none_ref_0 x) ⟨rfl, h⟩)⟩
  | bl b =>
    cases (show u = Value.bool b from r)
    exact ⟨"bool", rfl, rfl, nb.bl, sub_base (by decide +kernel), (nsame_bl s x b).2, (nsame_bl s x b).1, rfl, fun prog w A E Q' h => wpAny_tryCompare_declines (show s.TypeIs (.bool b) "bool" from rfl) F.slot_bool_eq (call_meets F.slot_bool_eq rfl F.entry_int_eq (F.args_int_eq_2 _ _) (bool_dec_ins b x C dx) ⟨J.at_, rfl, h⟩)⟩
  | int i =>
    obtain ⟨t, e⟩ := (show ∃ t, u = Value.int i t from r)
    cases e
    exact ⟨"int", typeIs_int s i t, rfl, nb.int, sub_base (by decide +kernel), (nsame_int s x i t).2, (nsame_int s x i t).1, rfl, fun prog w A E Q' h => wpAny_tryCompare_declines (typeIs_int s i t) F.slot_int_eq (call_meets F.slot_int_eq (typeIs_int s i t) F.entry_int_eq (F.args_int_eq_2 _ _) (int_dec_ins i t x C dx) ⟨J.at_, rfl, h⟩)⟩
  | str z =>
    obtain ⟨t, e⟩ := (show ∃ t, u = Value.str z t from r)
    cases e
    exact ⟨"str", typeIs_str s z t, rfl, nb.str, sub_base (by decide +kernel), (nsame_str s x z t).2, (nsame_str s x z t).1, rfl, fun prog w A E Q' h => wpAny_tryCompare_declines (typeIs_str s z t) F.slot_str_eq (call_meets F.slot_str_eq (typeIs_str s z t) F.entry_str_eq (F.args_str_eq_2 _ _) (str_dec_ins z t x C dx) ⟨J.at_, rfl, h⟩)⟩
  | @lst a xs e =>
    cases (show u = Value.ref a from r)
    obtain ⟨its, rl, pl, hz⟩ := I.list e
    obtain ⟨o, n, ho, hc, _⟩ := pl
    have hT : s.TypeIs (.ref a) "list" := ⟨_, ho, hc⟩
    have ne : a ≠ x := fun z => by
      rw [z, J.at_] at ho
      cases ho
      cases J.cls.symm.trans hc
    exact ⟨"list", hT, oneThing_ref _ _ _, nb.lst, sub_base (by decide +kernel), nsame_ref ne ho J.at_ (.inr nt), nsame_ref (Ne.symm ne) J.at_ ho (.inl nt), beq_eq_false_iff_ne.mpr fun z => ne (Value.ref.inj z), fun prog w A E Q' h => wpAny_tryCompare_declines hT F.slot_list_eq (wpAny_call_entry F.slot_list_eq hT F.entry_list_eq (list_dec_ins a I.kIn J nb.lst ⟨_, rfl, rfl, h⟩) (F.args_list_eq_2 _ _))⟩
  | @tup a xs e =>
    cases (show u = Value.ref a from r)
    obtain ⟨its, rl, ⟨o, ho, hc, n, d⟩, hz⟩ := I.tuple e
    have hT : s.TypeIs (.ref a) "tuple" := ⟨_, ho, hc⟩
    have ne : a ≠ x := fun z => by
      rw [z, J.at_] at ho
      cases ho
      cases J.cls.symm.trans hc
    exact ⟨"tuple", hT, oneThing_ref _ _ _, nb.tup, sub_base (by decide +kernel), nsame_ref ne ho J.at_ (.inr nt), nsame_ref (Ne.symm ne) J.at_ ho (.inl nt), beq_eq_false_iff_ne.mpr fun z => ne (Value.ref.inj z), fun prog w A E Q' h => wpAny_tryCompare_declines hT F.slot_tuple_eq (wpAny_call_entry F.slot_tuple_eq hT F.entry_tuple_eq (tuple_dec_ins a I.kIn J nb.tup ⟨_, rfl, rfl, h⟩) (F.args_tuple_eq_2 _ _))⟩
  | @dK a kvs e =>
    cases (show u = Value.ref a from r)
    have hT : s.TypeIs (.ref a) "dict" := by
      obtain ⟨_, _, vs, _, hD⟩ := (show ObjOk _ _ H s.heap a (.dK kvs) from I.hok a _ e)
      exact hD.typeIs
    obtain ⟨o, ho, hc⟩ := id hT
    have ne : a ≠ x := fun z => by
      rw [z, J.at_] at ho
      cases ho
      cases J.cls.symm.trans hc
    exact ⟨"dict", hT, oneThing_ref _ _ _, nb.dct, sub_base (by decide +kernel), nsame_ref ne ho J.at_ (.inr nt), nsame_ref (Ne.symm ne) J.at_ ho (.inl nt), beq_eq_false_iff_ne.mpr fun z => ne (Value.ref.inj z), fun prog w A E Q' h => wpAny_tryCompare_declines hT F.slot_dict_eq (wpAny_call_entry F.slot_dict_eq hT F.entry_dict_eq (dict_dec_ins a hT I.kIn J nb.dct ⟨_, rfl, rfl, h⟩) (F.args_dict_eq_2 _ _))⟩
theorem rc_dL {A : Around} {K : PySem.W.Frag} {x dx : Addr} {od : Option Obj} {u : Value} {T : String} (hu : A.units < cLine) (KX : K.In s.heap) (J : PySem.W.InstAt s.heap x (PySem.W.instObj C dx) C od) (nq : NoEq K C) (d : DecAt K C s x u T) : RcAt A s (.ref x) u false := fun prog w E Q h => by
  simp only [richCompare, cmpInfo_Eq, oneThing_ref]
  refine wpAny_holding (wpAny_bind (wpAny_cRoomFor hu ?_))
  refine wpAny_bind (J.type.here (wpAny_bind (wpAny_typeOf d.ty ?_)))
  split
  · refine wpAny_bind ((PySem.W.looks_subIn KX d.sub).here ?_)
    simp only [Bool.false_eq_true, if_false, Bool.not_false, if_true]
    refine wpAny_bind (m := tryCompare (.ref x) _ u) (try_no KX J nq d.nr ?_)
    refine wpAny_bind (m := tryCompare u _ (.ref x)) (d.try_ _ _ _ _ _ ?_)
    exact wpAny_bind (wpAny_rule (wpAny_bind (d.nr _ _ _ _ (wpAny_pure h))))
  · rename_i q
    exact absurd (by simp) q
theorem rc_dR {A : Around} {K : PySem.W.Frag} {x dx : Addr} {od : Option Obj} {u : Value} {T : String} (hu : A.units < cLine) (KX : K.In s.heap) (J : PySem.W.InstAt s.heap x (PySem.W.instObj C dx) C od) (nq : NoEq K C) (d : DecAt K C s x u T) : RcAt A s u (.ref x) false := fun prog w E Q h => by
  simp only [richCompare, cmpInfo_Eq, d.one]
  refine wpAny_holding (wpAny_bind (wpAny_cRoomFor hu ?_))
  refine wpAny_bind (wpAny_typeOf d.ty (wpAny_bind (J.type.here ?_)))
  split
  · refine wpAny_bind ((PySem.W.looks_mroIn KX d.mro).here ?_)
    simp only [Bool.false_eq_true, if_false, Bool.not_false, if_true]
    refine wpAny_bind (m := tryCompare u _ (.ref x)) (d.try_ _ _ _ _ _ ?_)
    refine wpAny_bind (m := tryCompare (.ref x) _ u) (try_no KX J nq d.nr ?_)
    exact wpAny_bind (wpAny_rule (wpAny_bind (d.nl _ _ _ _ (wpAny_pure h))))
  · rename_i q
    exact absurd (by simp) q
/-- two instances -/
theorem rc_II {A : Around} {K : PySem.W.Frag} {x y dx dy : Addr} {od oe : Option Obj} (hu : A.units < cLine) (KX : K.In s.heap) (J : PySem.W.InstAt s.heap x (PySem.W.instObj C dx) C od) (L : PySem.W.InstAt s.heap y (PySem.W.instObj D dy) D oe) (nq : NoEq K C) (nr : NoEq K D) (ne : x ≠ y) (hn : NoSub K C (.ref D)) : RcAt A s (.ref x) (.ref y) false := fun prog w E Q h => by
  have n1 : NSame s (.ref x) (.ref y) := nsame_ref ne J.at_ L.at_ (.inl fun e => by have := J.cls; rw [e] at this; cases this)
  have n2 : NSame s (.ref y) (.ref x) := nsame_ref (Ne.symm ne) L.at_ J.at_ (.inl fun e => by have := L.cls; rw [e] at this; cases this)
  simp only [richCompare, cmpInfo_Eq, oneThing_ref]
  refine wpAny_holding (wpAny_bind (wpAny_cRoomFor hu ?_))
  refine wpAny_bind (J.type.here (wpAny_bind (L.type.here ?_)))
  split
  · rename_i q
    refine wpAny_bind ((noSub_look hn KX q).here ?_)
    simp only [Bool.false_eq_true, if_false, Bool.not_false, if_true]
    refine wpAny_bind (m := tryCompare (.ref x) _ (.ref y)) (try_no KX J nq n1 ?_)
    refine wpAny_bind (m := tryCompare (.ref y) _ (.ref x)) (try_no KX L nr n2 ?_)
    exact wpAny_bind (wpAny_rule (wpAny_bind (n1 _ _ _ _ (wpAny_pure h))))
  · refine wpAny_bind (wpAny_pure ?_)
    simp only [Bool.false_eq_true, if_false, Bool.not_false, if_true]
    refine wpAny_bind (m := tryCompare (.ref x) _ (.ref y)) (try_no KX J nq n1 ?_)
    refine wpAny_bind (m := tryCompare (.ref y) _ (.ref x)) (try_no KX L nr n2 ?_)
    exact wpAny_bind (wpAny_rule (wpAny_bind (n1 _ _ _ _ (wpAny_pure h))))
theorem eqAt_rc {A : Around} {u v : Value} (ne : (u == v) = false) (h : RcAt A s u v false) (hr : (∃ a, v = .ref a) ∨ ∃ a, u = .ref a) : EqAt A s u v false := fun prog w E Q q => by
  unfold eqBool
  refine wpAny_holding ?_
  refine wpAny_ite_split (fun hab => absurd hab (by rw [ne]; decide)) (fun _ => ?_)
  have fin : wpAny (model prog w) A (richCompare .Eq u v >>= fun v => truthOfDropped v) Q E s := wpAny_bind (h prog w E _ (wpAny_truthy_bool q))
  rcases hr with ⟨a, rfl⟩ | ⟨a, rfl⟩
  · cases u <;> exact fin
  · cases v <;> exact fin
end
end L3
set_option Elab.async false
set_option linter.all false
set_option maxRecDepth 100000
set_option maxHeartbeats 4000000
namespace L3
open PySem PySem.Spec PyProof.Rows L2 PySem.SeqAt PySem.Calls
/-- two values whose == answers False and runs no code of ours -/
inductive PureNe (K : PySem.W.Frag) (H : Hp) : V → V → Prop where
  | L {a C dx : Addr} {fs : List (Str × V)} {y : V} (ha : H a = some (.ins C dx fs)) (nq : NoEq K C) (d : Dec K H y) : PureNe K H (.ref a) y
  | R {a C dx : Addr} {fs : List (Str × V)} {y : V} (ha : H a = some (.ins C dx fs)) (nq : NoEq K C) (d : Dec K H y) : PureNe K H y (.ref a)
  | I {a b C D dx dy : Addr} {fs gs : List (Str × V)} (ha : H a = some (.ins C dx fs)) (hb : H b = some (.ins D dy gs)) (nq : NoEq K C) (nr : NoEq K D) (ne : a ≠ b) (hn : NoSub K C (.ref D)) : PureNe K H (.ref a) (.ref b)
  | LF {a : Addr} {xs : List V} {y : V} (ha : SqL K H a xs) (f : flatV y = true) : PureNe K H (.ref a) y
  | FL {a : Addr} {xs : List V} {y : V} (ha : SqL K H a xs) (f : flatV y = true) : PureNe K H y (.ref a)
  | TF {a : Addr} {xs : List V} {y : V} (ha : SqT K H a xs) (f : flatV y = true) : PureNe K H (.ref a) y
  | FT {a : Addr} {xs : List V} {y : V} (ha : SqT K H a xs) (f : flatV y = true) : PureNe K H y (.ref a)
  | DF {a : Addr} {kvs : List (Key × V)} {y : V} (ha : H a = some (.dK kvs)) (f : flatV y = true) : PureNe K H (.ref a) y
  | FD {a : Addr} {kvs : List (Key × V)} {y : V} (ha : H a = some (.dK kvs)) (f : flatV y = true) : PureNe K H y (.ref a)
section
variable {prog : Program} {w : World} {A : Around} {E : Value → Shared → Prop} {s : Shared} {d : Addr}
theorem dict_eq_no {v : Value} {T : String} (hT : s.TypeIs (.ref d) "dict") (hv : s.TypeIs v T) (hs : isSubtype (.type T) (.type "dict") = pure false) {Q : Value → Shared → Prop} (h : Q .notImplemented s) : wpAny (model prog w) A (call (.builtin "dict.__eq__") [.ref d, v]) Q E s := by
  refine wpAny_call_entry F.slot_dict_eq hT F.entry_dict_eq ?_ (F.args_dict_eq_2 _ _)
  show wpAny _ _ (Builtin.Dict.dictSlotArgs "__eq__" ⟨[.ref d, v], []⟩ >>= _) _ _ s
  refine wpAny_bind ?_
  unfold Builtin.Dict.dictSlotArgs
  refine wpAny_bind (wpAny_notOrdered_dict hT ?_)
  show wpAny _ _ (pure (Value.ref d, v)) _ _ s
  refine wpAny_pure ?_
  have ni : ∀ {M : Model} {A : Around} {E : Value → Shared → Prop} {Q : Bool → Shared → Prop}, Q false s → wpAny M A (isInstance v (.type "dict")) Q E s := fun {M A E Q} q => by
    unfold isInstance
    exact wpAny_bind (wpAny_typeOf hv (wpAny_of_eq hs q))
  refine wpAny_bind (ni ?_)
  simp only [Bool.not_false, if_true]
  refine wpAny_bind (wpAny_rule ?_)
  exact wpAny_pure ⟨_, rfl, h⟩
theorem int_dict_no (b : Int) (u : Tok) (l : Addr) : Meets (Builtin.«int.__eq__» ⟨[.int b u, .ref l], []⟩) (fun _ R s => (∃ o es ep, s.heap.get? l = some o ∧ o.cls = .type "dict" ∧ o.data = .dict es ep) ∧ R (.ok (.ret .notImplemented)) s) :=
  .of_wp fun prog w A R s h => by
    obtain ⟨hp, g, d, tk, os⟩ := s
    obtain ⟨⟨⟨oc, od, oda, osl⟩, es, ep, hl, hc, hd⟩, h⟩ := h
    simp only at hc hd
    subst hc hd
    wp_walk using wpAny_loadPart' hl, wpAny_load hl
    exact ⟨_, rfl, h⟩
theorem bool_dict_no (b : Bool) (l : Addr) : Meets (Builtin.«int.__eq__» ⟨[.bool b, .ref l], []⟩) (fun _ R s => (∃ o es ep, s.heap.get? l = some o ∧ o.cls = .type "dict" ∧ o.data = .dict es ep) ∧ R (.ok (.ret .notImplemented)) s) :=
  .of_wp fun prog w A R s h => by
    obtain ⟨hp, g, d, tk, os⟩ := s
    obtain ⟨⟨⟨oc, od, oda, osl⟩, es, ep, hl, hc, hd⟩, h⟩ := h
    simp only at hc hd
    subst hc hd
    wp_walk using wpAny_loadPart' hl, wpAny_load hl
    exact ⟨_, rfl, h⟩
theorem str_dict_no (b : Str) (u : Tok) (l : Addr) : Meets (Builtin.«str.__eq__» ⟨[.str b u, .ref l], []⟩) (fun _ R s => (∃ o es ep, s.heap.get? l = some o ∧ o.cls = .type "dict" ∧ o.data = .dict es ep) ∧ R (.ok (.ret .notImplemented)) s) :=
  .of_wp fun prog w A R s h => by
    obtain ⟨hp, g, d, tk, os⟩ := s
    obtain ⟨⟨⟨oc, od, oda, osl⟩, es, ep, hl, hc, hd⟩, h⟩ := h
    simp only at hc hd
    subst hc hd
    wp_walk using wpAny_loadPart' hl, wpAny_load hl
    exact ⟨_, rfl, h⟩
end
section
variable {X : Cx} {k : Nat} {f C D : Addr} {sp : Sp} {pins : List (Addr × Obj)} {σ : L2.St} {H : Hp} {s : Shared}
theorem flat_ne {y : V} {u : Value} {a : Addr} (r : RelV y u) (h : flatV y = true) : (u == Value.ref a) = false ∧ (Value.ref a == u) = false := by
  cases y with
  | non => cases (show u = Value.none from r); exact ⟨rfl, rfl⟩
  | bl b => cases (show u = Value.bool b from r); exact ⟨rfl, rfl⟩
  | int i => obtain ⟨t, rfl⟩ := (show ∃ t, u = Value.int i t from r); exact ⟨rfl, rfl⟩
  | str z => obtain ⟨t, rfl⟩ := (show ∃ t, u = Value.str z t from r); exact ⟨rfl, rfl⟩
  | _ => cases h
theorem rc_seqF {A : Around} {y : V} {u : Value} {a : Addr} {its : Array Value} (hu : A.units < cLine) (r : RelV y u) (h : flatV y = true) (hl : s.heap.IsList a its) : RcAt A s (.ref a) u false ∧ RcAt A s u (.ref a) false := by
  cases y with
  | non => cases (show u = Value.none from r); exact ⟨.list_none hl hu, .none_list hl hu⟩
  | bl b => cases (show u = Value.bool b from r); exact ⟨.list_bool b hl hu, .bool_list b hl hu⟩
  | int i => obtain ⟨t, rfl⟩ := (show ∃ t, u = Value.int i t from r); exact ⟨.list_int i t hl hu, .int_list i t hl hu⟩
  | str z => obtain ⟨t, rfl⟩ := (show ∃ t, u = Value.str z t from r); exact ⟨.list_str z t hl hu, .str_list z t hl hu⟩
  | _ => cases h
theorem rc_tupF {A : Around} {y : V} {u : Value} {a : Addr} {its : Array Value} (hu : A.units < cLine) (r : RelV y u) (h : flatV y = true) (hl : s.heap.IsTuple a its) : RcAt A s (.ref a) u false ∧ RcAt A s u (.ref a) false := by
  cases y with
  | non => cases (show u = Value.none from r); exact ⟨.tuple_none hl hu, .none_tuple hl hu⟩
  | bl b => cases (show u = Value.bool b from r); exact ⟨.tuple_bool b hl hu, .bool_tuple b hl hu⟩
  | int i => obtain ⟨t, rfl⟩ := (show ∃ t, u = Value.int i t from r); exact ⟨.tuple_int i t hl hu, .int_tuple i t hl hu⟩
  | str z => obtain ⟨t, rfl⟩ := (show ∃ t, u = Value.str z t from r); exact ⟨.tuple_str z t hl hu, .str_tuple z t hl hu⟩
  | _ => cases h
theorem rc_dctF {A : Around} {y : V} {u : Value} {a : Addr} (hu : A.units < cLine) (r : RelV y u) (h : flatV y = true) (ho : ∃ o es ep, s.heap.get? a = some o ∧ o.cls = .type "dict" ∧ o.data = .dict es ep) : RcAt A s (.ref a) u false ∧ RcAt A s u (.ref a) false := by
  have hT : s.TypeIs (.ref a) "dict" := let ⟨o, _, _, h1, h2, _⟩ := ho; ⟨o, h1, h2⟩
  cases y with
  | non =>
    cases (show u = Value.none from r)
    have hN : s.TypeIs .none "NoneType" := rfl
    have c1 : ∀ {prog : Program} {w : World} {E : Value → Shared → Prop} (Q' : Value → Shared → Prop), Q' .notImplemented s → wpAny (model prog w) A (call (.builtin "NoneType.__eq__") [.none, .ref a]) Q' E s := fun {prog w E} Q' q => call_gives F.slot_NoneType_eq rfl F.entry_NoneType_eq (F.args_NoneType_eq_2 _ _) (NoneType___eq___none_ref_0 a) q
    exact ⟨fun prog w E Q q => rc_eq_decline_or (k := false) hT hN (by decide) F.sub_NoneType_dict F.slot_dict_eq F.slot_NoneType_eq_refl (fun _ hq => dict_eq_no hT hN F.sub_NoneType_dict hq) (fun _ hq => c1 _ hq) (fun _ hq => wpAny_of_eq (rfl : isSame (.ref a) .none = pure false) hq) (.inr hu) q,
      fun prog w E Q q => rc_eq_decline_or (k := false) hN hT (by decide) F.sub_dict_NoneType F.slot_NoneType_eq F.slot_dict_eq_refl (fun _ hq => c1 _ hq) (fun _ hq => dict_eq_no hT hN F.sub_NoneType_dict hq) (fun _ hq => wpAny_of_eq (rfl : isSame .none (.ref a) = pure false) hq) (.inr hu) q⟩
  | bl b =>
    cases (show u = Value.bool b from r)
    have hN : s.TypeIs (.bool b) "bool" := rfl
    have c1 : ∀ {prog : Program} {w : World} {E : Value → Shared → Prop} (Q' : Value → Shared → Prop), Q' .notImplemented s → wpAny (model prog w) A (call (.builtin "int.__eq__") [.bool b, .ref a]) Q' E s := fun {prog w E} Q' q => call_meets F.slot_bool_eq hN F.entry_int_eq (F.args_int_eq_2 _ _) (bool_dict_no b a) ⟨ho, q⟩
    exact ⟨fun prog w E Q q => rc_eq_decline_or (k := false) hT hN (by decide) F.sub_bool_dict F.slot_dict_eq F.slot_bool_eq_refl (fun _ hq => dict_eq_no hT hN F.sub_bool_dict hq) (fun _ hq => c1 _ hq) (fun _ hq => wpAny_of_eq (rfl : isSame (.ref a) (.bool b) = pure false) hq) (.inr hu) q,
      fun prog w E Q q => rc_eq_decline_or (k := false) hN hT (by decide) F.sub_dict_bool F.slot_bool_eq F.slot_dict_eq_refl (fun _ hq => c1 _ hq) (fun _ hq => dict_eq_no hT hN F.sub_bool_dict hq) (fun _ hq => wpAny_of_eq (rfl : isSame (.bool b) (.ref a) = pure false) hq) (.inr hu) q⟩
  | int i =>
    obtain ⟨t, rfl⟩ := (show ∃ t, u = Value.int i t from r)
    have hN := typeIs_int s i t
    have c1 : ∀ {prog : Program} {w : World} {E : Value → Shared → Prop} (Q' : Value → Shared → Prop), Q' .notImplemented s → wpAny (model prog w) A (call (.builtin "int.__eq__") [.int i t, .ref a]) Q' E s := fun {prog w E} Q' q => call_meets F.slot_int_eq hN F.entry_int_eq (F.args_int_eq_2 _ _) (int_dict_no i t a) ⟨ho, q⟩
    exact ⟨fun prog w E Q q => rc_eq_decline_or (k := false) hT hN (by decide) F.sub_int_dict F.slot_dict_eq F.slot_int_eq_refl (fun _ hq => dict_eq_no hT hN F.sub_int_dict hq) (fun _ hq => c1 _ hq) (fun _ hq => wpAny_of_eq (rfl : isSame (.ref a) (.int i t) = pure false) hq) (.inr hu) q,
      fun prog w E Q q => rc_eq_decline_or (k := false) hN hT (by decide) F.sub_dict_int F.slot_int_eq F.slot_dict_eq_refl (fun _ hq => c1 _ hq) (fun _ hq => dict_eq_no hT hN F.sub_int_dict hq) (fun _ hq => wpAny_of_eq (rfl : isSame (.int i t) (.ref a) = pure false) hq) (.inr hu) q⟩
  | str z =>
    obtain ⟨t, rfl⟩ := (show ∃ t, u = Value.str z t from r)
    have hN := typeIs_str s z t
    have c1 : ∀ {prog : Program} {w : World} {E : Value → Shared → Prop} (Q' : Value → Shared → Prop), Q' .notImplemented s → wpAny (model prog w) A (call (.builtin "str.__eq__") [.str z t, .ref a]) Q' E s := fun {prog w E} Q' q => call_meets F.slot_str_eq hN F.entry_str_eq (F.args_str_eq_2 _ _) (str_dict_no z t a) ⟨ho, q⟩
    exact ⟨fun prog w E Q q => rc_eq_decline_or (k := false) hT hN (by decide) F.sub_str_dict F.slot_dict_eq F.slot_str_eq_refl (fun _ hq => dict_eq_no hT hN F.sub_str_dict hq) (fun _ hq => c1 _ hq) (fun _ hq => wpAny_of_eq (rfl : isSame (.ref a) (.str z t) = pure false) hq) (.inr hu) q,
      fun prog w E Q q => rc_eq_decline_or (k := false) hN hT (by decide) F.sub_dict_str F.slot_str_eq F.slot_dict_eq_refl (fun _ hq => c1 _ hq) (fun _ hq => dict_eq_no hT hN F.sub_str_dict hq) (fun _ hq => wpAny_of_eq (rfl : isSame (.str z t) (.ref a) = pure false) hq) (.inr hu) q⟩
  | _ => cases h
theorem pure_rc {A : Around} {x y : V} {u v : Value} (I : Inv X pins σ H s) (r1 : RelV x u) (r2 : RelV y v) (p : PureNe X.K H x y) (hu : A.units < cLine) : RcAt A s u v false ∧ (u == v) = false ∧ ((∃ a, v = .ref a) ∨ ∃ a, u = .ref a) := by
  cases p with
  | @L a C dx fs _ ha nq d =>
    cases (show u = Value.ref a from r1)
    obtain ⟨mA, J, _⟩ := ins_get I.hok ha
    obtain ⟨od, J, _⟩ := J.look
    obtain ⟨T, d⟩ := dec_at I r2 d J nq.nb
    refine ⟨rc_dL hu I.kIn J nq d, ?_, .inr ⟨_, rfl⟩⟩
    rw [beq_eq_false_iff_ne]
    exact fun z => absurd d.ne (by rw [← z]; simp)
  | @R a C dx fs _ ha nq d =>
    cases (show v = Value.ref a from r2)
    obtain ⟨mA, J, _⟩ := ins_get I.hok ha
    obtain ⟨od, J, _⟩ := J.look
    obtain ⟨T, d⟩ := dec_at I r1 d J nq.nb
    exact ⟨rc_dR hu I.kIn J nq d, d.ne, .inl ⟨_, rfl⟩⟩
  | @I a b C D dx dy fs gs ha hb nq nr ne hn =>
    cases (show u = Value.ref a from r1)
    cases (show v = Value.ref b from r2)
    obtain ⟨mA, J, _⟩ := ins_get I.hok ha
    obtain ⟨od, J, _⟩ := J.look
    obtain ⟨mB, L, _⟩ := ins_get I.hok hb
    obtain ⟨oe, L, _⟩ := L.look
    exact ⟨rc_II hu I.kIn J L nq nr ne hn, beq_eq_false_iff_ne.mpr fun z => ne (Value.ref.inj z), .inl ⟨_, rfl⟩⟩
  | @LF a xs _ ha f =>
    cases (show u = Value.ref a from r1)
    obtain ⟨its, rl, pl, hz⟩ := I.list ha
    exact ⟨(rc_seqF hu r2 f pl.isList).1, (flat_ne r2 f).2, .inr ⟨_, rfl⟩⟩
  | @FL a xs _ ha f =>
    cases (show v = Value.ref a from r2)
    obtain ⟨its, rl, pl, hz⟩ := I.list ha
    exact ⟨(rc_seqF hu r1 f pl.isList).2, (flat_ne r1 f).1, .inl ⟨_, rfl⟩⟩
  | @TF a xs _ ha f =>
    cases (show u = Value.ref a from r1)
    obtain ⟨its, rl, pl, hz⟩ := I.tuple ha
    exact ⟨(rc_tupF hu r2 f pl).1, (flat_ne r2 f).2, .inr ⟨_, rfl⟩⟩
  | @FT a xs _ ha f =>
    cases (show v = Value.ref a from r2)
    obtain ⟨its, rl, pl, hz⟩ := I.tuple ha
    exact ⟨(rc_tupF hu r1 f pl).2, (flat_ne r1 f).1, .inl ⟨_, rfl⟩⟩
  | @DF a kvs _ ha f =>
    cases (show u = Value.ref a from r1)
    obtain ⟨_, _, vs, _, o, es, ep, h1, h2, h3, _⟩ := (show ObjOk _ _ H s.heap a (.dK kvs) from I.hok a _ ha)
    exact ⟨(rc_dctF hu r2 f ⟨o, es, ep, h1, h2.1, h3⟩).1, (flat_ne r2 f).2, .inr ⟨_, rfl⟩⟩
  | @FD a kvs _ ha f =>
    cases (show v = Value.ref a from r2)
    obtain ⟨_, _, vs, _, o, es, ep, h1, h2, h3, _⟩ := (show ObjOk _ _ H s.heap a (.dK kvs) from I.hok a _ ha)
    exact ⟨(rc_dctF hu r1 f ⟨o, es, ep, h1, h2.1, h3⟩).2, (flat_ne r1 f).1, .inl ⟨_, rfl⟩⟩
/-- == of two values, pure -/
def EqP (K : PySem.W.Frag) (H : Hp) (x y : V) (b : Bool) : Prop := (flatV x = true ∧ flatV y = true ∧ b = eqV x y) ∨ (PureNe K H x y ∧ b = false) ∨ (∃ a, x = .ref a ∧ y = .ref a ∧ b = true)
theorem eqp_at {A : Around} {x y : V} {u v : Value} {b : Bool} (I : Inv X pins σ H s) (r1 : RelV x u) (r2 : RelV y v) (p : EqP X.K H x y b) (hu : A.units < cLine) : EqAt A s u v b := by
  rcases p with ⟨f1, f2, rfl⟩ | ⟨p, rfl⟩ | ⟨a, rfl, rfl, rfl⟩
  · exact eqAt_V r1 r2 f1 f2
  · obtain ⟨h1, h2, h3⟩ := pure_rc (A := A) I r1 r2 p hu
    exact eqAt_rc h2 h1 h3
  · cases (show u = Value.ref a from r1)
    cases (show v = Value.ref a from r2)
    exact EqAt.same _
/-- a value of ours back from the machine's -/
def vOf : Value → V
  | .none => .non
  | .bool b => .bl b
  | .int i _ => .int i
  | .str z _ => .str z
  | .bytes b _ => .byt b
  | .float f _ => .flt f
  | .ref a => .ref a
  | .type n => .ty n
  | _ => .non
theorem vOf_rel {z : V} {u : Value} (r : RelV z u) : vOf u = z := by
  cases z with
  | non => cases (show u = Value.none from r); rfl
  | bl b => cases (show u = Value.bool b from r); rfl
  | int i => obtain ⟨t, rfl⟩ := (show ∃ t, u = Value.int i t from r); rfl
  | str i => obtain ⟨t, rfl⟩ := (show ∃ t, u = Value.str i t from r); rfl
  | byt i => obtain ⟨t, rfl⟩ := (show ∃ t, u = Value.bytes i t from r); rfl
  | flt i => obtain ⟨t, rfl⟩ := (show ∃ t, u = Value.float i t from r); rfl
  | ref a => cases (show u = Value.ref a from r); rfl
  | ty n => cases (show u = Value.type n from r); rfl
theorem vals_of : ∀ {ys : List V} {us : List Value}, Vals ys us → us.map vOf = ys
  | _, _, .nil => rfl
  | _, _, .cons r t => by rw [List.map_cons, vOf_rel r, vals_of t]
theorem eqps_at {A : Around} {x : V} {v : Value} {e : V → Bool} (I : Inv X pins σ H s) (r2 : RelV x v) (hu : A.units < cLine) : ∀ {ys : List V} {us : List Value}, Vals ys us → (∀ z ∈ ys, EqP X.K H z x (e z)) → ∀ u ∈ us, EqAt A s u v (e (vOf u))
  | _, _, .nil, _ => fun u hu' => by cases hu'
  | y :: ys, u :: us, .cons r t, f => fun u' hu' => by
    rcases List.mem_cons.mp hu' with e' | hu'
    · subst e'
      rw [vOf_rel r]
      exact eqp_at I r r2 (f y List.mem_cons_self) hu
    · exact eqps_at I r2 hu t (fun z hz => f z (List.mem_cons_of_mem _ hz)) u' hu'
/-- ys.count(x) -/
def rCountP (K : PySem.W.Frag) : V → List V → Hp → VK → Prop := fun x xs H Q => ∃ (a : Addr) (ys : List V) (y : V) (e : V → Bool), x = .ref a ∧ xs = [y] ∧ SqL K H a ys ∧ (∀ z ∈ ys, EqP K H z y (e z)) ∧ Q (.int ((ys.countP e : Nat) : Int)) H
theorem mt_countP (K : PySem.W.Frag) (hu : X.A.units + 64 < cLine) (hK : X.K = K := by rfl) : MtR X "list.count" (rCountP K) := by
  subst hK
  intro pins s σ H x xs v us Q I rx rxs h
  obtain ⟨a, ys, y, e, rfl, rfl, hs, f, q⟩ := h
  cases rx
  cases rxs with
  | cons ry rt =>
    rename_i uy ut
    cases rt
    obtain ⟨its, rv, ⟨⟨cls, dd, data, sl⟩, n, ho, hc, hdn, hd⟩, hlen⟩ := I.list hs
    simp only at hc hd
    subst hc hd
    have hu1 : X.A.in1.units < cLine := by show X.A.units + 1 < cLine; omega
    refine call_meets PySem.F.slot_list_count ⟨_, ho, rfl⟩ PySem.F.entry_list_count (PySem.F.args_list_count_2 _ _) (SeqAt.list_countAt a its.toArray n dd sl uy (fun u => e (vOf u))) ⟨ho, fun u' hu' => ?_, ?_⟩
    · exact eqps_at (A := X.A.in1) I ry hu1 rv f u' (by simpa using hu')
    · have e1 : its.toArray.toList.countP (fun u => e (vOf u)) = ys.countP e := by rw [← vals_of rv, List.countP_map]; rfl
      rw [e1]
      exact ⟨.int _, H, I.tok _, ⟨_, rfl⟩, q⟩
end
end L3
set_option Elab.async false
set_option linter.all false
set_option maxRecDepth 100000
set_option maxHeartbeats 4000000
namespace L3
open PySem PySem.Spec PyProof.Rows L2 PySem.SeqAt PySem.Calls
end L3
set_option Elab.async false
set_option linter.all false
set_option maxRecDepth 100000
set_option maxHeartbeats 4000000
namespace L3
open PySem PySem.Spec PyProof.Rows L2 PySem.SeqAt PySem.Calls
end L3
set_option Elab.async false
set_option linter.all false
set_option maxRecDepth 100000
set_option maxHeartbeats 4000000
namespace L3
open PySem PySem.Spec PyProof.Rows L2 PySem.SeqAt PySem.Calls
end L3
set_option Elab.async false
set_option linter.all false
set_option maxRecDepth 100000
set_option maxHeartbeats 4000000
namespace L3
open PySem PySem.Spec PyProof.Rows L2 PySem.SeqAt PySem.Calls
end L3
set_option Elab.async false
set_option linter.all false
set_option maxRecDepth 100000
set_option maxHeartbeats 4000000
namespace L3
open PySem PySem.Spec PyProof.Rows L2
/-- the texts of a row, each once, behind those of acc -/
def dst : List Str → List Str → List Str
  | acc, [] => acc
  | acc, x :: r => dst (if x ∈ acc then acc else x :: acc) r
theorem dst_len : ∀ (xs acc : List Str), (dst acc xs).length ≤ acc.length + xs.length
  | [], acc => Nat.le_refl _
  | x :: r, acc => by
    unfold dst
    have h := dst_len r (if x ∈ acc then acc else x :: acc)
    by_cases hx : x ∈ acc
    · rw [if_pos hx] at h ⊢
      rw [List.length_cons]
      omega
    · rw [if_neg hx] at h ⊢
      rw [List.length_cons] at h ⊢
      omega
/-- none stands twice: as many as they are; one twice: fewer -/
theorem dst_full : ∀ (xs acc : List Str), xs.Nodup → (∀ x ∈ xs, x ∉ acc) → (dst acc xs).length = acc.length + xs.length
  | [], acc, _, _ => rfl
  | x :: r, acc, h, ha => by
    unfold dst
    obtain ⟨h1, h2⟩ := List.nodup_cons.mp h
    have e := dst_full r (x :: acc) h2 fun y hy z => (List.mem_cons.mp z).elim (fun e => h1 (by rw [← e]; exact hy)) (ha y (List.mem_cons_of_mem _ hy))
    rw [if_neg (ha x List.mem_cons_self), e, List.length_cons, List.length_cons]
    omega
theorem dst_less : ∀ (xs acc : List Str), ¬ (xs.Nodup ∧ ∀ x ∈ xs, x ∉ acc) → (dst acc xs).length < acc.length + xs.length
  | [], acc, h => absurd ⟨List.nodup_nil, nofun⟩ h
  | x :: r, acc, h => by
    unfold dst
    by_cases hx : x ∈ acc
    · rw [if_pos hx, List.length_cons]
      have := dst_len r acc
      omega
    · rw [if_neg hx, List.length_cons]
      have := dst_less r (x :: acc) fun ⟨h1, h2⟩ => h ⟨List.nodup_cons.mpr ⟨fun z => h2 x z List.mem_cons_self, h1⟩, fun y hy => (List.mem_cons.mp hy).elim (fun e => e ▸ hx) fun hy z => h2 y hy (List.mem_cons_of_mem _ z)⟩
      rw [List.length_cons] at this
      omega
def leS (a b : Str) : Bool := !decide (b.cps.toList < a.cps.toList)
def srtS (xs : List Str) : List Str := xs.mergeSort leS
theorem srtS_perm (xs : List Str) : (srtS xs).Perm xs := List.mergeSort_perm xs _
theorem leS_iff {a b : Str} : leS a b = true ↔ a.cps.toList ≤ b.cps.toList := by
  unfold leS
  rw [Bool.not_eq_true', decide_eq_false_iff_not]
  exact List.not_lt
theorem leS_total (a b : Str) : (leS a b || leS b a) = true := by
  rw [Bool.or_eq_true, leS_iff, leS_iff]
  exact List.le_total _ _
theorem leS_trans (a b c : Str) (h1 : leS a b = true) (h2 : leS b c = true) : leS a c = true := leS_iff.mpr (List.le_trans (leS_iff.mp h1) (leS_iff.mp h2))
theorem leS_anti {a b : Str} (h1 : leS a b = true) (h2 : leS b a = true) : a = b := by
  obtain ⟨⟨a⟩⟩ := a
  obtain ⟨⟨b⟩⟩ := b
  have h : a = b := List.le_antisymm (leS_iff.mp h1) (leS_iff.mp h2)
  rw [h]
theorem srtS_sorted (xs : List Str) : (srtS xs).Pairwise fun a b => leS a b = true := List.pairwise_mergeSort leS_trans leS_total xs
theorem sortedS_uniq : ∀ {xs ys : List Str}, xs.Perm ys → (xs.Pairwise fun a b => leS a b = true) → (ys.Pairwise fun a b => leS a b = true) → xs = ys
  | [], ys, p, _, _ => p.nil_eq
  | x :: xs, [], p, _, _ => absurd p.symm.nil_eq (by simp)
  | x :: xs, y :: ys, p, hx, hy => by
    have e : x = y := by
      rcases List.mem_cons.mp (p.mem_iff.mp (List.mem_cons_self (a := x) (l := xs))) with e | m
      · exact e
      rcases List.mem_cons.mp (p.mem_iff.mpr (List.mem_cons_self (a := y) (l := ys))) with e | m2
      · exact e.symm
      exact leS_anti ((List.pairwise_cons.mp hx).1 y m2) ((List.pairwise_cons.mp hy).1 x m)
    subst e
    rw [sortedS_uniq (List.perm_cons x |>.mp p) (List.pairwise_cons.mp hx).2 (List.pairwise_cons.mp hy).2]
theorem srtS_eq {xs ns : List Str} (p : xs.Perm ns) (h : xs.Pairwise fun a b => leS a b = true) : xs = srtS ns := sortedS_uniq (p.trans (srtS_perm ns).symm) h (srtS_sorted ns)
section
variable {prog : Program} {w : World} {A : Around} {E : Value → Shared → Prop} {s : Shared}
def ltSv (v u : Value) : Bool := decide ((strOf v).cps.toList < (strOf u).cps.toList)
theorem swo_txt : SrtO.Swo ltSv := by
  refine ⟨fun x y h => ?_, fun x y z h1 h2 => ?_⟩
  · exact decide_eq_false (List.lt_asymm (of_decide_eq_true h))
  · exact decide_eq_false (List.not_lt.mpr (List.le_trans (List.not_lt.mp (of_decide_eq_false h1)) (List.not_lt.mp (of_decide_eq_false h2))))
theorem txts_sortable {a : Addr} {vs : List Value} {ss : List Str} (hI : StrsAre vs ss) (h2 : 2 ≤ vs.length) : SrtO.SortableO prog w A s a vs ltSv := by
  intro h' _
  refine ⟨oneType', fun Q E hq => ?_, fun p q hm hm' => ?_⟩
  · match vs, hI, h2 with
    | v1 :: v2 :: rest, hI, _ =>
      rw [keyKind_strs hI]
      exact wpAny_pure hq
    | [], _, h => exact absurd h (by decide)
    | [v], _, h => exact absurd h (by simp)
  · obtain ⟨x, t, e⟩ := hI.all _ hm
    obtain ⟨y, u, e'⟩ := hI.all _ hm'
    show wpAny (model prog w) A (keyLt' oneType' p.1 q.1) (fun r s' => s' = _ ∧ r = ltSv p.1 q.1) (fun _ _ => False) _
    rw [e, e', keyLt'_oneType]
    exact oneLt_str ⟨rfl, rfl⟩
theorem txts_out {vs out : List Value} {ss : List Str} (hI : StrsAre vs ss) (hs : SrtO.Srtd ltSv out) (hb : SrtO.Stb ltSv out vs) : StrsAre out (srtS ss) := by
  have h1 : StrsAre out (out.map strOf) := strsAre_map out fun v hv => hI.all v (hb.perm.mem_iff.mp hv)
  have h2 : (out.map strOf).Perm ss := by
    have q := hb.perm.map strOf
    rw [hI.strs] at q
    exact q
  have h3 : (out.map strOf).Pairwise fun a b => leS a b = true := List.pairwise_map.mpr (hs.imp fun {x y} h => by
    show (!decide ((strOf y).cps.toList < (strOf x).cps.toList)) = true
    have h' : decide ((strOf y).cps.toList < (strOf x).cps.toList) = false := h
    rw [h']
    rfl)
  rw [← srtS_eq h2 h3]
  exact h1
end
section
variable {X : Cx}
/-- sorted(xs), xs a list or a tuple of texts -/
def rSortedT (K : PySem.W.Frag) : List V → Hp → VK → Prop := fun vs H Q => ∃ (a : Addr) (xs : List Str), vs = [V.ref a] ∧ (SqL K H a (xs.map V.str) ∨ SqT K H a (xs.map V.str)) ∧ ∀ p : Addr, H p = none → Q (.ref p) (upd H p (.lst ((srtS xs).map V.str)))
theorem cr_sortedT (K : PySem.W.Frag) (hK : X.K = K := by rfl) : CallR X (.builtin "sorted") (rSortedT K) := by
  subst hK
  intro pins s σ H vs us Q I r h
  obtain ⟨a, xs, rfl, hs, q⟩ := h
  rw [Vals.ref1 r]
  have fin : ∀ (its out : List Value), Vals (xs.map V.str) its → SrtO.Srtd ltSv out → SrtO.Stb ltSv out its → (xs.map V.str).length ≤ sizeLine → EP X pins σ Q (.ref (s.heap.objs.size + 1)) { s with heap := sortedAll s.heap its out.toArray } := fun its out rv h1 h2 hz => by
    have k := txts_out rv.strs h1 h2
    obtain ⟨ep, he'⟩ := PyProof.Rows.sortedAll_at s.heap its out.toArray
    have hlen : ((srtS xs).map V.str).length ≤ sizeLine := by
      rw [List.length_map, (srtS_perm xs).length_eq]
      rw [List.length_map] at hz
      exact hz
    exact ⟨.ref _, upd H (s.heap.objs.size + 1) (.lst ((srtS xs).map V.str)), I.laid (t' := s.toks) (fun _ _ => PyProof.Rows.sortedAll_old) (Nat.le_succ _) ⟨hlen, out, ep, vals_of_strs k, he'⟩, rfl, q _ (I.hok.fresh (Nat.le_succ _))⟩
  rcases hs with hs | hs
  · obtain ⟨its, rv, hl, hz⟩ := I.list hs
    exact SrtO.sorted_ord swo_txt hl.isList (by rw [← rv.length]; exact hz) (fun h2 h₁ a' _ _ => txts_sortable rv.strs h2) fun out h1 h2 => fin its out rv h1 h2 hz
  · obtain ⟨its, rv, hl, hz⟩ := I.tuple hs
    exact SrtA.sorted_tup swo_txt hl (by rw [← rv.length]; exact hz) (fun h2 h₁ a' _ _ => txts_sortable rv.strs h2) fun out h1 h2 => fin its out rv h1 h2 hz
end
theorem strsAre_len : ∀ {vs : List Value} {xs : List Str}, StrsAre vs xs → vs.length = xs.length
  | _, _, .nil => rfl
  | _, _, .cons _ _ r => congrArg (· + 1) (strsAre_len r)
section
variable {P : Program} {w : World} {A : Around} {E : Value → Shared → Prop} {s : Shared}
open PySem.Froz
/-- the set of texts at a: its members, in some order -/
def SetT (P : Program) (w : World) (h : Heap) (a : Addr) (l : List Str) : Prop := ∃ D : SD, h.get? a = some (sObj "set" D) ∧ TxOk P w D l ∧ l.length < scanBound ∧ Ris D.2.2.place.toList ∧ (w.params.followText "set-order" = true ∨ D.2.2.led = true)
theorem SetT.at {h h' : Heap} {a : Addr} {l : List Str} (R : SetT P w h a l) (k : ∀ o, h.get? a = some o → h'.get? a = some o) : SetT P w h' a l := by
  obtain ⟨D, ho, r⟩ := R
  exact ⟨D, k _ ho, r⟩
theorem ris_tail {ep : Nat} {es : Array (Int × Value)} {t : SetTable} {b : Bool} (r : Ris t.place.toList) : Ris (tailTx ep es t b).2.2.place.toList := by
  unfold tailTx
  by_cases c : (!b && t.tooFull) = true
  · rw [if_pos c]
    exact relayAll_ris _ _ _
  · rw [if_neg c]
    exact r
theorem led_tail {ep : Nat} {es : Array (Int × Value)} {t : SetTable} {b : Bool} : (tailTx ep es t b).2.2.led = t.led := by
  unfold tailTx
  by_cases c : (!b && t.tooFull) = true
  · rw [if_pos c]
    exact relayAll_led _ _ _
  · rw [if_neg c]
theorem ris_addTx {h : Int} {v : Value} {D : SD} (r : Ris D.2.2.place.toList) : Ris (addTx h v D).2.2.place.toList := by
  unfold addTx
  refine ris_tail ?_
  have z := layNew_ris D.2.2 D.1 h v r
  by_cases c : (layNew D.2.2 D.1 h v).2.1.plain = true
  · rw [if_pos c]
    exact z
  · rw [if_neg c]
    exact z
theorem led_addTx {h : Int} {v : Value} {D : SD} : (addTx h v D).2.2.led = D.2.2.led := by
  unfold addTx
  rw [led_tail]
  have z := layNew_led D.2.2 D.1 h v
  by_cases c : (layNew D.2.2 D.1 h v).2.1.plain = true
  · rw [if_pos c]
    exact z
  · rw [if_neg c]
    exact z
/-- a text that is there already -/
theorem add_old {a : Addr} {D : SD} {l : List Str} {k : Str} {u : Tok} {Q : Bool → Shared → Prop} (ho : s.heap.get? a = some (sObj "set" D)) (F : TxOk P w D l) (hk : k ∈ l) (hb : l.length < scanBound) (q : Q false s) :
    wpAny (model P w) A (setAddHashed a (.str k u) (hashStr w k)) Q E s := by
  obtain ⟨es, ep, t⟩ := D
  have hd : (sObj "set" (es, ep, t)).data = .set es ep t := rfl
  have hf : t.fits es.size = true := F.fit
  have hel : ElemsOf (PySem.strKind P w) es.toList := F.el
  have hsz : es.size = l.length := F.sz
  have hkey : (PySem.strKind P w).is k (.str k u) = true := is_str k u
  unfold setAddHashed setAddHashedIn
  refine wpAny_holding (wpAny_bind (wpAny_setState_of ho hd hf ?_))
  dsimp only
  rw [byScan_of rfl (by omega) hel]
  simp only [↓reduceIte]
  unfold setAddByScan
  refine wpAny_bind ?_
  refine wpAny_bind (wpAny_rule ?_)
  refine wpAny_bind (wpAny_setScan_of (knd := PySem.strKind P w) (k := k) hkey ho hd hf hel ?_)
  cases hr : List.findIdx? (fun e => (PySem.strKind P w).is k e.2) es.toList with
  | some j =>
    dsimp only
    exact wpAny_pure (wpAny_pure q)
  | none =>
    obtain ⟨e, he, hp⟩ := (F.mem k).mp hk
    have c := List.findIdx?_eq_none_iff.mp hr e he
    rw [hp] at c
    cases c
/-- a text is put in -/
theorem setT_add {a : Addr} {l : List Str} {k : Str} {u : Tok} {Q : Bool → Shared → Prop} (R : SetT P w s.heap a l) (hb : l.length + 1 < scanBound)
    (q : ∀ b h', (∀ c o, c ≠ a → s.heap.get? c = some o → h'.get? c = some o) → SetT P w h' a (if k ∈ l then l else k :: l) → Q b { s with heap := h' }) :
    wpAny (model P w) A (setAddHashed a (.str k u) (hashStr w k)) Q E s := by
  obtain ⟨D, ho, F, hl, hr, hled⟩ := R
  by_cases hk : k ∈ l
  · exact add_old ho F hk hl (q false s.heap (fun _ _ _ e => e) (by rw [if_pos hk]; exact ⟨D, ho, F, hl, hr, hled⟩))
  · refine add_x ho F hk hb (q true _ (fun c o hc e => (Heap.get?_update_other _ _ (Ne.symm hc)).trans e) ?_)
    rw [if_neg hk]
    exact ⟨_, get_upd _ ho rfl, add_ok u F, hb, ris_addTx hr, hled.imp id fun z => by rw [led_addTx]; exact z⟩
theorem update_txts {I : Addr} {fp wr : List Addr} {G : Array GenState → Array GenState → Prop} {n : Nat} {Pv : Nat → Value → Prop} {St : Nat → Shared → Prop} {R : Result → Shared → Prop}
    (W : WalksS P w A.in1 I fp wr G n Pv St) (S : Addr) (hSf : S ∉ fp) (hval : ∀ i v, Pv i v → ∃ k t, v = .str k t) :
    ∀ (xs : List Str) (i : Nat) (acc : List Str) (s : Shared), i + xs.length = n → (∀ j v, Pv (i + j) v → ∃ k t, xs[j]? = some k ∧ v = .str k t) → acc.length + xs.length + 1 < scanBound → St i s → SetT P w s.heap S acc →
      (∀ s', Moved (S :: wr) G s s' → SetT P w s'.heap S (dst acc xs) → R (.ok (.ret .none)) s') →
      codeAny (model P w) A (.builtin "set.update.loop" ⟨[.ref S, .ref I], []⟩) R s := by
  have hSw : S ∉ wr := fun h => hSf (W.sub _ h)
  have hsub : ∀ b ∈ wr, b ∈ S :: wr := fun b hb => List.mem_cons_of_mem _ hb
  intro xs
  induction xs with
  | nil =>
    intro i acc s hn _ _ hst hS fin
    rw [List.length_nil, Nat.add_zero] at hn
    subst hn
    refine codeAny_builtin F.entry_set_update_loop ?_
    rw [Around.under_plainId F.plain_set_update_loop _]
    show wpAny _ A.in1 (pyNext (.ref I) >>= _) _ _ s
    refine wpAny_bind (W.done s _ _ hst fun s' hm => ?_)
    show wpAny _ A.in1 (ret Value.none) _ _ s'
    exact wpAny_pure (fin s' (hm.mono hsub) (hS.at fun o e => hm.heap S o hSw e))
  | cons x r ih =>
    intro i acc s hn hx hb hst hS fin
    rw [List.length_cons] at hn hb
    have hlt : i < n := by omega
    refine codeAny_builtin F.entry_set_update_loop ?_
    rw [Around.under_plainId F.plain_set_update_loop _]
    show wpAny _ A.in1 (pyNext (.ref I) >>= _) _ _ s
    refine wpAny_bind (W.item i s _ _ hlt hst fun v s' hP hst' hm => ?_)
    obtain ⟨z, t, hz, rfl⟩ := hx 0 v hP
    cases hz
    have hS' : SetT P w s'.heap S acc := hS.at fun o e => hm.heap S o hSw e
    show wpAny _ A.in1 (holding [Value.str x t] (setAdd S (.str x t)) >>= _) _ _ s'
    refine wpAny_bind (wpAny_holding ?_)
    unfold setAdd
    refine wpAny_holding ?_
    refine wpAny_bind ((PySem.strKind P w).pyHash (k := x) (Froz.is_str x t) ?_)
    refine setT_add (s := { s' with toks := s'.toks + 1 }) hS' (by omega) fun b h' hsb hS2 => ?_
    refine wpAny_pure ⟨plainId_quiet F.plain_set_update_loop _, ih (i + 1) (if x ∈ acc then acc else x :: acc) _ (by omega) (fun j v hv => ?_) ?_ (W.frame _ s' _ _ hst' (Nat.le_succ _) fun b hb o e => hsb b o (fun h : b = S => hSf (by rw [← h]; exact hb)) e) hS2 fun s'' hm'' hS'' => ?_⟩
    · obtain ⟨k, t2, e1, e2⟩ := hx (j + 1) v (by rw [show i + (j + 1) = i + 1 + j by omega]; exact hv)
      exact ⟨k, t2, e1, e2⟩
    · by_cases hxa : x ∈ acc
      · rw [if_pos hxa]
        omega
      · rw [if_neg hxa, List.length_cons]
        omega
    · exact fin s'' (Moved.trans W.gtrans ((hm.mono hsub).then_heap (Nat.le_succ _) fun b o hb e => hsb b o (fun h : b = S => hb (by rw [h]; exact List.mem_cons_self)) e) hm'') hS''
/-- set(xs), xs a thing of the type T whose walk gives texts -/
theorem call_set_txts {l : Addr} {T : String} {its : Array Value} {xs : List Str} {io : Obj} {Q : Value → Shared → Prop} (calm : A.handled = none) (few : xs.length + 1 < scanBound) (size : its.size = xs.length)
    (isT : ∀ z : Shared, (∀ b o, s.heap.get? b = some o → z.heap.get? b = some o) → z.TypeIs (.ref l) T) (lt : l < s.heap.objs.size) (vs : StrsAre its.toList xs)
    (m1 : isSubtype (.type T) (.type "set") = pure false) (m2 : isSubtype (.type T) (.type "frozenset") = pure false) (m3 : (Value.type T == Value.type "dict") = false)
    (iter : ∀ (z : Shared) (A2 : Around) (E2 : Value → Shared → Prop) (Q2 : Value → Shared → Prop), (∀ b o, s.heap.get? b = some o → z.heap.get? b = some o) → Q2 (.ref z.heap.objs.size) { z with heap := z.heap.push io } → wpAny (model P w) A2 (pyIter (.ref l)) Q2 E2 z)
    (St : Addr → Nat → Heap → Prop) (W : ∀ (A2 : Around) (I : Addr), A2.handled = none → l ≠ I → Walks P w A2 I [I, l] [I] its.size (fun i v => its[i]? = some v) (St I))
    (start : ∀ h : Heap, (∀ b o, s.heap.get? b = some o → h.get? b = some o) → St h.objs.size 0 (h.push io))
    (fin : ∀ (h' : Heap) (tk : Nat), SetT P w h' s.heap.objs.size (dst [] xs) → (∀ b o, s.heap.get? b = some o → h'.get? b = some o) → Q (.ref s.heap.objs.size) { s with heap := h', toks := tk }) :
    wpAny (model P w) A (call (.type "set") [.ref l]) Q E s := by
  obtain ⟨c, tl, k1⟩ := F.called_set.mro
  have k2 := F.called_set.made
  have k3 := F.called_set.sub
  refine wpAny_call (codeAny_of_tree ?_)
  show wpAny _ _ (callAny (.type "set") _) _ _ _
  refine wpAny_pure ⟨Code.quiet_builtin _ (by decide +kernel), codeAny_builtin F.entry_type_call ?_⟩
  rw [Around.under_plain (weight_type_call_type "set" [.ref l] []) rfl]
  have k4 := F.called_set.notType
  have k5 := F.called_set.canCreate
  have k6 := F.typeCall_set_1 (.ref l)
  repeat (any_goals (first | assumption | wp_step))
  refine codeAny_mono (code_set_led1 (.ref l) (E := E) (Q₁ := fun obj z => obj = .ref s.heap.objs.size ∧ z = { s with heap := s.heap.push (newSet w) }) ⟨rfl, rfl⟩) fun r z hr => ?_
  cases r with
  | error e => exact hr
  | ok fl =>
    cases fl with
    | ret obj =>
      obtain ⟨rfl, rfl⟩ := hr
      have there : (s.heap.push (newSet w)).get? s.heap.objs.size = some (newSet w) := Heap.get?_push_size _ rfl
      have ty : Shared.TypeIs { s with heap := s.heap.push (newSet w) } (.ref s.heap.objs.size) "set" := ⟨_, there, rfl⟩
      have tl1 := isT { s with heap := s.heap.push (newSet w) } fun b o e => Heap.get?_push_of_some _ e
      have k7 := F.called_set.init.lookup
      have k8 := F.called_set.init.bind (.ref s.heap.objs.size)
      repeat (any_goals (first | assumption | wp_step))
      refine codeAny_mono (codeAny_call_builtin (R := wants (fun r z => r = .none ∧ ∃ h' tk, z = { s with heap := h', toks := tk } ∧ SetT P w h' s.heap.objs.size (dst [] xs) ∧ (∀ b o, s.heap.get? b = some o → h'.get? b = some o)) E) F.called_set.init.plain F.entry_set_init (check_set_init_1 ty ?_)) fun r₂ z hr₂ => ?_
      · unfold Builtin.«set.__init__» noKeywords Builtin.Frozenset.updateFrom
        generalize hPI : pyIter = PI
        wp_walk
        subst hPI
        have lt2 : l ≠ (s.heap.push (newSet w)).objs.size := by
          rw [Heap.size_push]
          exact Nat.ne_of_lt (Nat.lt_succ_of_lt lt)
        have calm3 : A.in1.in1.in1.handled = none := by simp [calm]
        have ne2 : s.heap.objs.size ∉ [(s.heap.push (newSet w)).objs.size, l] := by
          rw [Heap.size_push]
          intro hm
          rcases List.mem_cons.mp hm with hm | hm
          · exact Nat.ne_of_lt (Nat.lt_succ_self _) hm
          · exact Nat.ne_of_gt lt (List.mem_singleton.mp hm)
        refine iter { s with heap := s.heap.push (newSet w) } _ _ _ (fun b o e => Heap.get?_push_of_some _ e) ?_
        refine wpAny_bind (wpAny_runValue ?_)
        have vals : ∀ (i : Nat) (v : Value), its[i]? = some v → ∃ k t, xs[i]? = some k ∧ v = .str k t := fun i v hv => by
          have hi : i < xs.length := by rw [← size]; exact (Array.getElem?_eq_some_iff.mp hv).1
          obtain ⟨t, e⟩ := SS.strs_at vs i v (by rw [Array.getElem?_toList]; exact hv)
          refine ⟨xs[i], t, List.getElem?_eq_getElem hi, ?_⟩
          rw [e, List.getD_eq_getElem?_getD, List.getElem?_eq_getElem hi] <;> rfl
        refine update_txts ((W _ _ calm3 lt2).toS) s.heap.objs.size ne2 (fun i v hv => by obtain ⟨k, t, _, e⟩ := vals i v hv; exact ⟨k, t, e⟩) xs 0 [] _ (by rw [Nat.zero_add]; exact size.symm) (fun j v hv => vals j v (by rw [Nat.zero_add] at hv; exact hv)) (by rw [List.length_nil]; omega) (start (s.heap.push (newSet w)) fun b o e => Heap.get?_push_of_some _ e) ?g1 ?g2
        case g1 =>
          have at2 : ((s.heap.push (newSet w)).push io).get? s.heap.objs.size = some (newSet w) := Heap.get?_push_of_some _ there
          exact ⟨(#[], 0, .fresh 0 0 (!w.params.followText "set-order")), at2, TxOk.nil (by first | rfl | decide), by decide, by first | exact List.Pairwise.nil | trivial, by
            show _ ∨ (!w.params.followText "set-order") = true
            cases w.params.followText "set-order"
            · exact .inr rfl
            · exact .inl rfl⟩
        case g2 =>
          intro z mv sr
          obtain ⟨h2, gn, dr, tk2, os2⟩ := z
          have e1 : gn = s.gens := mv.gens
          have e2 : dr = s.drawn := mv.drawn
          have e3 : os2 = s.os := mv.os
          subst e1; subst e2; subst e3
          show wpAny _ _ _ _ _ _
          refine wpAny_pure ?_
          show wpAny _ _ (ret Value.none) _ _ _
          refine wpAny_pure ⟨rfl, h2, tk2, rfl, sr, fun b o e => ?_⟩
          have l0 : b < s.heap.objs.size := Heap.lt_size e
          refine mv.heap b o (fun hm => ?_) (Heap.get?_push_of_some _ (Heap.get?_push_of_some _ e))
          rcases List.mem_cons.mp hm with hm | hm
          · exact Nat.ne_of_lt l0 hm
          · have e9 := List.mem_singleton.mp hm
            rw [Heap.size_push] at e9
            exact Nat.ne_of_lt (Nat.lt_succ_of_lt l0) e9
      · cases r₂ with
        | error e => exact hr₂
        | ok fl₂ =>
          cases fl₂ with
          | ret r =>
            obtain ⟨rfl, h', tk, rfl, sr, kp⟩ := hr₂
            repeat (any_goals (first | assumption | wp_step))
            exact fin _ _ sr kp
          | _ => exact hr₂.elim
    | _ => exact hr.elim
theorem call_set_lstT {l : Addr} {its : Array Value} {xs : List Str} {Q : Value → Shared → Prop} (calm : A.handled = none) (few : xs.length + 1 < scanBound) (isl : s.heap.IsList l its) (vs : StrsAre its.toList xs)
    (fin : ∀ (h' : Heap) (tk : Nat), SetT P w h' s.heap.objs.size (dst [] xs) → (∀ b o, s.heap.get? b = some o → h'.get? b = some o) → Q (.ref s.heap.objs.size) { s with heap := h', toks := tk }) :
    wpAny (model P w) A (call (.type "set") [.ref l]) Q E s := by
  have up : ∀ h : Heap, (∀ b o, s.heap.get? b = some o → h.get? b = some o) → h.IsList l its := fun h k => by
    obtain ⟨o, ho, r⟩ := isl
    exact ⟨o, k _ _ ho, r⟩
  have size : its.size = xs.length := by
    have q := strsAre_len vs
    rwa [Array.length_toList] at q
  refine call_set_txts (T := "list") (io := { cls := .type "list_iterator", data := .fields #[.ref l, .int 0 0] }) calm few size (fun z k => ?_) ?_ vs F.sub_list_set F.sub_list_frozenset (by decide) (fun z A2 E2 Q2 k q => wpAny_pyIter_list (up z.heap k) q) (fun I i h => h.IsListIter I l i ∧ h.IsList l its) (fun A2 I hc ne => Walks.list hc I l ne its) (fun h k => ⟨⟨_, Heap.get?_push_size _ rfl, rfl, rfl⟩, (up h k).push _⟩) fin
  · obtain ⟨o, ho, hc, _⟩ := up z.heap k
    exact ⟨o, ho, hc⟩
  · obtain ⟨o, ho, _⟩ := isl
    exact Heap.lt_size ho
theorem call_set_tupT {l : Addr} {its : Array Value} {xs : List Str} {Q : Value → Shared → Prop} (calm : A.handled = none) (few : xs.length + 1 < scanBound) (isl : s.heap.IsTuple l its) (vs : StrsAre its.toList xs)
    (fin : ∀ (h' : Heap) (tk : Nat), SetT P w h' s.heap.objs.size (dst [] xs) → (∀ b o, s.heap.get? b = some o → h'.get? b = some o) → Q (.ref s.heap.objs.size) { s with heap := h', toks := tk }) :
    wpAny (model P w) A (call (.type "set") [.ref l]) Q E s := by
  have up : ∀ h : Heap, (∀ b o, s.heap.get? b = some o → h.get? b = some o) → h.IsTuple l its := fun h k => by
    obtain ⟨o, ho, r⟩ := isl
    exact ⟨o, k _ _ ho, r⟩
  have size : its.size = xs.length := by
    have q := strsAre_len vs
    rwa [Array.length_toList] at q
  refine call_set_txts (T := "tuple") (io := { cls := .type "tuple_iterator", data := .fields #[.ref l, .int 0 0] }) calm few size (fun z k => ?_) ?_ vs F.sub_tuple_set F.sub_tuple_frozenset (by decide) (fun z A2 E2 Q2 k q => wpAny_pyIter_tuple (up z.heap k) q) (fun I i h => h.IsTupleIter I l i ∧ h.IsTuple l its) (fun A2 I hc ne => Walks.tuple hc I l ne its) (fun h k => ⟨⟨_, Heap.get?_push_size _ rfl, rfl, rfl⟩, up _ fun b o e => Heap.get?_push_of_some _ (k b o e)⟩) fin
  · obtain ⟨o, ho, hc, _⟩ := up z.heap k
    exact ⟨o, ho, hc⟩
  · obtain ⟨o, ho, _⟩ := isl
    exact Heap.lt_size ho
/-- len(x), x a set of texts -/
theorem len_setT {a : Addr} {l : List Str} {Q : Value → Shared → Prop} (R : SetT P w s.heap a l) (fin : Q (.int (l.length : Nat) (s.toks + 1)) { s with toks := s.toks + 1 + 1 }) :
    wpAny (model P w) A (call (.builtin "len") [.ref a]) Q E s := by
  obtain ⟨⟨es, ep, t⟩, ho, F, hb, hr, hl⟩ := R
  have hsz : es.size = l.length := F.sz
  refine call_len_set (o := sObj "set" (es, ep, t)) (es := es) (ep := ep) (t := t) ho ⟨rfl, rfl, rfl⟩ rfl F.fit ?_ ?_
  · unfold scanBound at hb
    omega
  · rw [hsz]
    exact fin
end
section
variable {X : Cx}
/-- a set of texts, l its members -/
def SetTO (P : Program) (w : World) (a : Addr) (l : List Str) : HO := .ext fun h => SetT P w h a l
theorem setTO_new {w : World} {P : Program} {H : Hp} {h : Heap} {a : Addr} {l : List Str} (R : SetT P w h a l) : ObjOk P w H h a (SetTO P w a l) := by
  have ⟨o, ho, _⟩ := R
  exact ⟨R, ⟨_, ho⟩, fun h1 h2 p k => SetT.at p k⟩
theorem setTO_get {pins : List (Addr × Obj)} {σ : L2.St} {H : Hp} {s : Shared} {a : Addr} {l : List Str} (I : Inv X pins σ H s) (ha : H a = some (SetTO X.prog X.w a l)) : SetT X.prog X.w s.heap a l := (I.hok a _ ha).1
/-- set(xs), xs a list or a tuple of texts -/
def rSetT (P : Program) (w : World) (K : PySem.W.Frag) : List V → Hp → VK → Prop := fun vs H Q => ∃ (a : Addr) (xs : List Str), vs = [.ref a] ∧ (SqL K H a (xs.map V.str) ∨ SqT K H a (xs.map V.str)) ∧ xs.length ≤ 3000 ∧ ∀ p, H p = none → Q (.ref p) (upd H p (SetTO P w p (dst [] xs)))
theorem cr_setT (K : PySem.W.Frag) (cm : X.calm = true) (hK : X.K = K := by rfl) : CallR X (.type "set") (rSetT X.prog X.w K) := by
  subst hK
  intro pins s σ H vs us Q I r h
  obtain ⟨a, xs, rfl, hs, few, q⟩ := h
  rw [Vals.ref1 r]
  have done : ∀ (h' : Heap) (tk : Nat), SetT X.prog X.w h' s.heap.objs.size (dst [] xs) → (∀ b o, s.heap.get? b = some o → h'.get? b = some o) → EP X pins σ Q (.ref s.heap.objs.size) { s with heap := h', toks := tk } := fun h' tk R keep =>
    ⟨.ref _, upd H s.heap.objs.size (SetTO X.prog X.w s.heap.objs.size (dst [] xs)), I.laid (t' := tk) keep (Nat.le_refl _) (setTO_new R), rfl, q _ (I.hok.fresh (Nat.le_refl _))⟩
  have sb : xs.length + 1 < scanBound := by unfold scanBound; omega
  rcases hs with hs | hs
  · obtain ⟨its, rv, pl, hz⟩ := I.list hs
    exact call_set_lstT (I.ok.hd cm) sb pl.isList (by simpa using rv.strs) done
  · obtain ⟨its, rv, pl, hz⟩ := I.tuple hs
    exact call_set_tupT (I.ok.hd cm) sb (show s.heap.IsTuple a its.toArray from pl) (by simpa using rv.strs) done
def rLenT (P : Program) (w : World) : List V → Hp → VK → Prop := fun vs H Q => ∃ (a : Addr) (l : List Str), vs = [V.ref a] ∧ H a = some (SetTO P w a l) ∧ Q (.int (l.length : Nat)) H
theorem cr_lenT : CallR X (.builtin "len") (rLenT X.prog X.w) := by
  intro pins s σ H vs us Q I r h
  obtain ⟨a, l, rfl, ha, q⟩ := h
  rw [Vals.ref1 r]
  exact len_setT (setTO_get I ha) ⟨.int _, H, I.tok _, ⟨_, rfl⟩, q⟩
end
theorem roomHU {k : Nat} {A : Around} (r : L2H.RoomH k A) : A.units + 64 < cLine := by have := r.un; omega
end L3
set_option Elab.async false
set_option linter.all false
set_option maxRecDepth 100000
set_option maxHeartbeats 4000000
namespace L3
open PySem PySem.Spec PySem.Calls PyProof.Rows L2
end L3
set_option Elab.async false
set_option linter.all false
set_option maxRecDepth 100000
set_option maxHeartbeats 4000000
namespace L3
open PySem PySem.Spec PyProof.Rows L2
section
variable {X : Cx} {k : Nat} {f C : Addr} {ks : List Str} {sp : Sp} {W : WX} {x m : Str} {p pos apos p1 p2 : Pos} {e o : Expr} {es : List Expr} {kws : List Keyword} {ta : TE} {t tk : TA}
/-- o.m(e, ..): the class, the def and its promise are told when it's asked -/
def tMtV (X : Cx) (k : Nat) (m : Str) (W : WX) (ta : TE) (t : TA) : TE := fun σ H Q => ta σ H fun x H1 => ∃ (a C dx : Addr) (fs : List (Str × V)) (f : Addr), x = .ref a ∧ H1 a = some (.ins C dx fs) ∧ Cls X.K C ∧ Meth X.K C m f ∧ fs.lookup m = none ∧
  t σ H1 fun vs H2 => ∃ sp : Sp, Fc X.prog X.w X.K X.mg X.base k f [] sp ∧ sp (.ref a :: vs) H2 Q (WE W σ)
theorem c_methV {pl : Sem Bool} (he : PE X o ta) (hr : Rm k X.A) (hx : Takes X W) (ha : PA X (e :: es) t)
    (hst : starEach (e :: es) X.env = (false, eval e X.env) :: starEach es X.env := by rfl) (hpl : (backTo pos (starEach es X.env)).any (·.1) = false := by rfl)
    (ht : eval (.Call (.Attribute o m apos) (e :: es) [] pos) X.env = (do
      let ov ← eval o X.env
      standAt apos.atName
      let (f, first) ← holding [ov] (getMethod ov m pl)
      callWith pos f first (backTo pos (starEach (e :: es) X.env)) (backToKw pos (keywordEach [] X.env))) := by rfl) :
    PE X (.Call (.Attribute o m apos) (e :: es) [] pos) (tMtV X k m W ta t) := by
  refine ⟨fun pins s σ H Q I h => ?_⟩
  refine PySem.W.methodCall_KW (pl := pl) (thn (he.run pins s σ H _ I h) fun u s1 ⟨x, H1, I1, rx, a, C, dx, fs, f, ex, ea, c, hm, l, q⟩ => ?_) ht
  subst ex
  obtain rfl : u = Value.ref a := rx
  refine getmeth_ok I1 ea c hm l ?_
  refine PySem.W.callWith_K (first := [.ref a]) (h₀ := X.base) I.ok.mod.kin hm.kp (thn (ha.run pos pins s1 σ H1 _ I1 q) fun us s2 ⟨vs, H2, I2, r, sp, F, q2⟩ => ⟨I2.kIn, ?_⟩) hst hpl
  exact run_fc (us := .ref a :: us) (ws := []) (vs := .ref a :: vs) F hr hx I2 (by rw [List.append_nil]; exact .cons rfl r) rfl q2
theorem c_methV0 {pl : Sem Bool} (he : PE X o ta) (hr : Rm k X.A) (hx : Takes X W)
    (ht : eval (.Call (.Attribute o m apos) [] [] pos) X.env = (do
      let ov ← eval o X.env
      standAt apos.atName
      let (f, first) ← holding [ov] (getMethod ov m pl)
      callWith pos f first (backTo pos (starEach [] X.env)) (backToKw pos (keywordEach [] X.env))) := by rfl) :
    PE X (.Call (.Attribute o m apos) [] [] pos) (tMtV X k m W ta tNil) := by
  refine ⟨fun pins s σ H Q I h => ?_⟩
  refine PySem.W.methodCall_KW (pl := pl) (thn (he.run pins s σ H _ I h) fun u s1 ⟨x, H1, I1, rx, a, C, dx, fs, f, ex, ea, c, hm, l, sp, F, q⟩ => ?_) ht
  subst ex
  obtain rfl : u = Value.ref a := rx
  refine getmeth_ok I1 ea c hm l ?_
  exact PySem.W.callWith_K0 (first := [.ref a]) I1.kIn hm.kp (run_fc (us := [.ref a]) (ws := []) (vs := [.ref a]) F hr hx I1 (.cons rfl .nil) rfl q)
/-- an own class whose attribute m is the def f -/
structure ClsM (K : PySem.W.Frag) (D : Addr) (m : Str) (f : Addr) : Prop where
  ga : PySem.W.specialIn K (.ref D) "__getattribute__" = some (some (.builtin "type.__getattribute__"))
  rd : PySem.W.readsIn K D (.type "type") = true
  fc : PySem.W.findCls K (.ref D) (.type "type") m = some (.val (.ref f))
  kp : PySem.W.keepIn K (.ref f) = true
def clsMIs (K : PySem.W.Frag) (D : Addr) (m : Str) (f : Addr) : Bool := match PySem.W.findCls K (.ref D) (.type "type") m with
  | some (.val v) => v == .ref f
  | _ => false
def clsMF (x m : Str) : Fx := fun K => decide (PySem.W.specialIn K (.ref (He.ga K x)) "__getattribute__" = some (some (.builtin "type.__getattribute__"))) && (PySem.W.readsIn K (He.ga K x) (.type "type") && (clsMIs K (He.ga K x) m (He.ma K (He.ga K x) m) && PySem.W.keepIn K (.ref (He.ma K (He.ga K x) m))))
theorem clsM_of {x m : Str} {K : PySem.W.Frag} (h : clsMF x m K = true) : ClsM K (He.ga K x) m (He.ma K (He.ga K x) m) := by
  obtain ⟨h1, h⟩ := He.ba h
  obtain ⟨h2, h⟩ := He.ba h
  obtain ⟨h3, h4⟩ := He.ba h
  refine ⟨of_decide_eq_true h1, h2, ?_, h4⟩
  unfold clsMIs at h3
  split at h3
  · rename_i v hv
    rw [hv, beq_iff_eq.mp h3]
  · cases h3
/-- D.m(e, ..) -/
theorem c_clsm {pl : Sem Bool} {D : Addr} (CM : ClsM X.K D m f) (F : Fc X.prog X.w X.K X.mg X.base k f [] sp) (hr : Rm k X.A) (hm : X.mg x = some (.ref D)) (hx : Takes X W) (ha : PA X (e :: es) t)
    (hg : Gl X x := by rfl) (hh : PySem.W.handedIn (.ref f) = true := by rfl) (hdb : (x == ("__debug__" : Str)) = false := by decide)
    (hst : starEach (e :: es) X.env = (false, eval e X.env) :: starEach es X.env := by rfl) (hpl : (backTo pos (starEach es X.env)).any (·.1) = false := by rfl)
    (hc : eval (.Call (.Attribute (.Name x p1) m p2) (e :: es) [] pos) X.env = (do
      let ov ← eval (.Name x p1) X.env
      standAt p2.atName
      let (f, first) ← holding [ov] (getMethod ov m pl)
      callWith pos f first (backTo pos (starEach (e :: es) X.env)) (backToKw pos (keywordEach [] X.env))) := by rfl) :
    PE X (.Call (.Attribute (.Name x p1) m p2) (e :: es) [] pos) (tFc sp W t) := by
  refine ⟨fun pins s σ H Q I h => ?_⟩
  refine PySem.W.methodCall_KW (ld_glob I hg hm ?_ hdb) hc
  refine PySem.W.method_cls I.kIn CM.ga (PySem.W.cls_value I.kIn CM.rd CM.fc hh ?_)
  refine PySem.W.callWith_K (first := []) (h₀ := X.base) I.ok.mod.kin CM.kp (thn (ha.run pos pins _ σ H _ (I.tok _) h) fun us s1 ⟨vs, H1, I1, r, q⟩ => ⟨I1.kIn, ?_⟩) hst hpl
  exact run_fc (ws := []) F hr hx I1 (by rw [List.append_nil]; exact r) rfl q
end
end L3
set_option Elab.async false
set_option linter.all false
set_option maxRecDepth 100000
set_option maxHeartbeats 4000000
namespace L3
open PySem PySem.Spec PyProof.Rows L2
end L3
set_option Elab.async false
set_option linter.all false
set_option maxRecDepth 100000
set_option maxHeartbeats 4000000
namespace L3
open PySem PySem.Spec PyProof.Rows L2 PySem.SeqAt PySem.Calls
/-- the pairs of two lists stand at ts -/
def PrsAt (xs ys : List V) (ts : List Addr) (H : Hp) : Prop := ∀ (j : Nat) (t : Addr), ts[j]? = some t → ∃ x y, xs[j]? = some x ∧ ys[j]? = some y ∧ H t = some (.tup [x, y])
theorem PrsAt.mono {xs ys : List V} {ts : List Addr} {H H' : Hp} (h : PrsAt xs ys ts H) (e : Ex H H') : PrsAt xs ys ts H' := fun j t hj => let ⟨x, y, a, b, c⟩ := h j t hj; ⟨x, y, a, b, e _ _ c⟩
/-- how a zip of two lists stands, its last pair held or not -/
def ZlSt (a b z TI TO i1 i2 : Addr) (i : Nat) (H : Hp) (h : Heap) : Prop :=
  IsPair h TI (.ref i1) (.ref i2) ∧ h.IsListIter i1 a i ∧ h.IsListIter i2 b i ∧ (∃ x y, IsPair h TO x y) ∧ (IsZip h z TI TO .none ∨ ∃ T f xs, IsZipHeld h z TI TO T f ∧ H T = some (.tup xs))
section
variable {X : Cx} {pins : List (Addr × Obj)} {σ : L2.St} {a b z TI TO i1 i2 S : Addr}
theorem ZlSt.at {i : Nat} {H H' : Hp} {h h' : Heap} (s : ZlSt a b z TI TO i1 i2 i H h) (k : ∀ c ∈ [z, TI, TO, i1, i2], ∀ o, h.get? c = some o → h'.get? c = some o) (e : ∀ T xs, H T = some (.tup xs) → H' T = some (.tup xs)) : ZlSt a b z TI TO i1 i2 i H' h' := by
  obtain ⟨p, l1, l2, ⟨x, y, t⟩, r⟩ := s
  refine ⟨k TI (by simp) _ p, l1.at fun o q => k i1 (by simp) o q, l2.at fun o q => k i2 (by simp) o q, ⟨x, y, k TO (by simp) _ t⟩, ?_⟩
  rcases r with r | ⟨T, f, xs, r, t⟩
  · exact .inl (k z (by simp) _ r)
  · exact .inr ⟨T, f, xs, k z (by simp) _ r, e _ _ t⟩
end
end L3
set_option Elab.async false
set_option linter.all false
set_option maxRecDepth 100000
set_option maxHeartbeats 4000000
namespace L3
open PySem PySem.Spec PyProof.Rows L2
end L3
namespace PySem
open Calls AutoSeq1
end PySem
namespace L3
open PySem PySem.Spec PyProof.Rows L2
end L3
set_option Elab.async false
set_option linter.all false
set_option maxRecDepth 100000
set_option maxHeartbeats 4000000
namespace L3
open PySem PySem.Spec PyProof.Rows L2
end L3
set_option Elab.async false
set_option linter.all false
set_option maxRecDepth 100000
set_option maxHeartbeats 4000000
noncomputable section
namespace HandSHeadRun
open PySem PySem.W PySem.Calls PyProof.Rows
end HandSHeadRun
end
set_option Elab.async false
set_option linter.all false
set_option maxRecDepth 100000
set_option maxHeartbeats 4000000
namespace L3
open PySem PySem.Spec PyProof.Rows L2
end L3
set_option Elab.async false
set_option linter.all false
set_option maxRecDepth 100000
set_option maxHeartbeats 4000000
namespace L3
open PySem PySem.Spec PyProof.Rows L2
open PySem.AutoSeq1 (wpAny_loadPart')
theorem tuple_mul1 (l : Addr) (items : Array Value) (n : Nat) (dd : Option Addr) (sl : Array (Option Value)) (u : Tok) :
    Meets (Builtin.«tuple.__mul__» ⟨[.ref l, .int 1 u], []⟩) (fun _ R s => s.heap.get? l = some { cls := .type "tuple", dict := dd, data := .seq items n, slots := sl } ∧ R (.ok (.ret (Value.ref l))) s) :=
  .of_wp fun prog w A R s h => by
    obtain ⟨hp, g, d, tk, os⟩ := s
    obtain ⟨hl, h⟩ := h
    have f1 := AutoSeq1.idx_int
    wp_walk using wpAny_loadPart' hl
    exact ⟨_, rfl, h⟩
theorem tuple_mul0 (l : Addr) (items : Array Value) (n : Nat) (dd : Option Addr) (sl : Array (Option Value)) (x : Int) (u : Tok) (c0 : (decide (x < -(2 ^ 63)) || decide (x ≥ 2 ^ 63)) = false) (c1 : (items.isEmpty || x == 1) = false) (c2 : (decide (x ≤ 0) || items.isEmpty) = true) :
    Meets (Builtin.«tuple.__mul__» ⟨[.ref l, .int x u], []⟩) (fun _ R s => s.heap.get? l = some { cls := .type "tuple", dict := dd, data := .seq items n, slots := sl } ∧
      R (.ok (.ret (Value.ref s.heap.objs.size))) { s with heap := s.heap.push { cls := Value.type "tuple", data := Data.seq #[] }, toks := s.toks }) :=
  .of_wp fun prog w A R s h => by
    obtain ⟨hp, g, d, tk, os⟩ := s
    obtain ⟨hl, h⟩ := h
    have f1 := AutoSeq1.idx_int
    wp_walk using wpAny_loadPart' hl
    repeat (first
      | (refine wpAny_ite_false (decide_eq_false (by rw [c0]; exact Bool.false_ne_true)) ?_; wp_walk using wpAny_loadPart' hl)
      | (refine wpAny_ite_false (decide_eq_false (by rw [c1]; exact Bool.false_ne_true)) ?_; wp_walk using wpAny_loadPart' hl))
    exact ⟨_, rfl, h⟩
@[irreducible] def rRepA (K : PySem.W.Frag) : R2 := fun x y H Q => ∃ l k xs, x = .ref l ∧ y = .int k ∧ SqT K H l xs ∧ xs ≠ [] ∧ -1000 ≤ k ∧ k ≤ 1000 ∧ xs.length ≤ 1000 ∧ (k = 1 → Q (.ref l) H) ∧ (k ≠ 1 → ∀ p, H p = none → Q (.ref p) (upd H p (.tup (List.replicate k.toNat xs).flatten)))
section
variable {X : Cx}
theorem op_repA : OpR X (binaryOp .Mult) (rRepA X.K) := by
  intro pins s σ H x y v u Q I rx ry h
  unfold rRepA at h
  obtain ⟨l, k, xs, rfl, rfl, hT, hne, h0, h2, hz, q1, q⟩ := h
  by_cases h1 : 2 ≤ k
  · exact op_repT pins s σ H _ _ v u Q I rx ry ⟨l, k, xs, rfl, rfl, hT, hne, h1, h2, hz, q (by omega)⟩
  cases rx
  obtain ⟨t, rfl⟩ := ry
  obtain ⟨its, r, ⟨⟨cls, dd, data, sl⟩, ho, hc, n, hd⟩, hs⟩ := I.tuple hT
  simp only at hc hd
  subst hc hd
  have hle : its.length = xs.length := r.length.symm
  have hn : its ≠ [] := fun e => hne (by
    rw [e] at hle
    exact List.eq_nil_of_length_eq_zero hle.symm)
  have hi : its.toArray.isEmpty = false := by
    cases its with
    | nil => exact absurd rfl hn
    | cons a b => rfl
  by_cases h3 : k = 1
  · subst h3
    refine wpAny_binaryOp_repeat_ref (T := "tuple") (U := "int") (by decide) ⟨_, ho, rfl⟩ (fun s' => typeIs_int s' 1 t) noFill_tuple_mul F.fills_int_mul F.slot_int_rmul repeat_tuple F.slot_int_index.lookup
      (call_meets F.slot_int_rmul (typeIs_int s 1 t) F.entry_int_rmul (F.args_int_rmul_2 _ _) (int_rmul_tuple 1 t l its.toArray n dd sl)
        ⟨ho, rfl, ⟨_, ho, rfl⟩, call_meets F.slot_tuple_mul ⟨_, ho, rfl⟩ F.entry_tuple_mul (F.args_tuple_mul_2 _ _) (tuple_mul1 l its.toArray n dd sl t) ⟨ho, ?_⟩⟩)
    exact ⟨.ref l, _, I, rfl, q1 rfl⟩
  · have c0 : (decide (k < -(2 ^ 63)) || decide (k ≥ 2 ^ 63)) = false := by
      rw [decide_eq_false (by omega), decide_eq_false (by omega)] <;> rfl
    have c1 : (its.toArray.isEmpty || k == 1) = false := by
      rw [hi, Bool.false_or]
      exact beq_eq_false_iff_ne.mpr h3
    have c2 : (decide (k ≤ 0) || its.toArray.isEmpty) = true := by
      rw [decide_eq_true (by omega)] <;> rfl
    refine wpAny_binaryOp_repeat_ref (T := "tuple") (U := "int") (by decide) ⟨_, ho, rfl⟩ (fun s' => typeIs_int s' k t) noFill_tuple_mul F.fills_int_mul F.slot_int_rmul repeat_tuple F.slot_int_index.lookup
      (call_meets F.slot_int_rmul (typeIs_int s k t) F.entry_int_rmul (F.args_int_rmul_2 _ _) (int_rmul_tuple k t l its.toArray n dd sl)
        ⟨ho, rfl, ⟨_, ho, rfl⟩, call_meets F.slot_tuple_mul ⟨_, ho, rfl⟩ F.entry_tuple_mul (F.args_tuple_mul_2 _ _) (tuple_mul0 l its.toArray n dd sl k t c0 c1 c2) ⟨ho, ?_⟩⟩)
    have e0 : (List.replicate k.toNat xs).flatten = [] := by
      rw [show k.toNat = 0 by omega]
      rfl
    have hq := q h3 _ (I.hok.fresh (Nat.le_refl s.heap.objs.size))
    rw [e0] at hq
    refine ⟨.ref s.heap.objs.size, _, I.laid (t' := s.toks) (o := .tup []) (fun b ob q => Heap.get?_push_of_some _ q) (Nat.le_refl _) ?_, rfl, hq⟩
    exact ⟨by decide, [], .nil, IsTup.new _ _⟩
theorem op_repAK (K : PySem.W.Frag) (h : X.K = K := by rfl) : OpR X (binaryOp .Mult) (rRepA K) := h ▸ op_repA
end
theorem repA_of {K : PySem.W.Frag} {H : Hp} {l : Addr} {k : Nat} {xs : List V} {Q : VK} (hT : SqT K H l xs) (hn : xs ≠ []) (hk : k ≤ 1000) (hz : xs.length ≤ 1000) (q1 : k = 1 → Q (.ref l) H) (q : k ≠ 1 → ∀ p, H p = none → Q (.ref p) (upd H p (.tup (List.replicate k xs).flatten))) : rRepA K (.ref l) (.int (k : Nat)) H Q := by
  unfold rRepA
  exact ⟨l, _, xs, rfl, rfl, hT, hn, by omega, by omega, hz, fun e => q1 (by omega), fun e p np => by rw [Int.toNat_natCast]; exact q (by omega) p np⟩
end L3
set_option Elab.async false
set_option linter.all false
set_option maxRecDepth 100000
set_option maxHeartbeats 4000000
namespace Toy
open PySem PySem.Spec PyProof.Rows L2 L3
def top (i : Nat) : Stmt := PySem.Challenge.pw_shortgoings_k55_what_is_no_card.main.body.getD i (.Pass ⟨0, 0, 0, 0⟩)
abbrev s_is_whole : Stmt := top 18
abbrev s_is_moment : Stmt := top 19
abbrev s_want_moment : Stmt := top 20
abbrev s_want_day : Stmt := top 27
abbrev s_are_signs : Stmt := top 28
abbrev s_Ring_init : Stmt := inClass (top 29) 0
abbrev s_Ring_rings : Stmt := inClass (top 29) 5
abbrev s_told_days : Stmt := top 36
abbrev s_want_till : Stmt := top 37
abbrev s_Days_init : Stmt := inClass (top 38) 0
abbrev s_Days_has : Stmt := inClass (top 38) 4
abbrev s_is_name : Stmt := top 47
abbrev s_notes_of : Stmt := top 48
abbrev s_Going_init : Stmt := inClass (top 50) 0
abbrev s_is_number : Stmt := top 55
abbrev s_all_rising : Stmt := top 57
abbrev s_shorts_in : Stmt := top 58
abbrev s_row_moments : Stmt := top 59
abbrev s_row_many : Stmt := top 60
abbrev s_At_init : Stmt := inClass (top 62) 0
abbrev s_At_moments : Stmt := inClass (top 62) 1
abbrev s_At_begins : Stmt := inClass (top 62) 3
abbrev s_At_ends : Stmt := inClass (top 62) 4
abbrev s_At_means_many : Stmt := inClass (top 62) 5
abbrev s_At_nested : Stmt := inClass (top 62) 6
abbrev s_Over_init : Stmt := inClass (top 63) 0
abbrev s_Over_moments : Stmt := inClass (top 63) 2
abbrev s_Over_begins : Stmt := inClass (top 63) 4
abbrev s_Over_ends : Stmt := inClass (top 63) 5
abbrev s_Over_means_many : Stmt := inClass (top 63) 6
abbrev s_Over_nested : Stmt := inClass (top 63) 7
abbrev s_Spread_init : Stmt := inClass (top 65) 0
abbrev s_Spread_moments : Stmt := inClass (top 65) 2
abbrev s_want : Stmt := top 69
abbrev s_Card_init : Stmt := inClass (top 70) 0
abbrev s_Card_inner : Stmt := inClass (top 70) 1
abbrev s_Card_size : Stmt := inClass (top 70) 2
abbrev s_Card_notes_at : Stmt := inClass (top 70) 3
abbrev s_Card_moments_within : Stmt := inClass (top 70) 4
abbrev s_Once_init : Stmt := inClass (top 71) 0
abbrev s_Once_moments_within : Stmt := inClass (top 71) 2
abbrev s_Every_init : Stmt := inClass (top 72) 0
abbrev s_Every_moments_within : Stmt := inClass (top 72) 2
abbrev s_Join_init : Stmt := inClass (top 73) 0
abbrev s_Less_init : Stmt := inClass (top 74) 0
abbrev s_Swap_init : Stmt := inClass (top 75) 0
abbrev s_Later_init : Stmt := inClass (top 76) 0
abbrev s_Noted_init : Stmt := inClass (top 77) 0
abbrev s_As_init : Stmt := inClass (top 78) 0
abbrev s_first_as : Stmt := top 79
abbrev s_want_card : Stmt := top 80
abbrev s_want_known : Stmt := top 81
abbrev s_goings_within : Stmt := top 82
abbrev s_going_at : Stmt := top 83
abbrev s_goings_on : Stmt := top 84
abbrev s__law_pot : Stmt := top 86
abbrev s__law_take : Stmt := top 87
abbrev s__law_name : Stmt := top 88
abbrev s__law_word : Stmt := top 89
abbrev s__law_done : Stmt := top 90
abbrev s__law_tried : Stmt := top 91
abbrev s__law_all : Stmt := top 92
abbrev s__law_no_leaves : Stmt := top 93
abbrev s__law_no_others : Stmt := top 94
abbrev s__law_no_moments : Stmt := top 95
abbrev s__law_around : Stmt := top 96
abbrev s__law_sizes_right : Stmt := top 97
abbrev s__law_often_right : Stmt := top 98
abbrev s_law : Stmt := top 99
def xf1 : List Fx := [fun K => (He.Fa.glo "is_whole").ok K,
  fun K => (He.Fa.glo "is_moment").ok K,
  fun K => (He.Fa.glo "want_moment").ok K,
  fun K => (He.Fa.glo "want_day").ok K,
  fun K => (He.Fa.glo "are_signs").ok K,
  fun K => (He.Fa.glo "told_days").ok K,
  fun K => (He.Fa.glo "want_till").ok K,
  fun K => (He.Fa.glo "is_name").ok K,
  fun K => (He.Fa.glo "notes_of").ok K,
  fun K => (He.Fa.glo "is_number").ok K,
  fun K => (He.Fa.glo "all_rising").ok K,
  fun K => (He.Fa.glo "shorts_in").ok K,
  fun K => (He.Fa.glo "row_moments").ok K,
  fun K => (He.Fa.glo "row_many").ok K,
  fun K => (He.Fa.glo "want").ok K,
  fun K => (He.Fa.glo "first_as").ok K,
  fun K => (He.Fa.glo "want_card").ok K,
  fun K => (He.Fa.glo "want_known").ok K,
  fun K => (He.Fa.glo "goings_within").ok K,
  fun K => (He.Fa.glo "going_at").ok K,
  fun K => (He.Fa.glo "goings_on").ok K,
  fun K => (He.Fa.glo "_law_pot").ok K,
  fun K => (He.Fa.glo "_law_take").ok K,
  fun K => (He.Fa.glo "_law_name").ok K,
  fun K => (He.Fa.glo "_law_word").ok K,
  fun K => (He.Fa.glo "_law_done").ok K,
  fun K => (He.Fa.glo "_law_tried").ok K,
  fun K => (He.Fa.glo "_law_all").ok K,
  fun K => (He.Fa.glo "_law_no_leaves").ok K,
  fun K => (He.Fa.glo "_law_no_others").ok K,
  fun K => (He.Fa.glo "_law_no_moments").ok K,
  fun K => (He.Fa.glo "_law_around").ok K,
  fun K => (He.Fa.glo "_law_sizes_right").ok K,
  fun K => (He.Fa.glo "_law_often_right").ok K,
  fun K => (He.Fa.glo "law").ok K,
  fun K => (He.Fa.int "DAY" (1440)).ok K,
  fun K => (He.Fa.int "MOST_SIGNS" (7)).ok K,
  fun K => (He.Fa.str "NOUGHT" "0").ok K,
  fun K => (He.Fa.str "ONE" "1").ok K,
  fun K => (He.Fa.int "MOST_DAYS" (8)).ok K,
  fun K => (He.Fa.str "NAME_SIGNS" "abcdefghijklmnopqrstuvwxyz").ok K,
  fun K => (He.Fa.int "LONGEST_NAME" (8)).ok K,
  fun K => (He.Fa.int "MOST_MOMENTS" (1440)).ok K,
  fun K => (He.Fa.int "MOST_NESTED" (8)).ok K,
  fun K => (He.Fa.int "MOST_CARDS" (60)).ok K,
  fun K => (He.Fa.int "LATEST" (10080)).ok K,
  fun K => (He.Fa.free "ValueError").ok K,
  fun K => (He.Fa.free "all").ok K,
  fun K => (He.Fa.free "any").ok K,
  fun K => (He.Fa.free "bool").ok K,
  fun K => (He.Fa.free "dict").ok K,
  fun K => (He.Fa.free "divmod").ok K,
  fun K => (He.Fa.free "int").ok K,
  fun K => (He.Fa.free "isinstance").ok K,
  fun K => (He.Fa.free "len").ok K,
  fun K => (He.Fa.free "list").ok K,
  fun K => (He.Fa.free "max").ok K,
  fun K => (He.Fa.free "range").ok K,
  fun K => (He.Fa.free "repr").ok K,
  fun K => (He.Fa.free "set").ok K,
  fun K => (He.Fa.free "sorted").ok K,
  fun K => (He.Fa.free "str").ok K,
  fun K => (He.Fa.free "sum").ok K,
  fun K => (He.Fa.free "tuple").ok K,
  fun K => (He.Fa.free "zip").ok K,
  fun K => (He.Fa.glo "GoingError").ok K,
  fun K => (He.Fa.glo "LackError").ok K,
  fun K => (He.Fa.glo "BookError").ok K,
  fun K => (He.Fa.glo "NoTime").ok K,
  exoB bmV "ValueError.__new__" "NoTime",
  fun K => (He.Fa.glo "NoPiece").ok K,
  exoB bmV "ValueError.__new__" "NoPiece",
  fun K => (He.Fa.glo "NoDays").ok K,
  exoB bmV "ValueError.__new__" "NoDays",
  fun K => (He.Fa.glo "NoCard").ok K,
  exoB bmV "ValueError.__new__" "NoCard",
  fun K => (He.Fa.glo "NoName").ok K,
  fun K => (He.Fa.glo "NoRow").ok K,
  fun K => (He.Fa.glo "NoText").ok K,
  fun K => (He.Fa.glo "Ring").ok K,
  fun K => (He.Fa.glo "Days").ok K,
  fun K => (He.Fa.glo "Going").ok K,
  fun K => (He.Fa.glo "Short").ok K,
  fun K => (He.Fa.glo "At").ok K,
  fun K => (He.Fa.glo "Over").ok K,
  fun K => (He.Fa.glo "Spread").ok K,
  fun K => (He.Fa.glo "Card").ok K,
  fun K => (He.Fa.glo "Once").ok K,
  fun K => (He.Fa.glo "Every").ok K,
  fun K => (He.Fa.glo "Join").ok K,
  fun K => (He.Fa.glo "Less").ok K,
  fun K => (He.Fa.glo "Swap").ok K,
  fun K => (He.Fa.glo "Later").ok K,
  fun K => (He.Fa.glo "Noted").ok K,
  fun K => (He.Fa.glo "As").ok K,
  clsMF "Card" "__init__",
  fun K => (He.Fa.cls "Ring").ok K,
  insB "Ring",
  fun K => (He.Fa.noat "Ring" "bits").ok K,
  fun K => (He.Fa.meth "Ring" "rings").ok K,
  fun K => (He.Fa.mkr "Ring").ok K,
  kitF "Ring" "Ring" true,
  kitF "Ring" "Days" false,
  fun K => (He.Fa.cls "Days").ok K,
  insB "Days",
  fun K => (He.Fa.noat "Days" "ring").ok K,
  fun K => (He.Fa.noat "Days" "since").ok K,
  fun K => (He.Fa.noat "Days" "till").ok K,
  fun K => (He.Fa.noat "Days" "out").ok K,
  fun K => (He.Fa.noat "Days" "also").ok K,
  fun K => (He.Fa.meth "Days" "has").ok K,
  fun K => (He.Fa.mkr "Days").ok K,
  kitF "Days" "Days" true,
  kitF "Days" "Spread" false,
  kitF "Days" "Card" false,
  fun K => (He.Fa.cls "Going").ok K,
  fun K => (He.Fa.noat "Going" "moment").ok K,
  fun K => (He.Fa.noat "Going" "notes").ok K,
  fun K => (He.Fa.mkr "Going").ok K,
  fun K => (He.Fa.cls "At").ok K,
  insB "At",
  fun K => (He.Fa.noat "At" "moment").ok K,
  fun K => (He.Fa.meth "At" "moments").ok K,
  fun K => (He.Fa.meth "At" "begins").ok K,
  fun K => (He.Fa.meth "At" "ends").ok K,
  fun K => (He.Fa.meth "At" "means_many").ok K,
  fun K => (He.Fa.meth "At" "nested").ok K,
  fun K => (He.Fa.mkr "At").ok K,
  kitF "At" "Short" true,
  kitF "At" "Spread" false,
  fun K => (He.Fa.cls "Over").ok K,
  insB "Over",
  fun K => (He.Fa.noat "Over" "kept").ok K,
  fun K => (He.Fa.noat "Over" "many").ok K,
  fun K => (He.Fa.noat "Over" "step").ok K,
  fun K => (He.Fa.meth "Over" "moments").ok K,
  fun K => (He.Fa.meth "Over" "begins").ok K,
  fun K => (He.Fa.meth "Over" "ends").ok K,
  fun K => (He.Fa.meth "Over" "means_many").ok K,
  fun K => (He.Fa.meth "Over" "nested").ok K,
  fun K => (He.Fa.mkr "Over").ok K,
  kitF "Over" "Short" true,
  kitF "Over" "Spread" false,
  fun K => (He.Fa.cls "Spread").ok K,
  insB "Spread",
  fun K => (He.Fa.noat "Spread" "kept").ok K,
  fun K => (He.Fa.noat "Spread" "held").ok K,
  fun K => (He.Fa.meth "Spread" "moments").ok K,
  fun K => (He.Fa.mkr "Spread").ok K,
  kitF "Spread" "Days" false,
  kitF "Spread" "Spread" true,
  kitF "Spread" "Card" false,
  kitFT "Spread" "list" false,
  kitFT "Spread" "tuple" false,
  fun K => (He.Fa.cls "Once").ok K,
  insB "Once",
  fun K => (He.Fa.noat "Once" "spread").ok K,
  fun K => (He.Fa.noat "Once" "notes").ok K,
  fun K => (He.Fa.noat "Once" "own").ok K,
  fun K => (He.Fa.noat "Once" "held").ok K,
  fun K => (He.Fa.noat "Once" "weight").ok K,
  fun K => (He.Fa.meth "Once" "notes_at").ok K,
  fun K => (He.Fa.meth "Once" "moments_within").ok K,
  fun K => (He.Fa.meth "Once" "inner").ok K]
def xf2 : List Fx := [sameF "Once" "Card" "inner",
  fun K => (He.Fa.meth "Once" "size").ok K,
  sameF "Once" "Card" "size",
  fun K => (He.Fa.mkr "Once").ok K,
  kitF "Once" "Days" false,
  kitF "Once" "Spread" false,
  kitF "Once" "Card" true,
  kitF "Once" "As" false,
  kitFT "Once" "list" false,
  kitFT "Once" "tuple" false,
  fun K => (He.Fa.cls "Every").ok K,
  insB "Every",
  fun K => (He.Fa.noat "Every" "days").ok K,
  fun K => (He.Fa.noat "Every" "spread").ok K,
  fun K => (He.Fa.noat "Every" "notes").ok K,
  fun K => (He.Fa.noat "Every" "own").ok K,
  fun K => (He.Fa.noat "Every" "held").ok K,
  fun K => (He.Fa.noat "Every" "weight").ok K,
  fun K => (He.Fa.meth "Every" "notes_at").ok K,
  fun K => (He.Fa.meth "Every" "moments_within").ok K,
  fun K => (He.Fa.meth "Every" "inner").ok K,
  sameF "Every" "Card" "inner",
  fun K => (He.Fa.meth "Every" "size").ok K,
  sameF "Every" "Card" "size",
  fun K => (He.Fa.mkr "Every").ok K,
  kitF "Every" "Days" false,
  kitF "Every" "Spread" false,
  kitF "Every" "Card" true,
  kitF "Every" "As" false,
  kitFT "Every" "list" false,
  kitFT "Every" "tuple" false,
  fun K => (He.Fa.cls "Join").ok K,
  insB "Join",
  fun K => (He.Fa.noat "Join" "held").ok K,
  fun K => (He.Fa.noat "Join" "weight").ok K,
  fun K => (He.Fa.meth "Join" "notes_at").ok K,
  fun K => (He.Fa.meth "Join" "inner").ok K,
  sameF "Join" "Card" "inner",
  fun K => (He.Fa.meth "Join" "size").ok K,
  sameF "Join" "Card" "size",
  fun K => (He.Fa.meth "Join" "moments_within").ok K,
  sameF "Join" "Card" "moments_within",
  fun K => (He.Fa.mkr "Join").ok K,
  kitF "Join" "Card" true,
  kitF "Join" "As" false,
  fun K => (He.Fa.cls "Less").ok K,
  insB "Less",
  fun K => (He.Fa.noat "Less" "held").ok K,
  fun K => (He.Fa.noat "Less" "weight").ok K,
  fun K => (He.Fa.meth "Less" "notes_at").ok K,
  fun K => (He.Fa.meth "Less" "inner").ok K,
  sameF "Less" "Card" "inner",
  fun K => (He.Fa.meth "Less" "size").ok K,
  sameF "Less" "Card" "size",
  fun K => (He.Fa.meth "Less" "moments_within").ok K,
  sameF "Less" "Card" "moments_within",
  fun K => (He.Fa.mkr "Less").ok K,
  kitF "Less" "Card" true,
  kitF "Less" "As" false,
  fun K => (He.Fa.cls "Swap").ok K,
  insB "Swap",
  fun K => (He.Fa.noat "Swap" "days").ok K,
  fun K => (He.Fa.noat "Swap" "held").ok K,
  fun K => (He.Fa.noat "Swap" "weight").ok K,
  fun K => (He.Fa.meth "Swap" "notes_at").ok K,
  fun K => (He.Fa.meth "Swap" "inner").ok K,
  sameF "Swap" "Card" "inner",
  fun K => (He.Fa.meth "Swap" "size").ok K,
  sameF "Swap" "Card" "size",
  fun K => (He.Fa.meth "Swap" "moments_within").ok K,
  sameF "Swap" "Card" "moments_within",
  fun K => (He.Fa.mkr "Swap").ok K,
  kitF "Swap" "Card" true,
  kitF "Swap" "As" false,
  fun K => (He.Fa.cls "Later").ok K,
  insB "Later",
  fun K => (He.Fa.noat "Later" "minutes").ok K,
  fun K => (He.Fa.noat "Later" "held").ok K,
  fun K => (He.Fa.noat "Later" "weight").ok K,
  fun K => (He.Fa.meth "Later" "notes_at").ok K,
  fun K => (He.Fa.meth "Later" "moments_within").ok K,
  fun K => (He.Fa.meth "Later" "inner").ok K,
  sameF "Later" "Card" "inner",
  fun K => (He.Fa.meth "Later" "size").ok K,
  sameF "Later" "Card" "size",
  fun K => (He.Fa.mkr "Later").ok K,
  kitF "Later" "Card" true,
  kitF "Later" "As" false,
  fun K => (He.Fa.cls "Noted").ok K,
  insB "Noted",
  fun K => (He.Fa.noat "Noted" "note").ok K,
  fun K => (He.Fa.noat "Noted" "held").ok K,
  fun K => (He.Fa.noat "Noted" "weight").ok K,
  fun K => (He.Fa.meth "Noted" "notes_at").ok K,
  fun K => (He.Fa.meth "Noted" "inner").ok K,
  sameF "Noted" "Card" "inner",
  fun K => (He.Fa.meth "Noted" "size").ok K,
  sameF "Noted" "Card" "size",
  fun K => (He.Fa.meth "Noted" "moments_within").ok K,
  sameF "Noted" "Card" "moments_within",
  fun K => (He.Fa.mkr "Noted").ok K,
  kitF "Noted" "Card" true,
  kitF "Noted" "As" false,
  fun K => (He.Fa.cls "As").ok K,
  insB "As",
  fun K => (He.Fa.noat "As" "name").ok K,
  fun K => (He.Fa.noat "As" "held").ok K,
  fun K => (He.Fa.noat "As" "weight").ok K,
  fun K => (He.Fa.meth "As" "inner").ok K,
  sameF "As" "Card" "inner",
  fun K => (He.Fa.meth "As" "size").ok K,
  sameF "As" "Card" "size",
  fun K => (He.Fa.meth "As" "notes_at").ok K,
  sameF "As" "Card" "notes_at",
  fun K => (He.Fa.meth "As" "moments_within").ok K,
  sameF "As" "Card" "moments_within",
  fun K => (He.Fa.mkr "As").ok K,
  kitF "As" "Card" true,
  kitF "As" "As" true,
  kitBF "int" "Days" false,
  kitBF "bool" "Days" false,
  kitBF "str" "Days" false,
  kitBF "NoneType" "Days" false,
  kitBF "list" "Days" false,
  kitBF "tuple" "Days" false,
  kitBF "dict" "Days" false,
  kitBF "int" "Spread" false,
  kitBF "bool" "Spread" false,
  kitBF "str" "Spread" false,
  kitBF "NoneType" "Spread" false,
  kitBF "list" "Spread" false,
  kitBF "tuple" "Spread" false,
  kitBF "dict" "Spread" false,
  kitBF "int" "Card" false,
  kitBF "bool" "Card" false,
  kitBF "str" "Card" false,
  kitBF "NoneType" "Card" false,
  kitBF "list" "Card" false,
  kitBF "tuple" "Card" false,
  kitBF "dict" "Card" false,
  exm1F "NoTime" "GoingError" true,
  excCB "NoTime",
  kitF "NoTime" "LackError" false,
  kitF "NoTime" "BookError" false,
  kitF "NoTime" "NoTime" true,
  kitF "NoTime" "NoPiece" false,
  kitF "NoTime" "NoDays" false,
  kitF "NoTime" "NoCard" false,
  kitF "NoTime" "NoName" false,
  kitF "NoTime" "NoRow" false,
  kitF "NoTime" "NoText" false,
  kitFT "NoTime" "ValueError" true,
  exm1F "NoCard" "GoingError" true,
  excCB "NoCard",
  kitF "NoCard" "LackError" false,
  kitF "NoCard" "BookError" false,
  kitF "NoCard" "NoTime" false,
  kitF "NoCard" "NoPiece" false,
  kitF "NoCard" "NoDays" false,
  kitF "NoCard" "NoCard" true,
  kitF "NoCard" "NoName" false,
  kitF "NoCard" "NoRow" false,
  kitF "NoCard" "NoText" false,
  kitFT "NoCard" "ValueError" true]
def xf : List Fx := xf1 ++ xf2
def d_is_whole : He.DefD := ⟨("is_whole", none), "is_whole", "is_whole", defArgs s_is_whole, defBody s_is_whole, defScope s_is_whole, [], []⟩
def d_is_moment : He.DefD := ⟨("is_moment", none), "is_moment", "is_moment", defArgs s_is_moment, defBody s_is_moment, defScope s_is_moment, [], []⟩
def d_want_moment : He.DefD := ⟨("want_moment", none), "want_moment", "want_moment", defArgs s_want_moment, defBody s_want_moment, defScope s_want_moment, [], []⟩
def d_want_day : He.DefD := ⟨("want_day", none), "want_day", "want_day", defArgs s_want_day, defBody s_want_day, defScope s_want_day, [], []⟩
def d_are_signs : He.DefD := ⟨("are_signs", none), "are_signs", "are_signs", defArgs s_are_signs, defBody s_are_signs, defScope s_are_signs, [], []⟩
def d_Ring_init : He.DefD := ⟨("Ring", some "__init__"), "__init__", "Ring.__init__", defArgs s_Ring_init, defBody s_Ring_init, defScope s_Ring_init, [], []⟩
def d_Ring_rings : He.DefD := ⟨("Ring", some "rings"), "rings", "Ring.rings", defArgs s_Ring_rings, defBody s_Ring_rings, defScope s_Ring_rings, [], []⟩
def d_told_days : He.DefD := ⟨("told_days", none), "told_days", "told_days", defArgs s_told_days, defBody s_told_days, defScope s_told_days, [], []⟩
def d_want_till : He.DefD := ⟨("want_till", none), "want_till", "want_till", defArgs s_want_till, defBody s_want_till, defScope s_want_till, [], []⟩
def d_Days_init : He.DefD := ⟨("Days", some "__init__"), "__init__", "Days.__init__", defArgs s_Days_init, defBody s_Days_init, defScope s_Days_init, [.int (0), .non, .non, .non], []⟩
def d_Days_has : He.DefD := ⟨("Days", some "has"), "has", "Days.has", defArgs s_Days_has, defBody s_Days_has, defScope s_Days_has, [], []⟩
def d_is_name : He.DefD := ⟨("is_name", none), "is_name", "is_name", defArgs s_is_name, defBody s_is_name, defScope s_is_name, [], []⟩
def d_notes_of : He.DefD := ⟨("notes_of", none), "notes_of", "notes_of", defArgs s_notes_of, defBody s_notes_of, defScope s_notes_of, [], []⟩
def d_Going_init : He.DefD := ⟨("Going", some "__init__"), "__init__", "Going.__init__", defArgs s_Going_init, defBody s_Going_init, defScope s_Going_init, [.non], []⟩
def d_is_number : He.DefD := ⟨("is_number", none), "is_number", "is_number", defArgs s_is_number, defBody s_is_number, defScope s_is_number, [], []⟩
def d_all_rising : He.DefD := ⟨("all_rising", none), "all_rising", "all_rising", defArgs s_all_rising, defBody s_all_rising, defScope s_all_rising, [], []⟩
def d_shorts_in : He.DefD := ⟨("shorts_in", none), "shorts_in", "shorts_in", defArgs s_shorts_in, defBody s_shorts_in, defScope s_shorts_in, [], []⟩
def d_row_moments : He.DefD := ⟨("row_moments", none), "row_moments", "row_moments", defArgs s_row_moments, defBody s_row_moments, defScope s_row_moments, [], []⟩
def d_row_many : He.DefD := ⟨("row_many", none), "row_many", "row_many", defArgs s_row_many, defBody s_row_many, defScope s_row_many, [], []⟩
def d_At_init : He.DefD := ⟨("At", some "__init__"), "__init__", "At.__init__", defArgs s_At_init, defBody s_At_init, defScope s_At_init, [], []⟩
def d_At_moments : He.DefD := ⟨("At", some "moments"), "moments", "At.moments", defArgs s_At_moments, defBody s_At_moments, defScope s_At_moments, [], []⟩
def d_At_begins : He.DefD := ⟨("At", some "begins"), "begins", "At.begins", defArgs s_At_begins, defBody s_At_begins, defScope s_At_begins, [], []⟩
def d_At_ends : He.DefD := ⟨("At", some "ends"), "ends", "At.ends", defArgs s_At_ends, defBody s_At_ends, defScope s_At_ends, [], []⟩
def d_At_means_many : He.DefD := ⟨("At", some "means_many"), "means_many", "At.means_many", defArgs s_At_means_many, defBody s_At_means_many, defScope s_At_means_many, [], []⟩
def d_At_nested : He.DefD := ⟨("At", some "nested"), "nested", "At.nested", defArgs s_At_nested, defBody s_At_nested, defScope s_At_nested, [], []⟩
def d_Over_init : He.DefD := ⟨("Over", some "__init__"), "__init__", "Over.__init__", defArgs s_Over_init, defBody s_Over_init, defScope s_Over_init, [.int (2), .int (60)], []⟩
def d_Over_moments : He.DefD := ⟨("Over", some "moments"), "moments", "Over.moments", defArgs s_Over_moments, defBody s_Over_moments, defScope s_Over_moments, [], []⟩
def d_Over_begins : He.DefD := ⟨("Over", some "begins"), "begins", "Over.begins", defArgs s_Over_begins, defBody s_Over_begins, defScope s_Over_begins, [], []⟩
def d_Over_ends : He.DefD := ⟨("Over", some "ends"), "ends", "Over.ends", defArgs s_Over_ends, defBody s_Over_ends, defScope s_Over_ends, [], []⟩
def d_Over_means_many : He.DefD := ⟨("Over", some "means_many"), "means_many", "Over.means_many", defArgs s_Over_means_many, defBody s_Over_means_many, defScope s_Over_means_many, [], []⟩
def d_Over_nested : He.DefD := ⟨("Over", some "nested"), "nested", "Over.nested", defArgs s_Over_nested, defBody s_Over_nested, defScope s_Over_nested, [], []⟩
def d_Spread_init : He.DefD := ⟨("Spread", some "__init__"), "__init__", "Spread.__init__", defArgs s_Spread_init, defBody s_Spread_init, defScope s_Spread_init, [], []⟩
def d_Spread_moments : He.DefD := ⟨("Spread", some "moments"), "moments", "Spread.moments", defArgs s_Spread_moments, defBody s_Spread_moments, defScope s_Spread_moments, [], []⟩
def d_want : He.DefD := ⟨("want", none), "want", "want", defArgs s_want, defBody s_want, defScope s_want, [], []⟩
def d_Card_init : He.DefD := ⟨("Card", some "__init__"), "__init__", "Card.__init__", defArgs s_Card_init, defBody s_Card_init, defScope s_Card_init, [], []⟩
def d_Card_inner : He.DefD := ⟨("Card", some "inner"), "inner", "Card.inner", defArgs s_Card_inner, defBody s_Card_inner, defScope s_Card_inner, [], []⟩
def d_Card_size : He.DefD := ⟨("Card", some "size"), "size", "Card.size", defArgs s_Card_size, defBody s_Card_size, defScope s_Card_size, [], []⟩
def d_Card_notes_at : He.DefD := ⟨("Card", some "notes_at"), "notes_at", "Card.notes_at", defArgs s_Card_notes_at, defBody s_Card_notes_at, defScope s_Card_notes_at, [], []⟩
def d_Card_moments_within : He.DefD := ⟨("Card", some "moments_within"), "moments_within", "Card.moments_within", defArgs s_Card_moments_within, defBody s_Card_moments_within, defScope s_Card_moments_within, [], []⟩
def d_Once_init : He.DefD := ⟨("Once", some "__init__"), "__init__", "Once.__init__", defArgs s_Once_init, defBody s_Once_init, defScope s_Once_init, [.non], []⟩
def d_Once_moments_within : He.DefD := ⟨("Once", some "moments_within"), "moments_within", "Once.moments_within", defArgs s_Once_moments_within, defBody s_Once_moments_within, defScope s_Once_moments_within, [], []⟩
def d_Every_init : He.DefD := ⟨("Every", some "__init__"), "__init__", "Every.__init__", defArgs s_Every_init, defBody s_Every_init, defScope s_Every_init, [.non], []⟩
def d_Every_moments_within : He.DefD := ⟨("Every", some "moments_within"), "moments_within", "Every.moments_within", defArgs s_Every_moments_within, defBody s_Every_moments_within, defScope s_Every_moments_within, [], []⟩
def d_Join_init : He.DefD := ⟨("Join", some "__init__"), "__init__", "Join.__init__", defArgs s_Join_init, defBody s_Join_init, defScope s_Join_init, [], []⟩
def d_Less_init : He.DefD := ⟨("Less", some "__init__"), "__init__", "Less.__init__", defArgs s_Less_init, defBody s_Less_init, defScope s_Less_init, [], []⟩
def d_Swap_init : He.DefD := ⟨("Swap", some "__init__"), "__init__", "Swap.__init__", defArgs s_Swap_init, defBody s_Swap_init, defScope s_Swap_init, [], []⟩
def d_Later_init : He.DefD := ⟨("Later", some "__init__"), "__init__", "Later.__init__", defArgs s_Later_init, defBody s_Later_init, defScope s_Later_init, [.int (60)], []⟩
def d_Noted_init : He.DefD := ⟨("Noted", some "__init__"), "__init__", "Noted.__init__", defArgs s_Noted_init, defBody s_Noted_init, defScope s_Noted_init, [], []⟩
def d_As_init : He.DefD := ⟨("As", some "__init__"), "__init__", "As.__init__", defArgs s_As_init, defBody s_As_init, defScope s_As_init, [], []⟩
def d_first_as : He.DefD := ⟨("first_as", none), "first_as", "first_as", defArgs s_first_as, defBody s_first_as, defScope s_first_as, [], []⟩
def d_want_card : He.DefD := ⟨("want_card", none), "want_card", "want_card", defArgs s_want_card, defBody s_want_card, defScope s_want_card, [], []⟩
def d_want_known : He.DefD := ⟨("want_known", none), "want_known", "want_known", defArgs s_want_known, defBody s_want_known, defScope s_want_known, [], []⟩
def d_goings_within : He.DefD := ⟨("goings_within", none), "goings_within", "goings_within", defArgs s_goings_within, defBody s_goings_within, defScope s_goings_within, [], []⟩
def d_going_at : He.DefD := ⟨("going_at", none), "going_at", "going_at", defArgs s_going_at, defBody s_going_at, defScope s_going_at, [], []⟩
def d_goings_on : He.DefD := ⟨("goings_on", none), "goings_on", "goings_on", defArgs s_goings_on, defBody s_goings_on, defScope s_goings_on, [], []⟩
def d__law_pot : He.DefD := ⟨("_law_pot", none), "_law_pot", "_law_pot", defArgs s__law_pot, defBody s__law_pot, defScope s__law_pot, [], []⟩
def d__law_take : He.DefD := ⟨("_law_take", none), "_law_take", "_law_take", defArgs s__law_take, defBody s__law_take, defScope s__law_take, [], []⟩
def d__law_name : He.DefD := ⟨("_law_name", none), "_law_name", "_law_name", defArgs s__law_name, defBody s__law_name, defScope s__law_name, [], []⟩
def d__law_word : He.DefD := ⟨("_law_word", none), "_law_word", "_law_word", defArgs s__law_word, defBody s__law_word, defScope s__law_word, [], []⟩
def d__law_done : He.DefD := ⟨("_law_done", none), "_law_done", "_law_done", defArgs s__law_done, defBody s__law_done, defScope s__law_done, [], []⟩
def d__law_tried : He.DefD := ⟨("_law_tried", none), "_law_tried", "_law_tried", defArgs s__law_tried, defBody s__law_tried, defScope s__law_tried, [], []⟩
def d__law_all : He.DefD := ⟨("_law_all", none), "_law_all", "_law_all", defArgs s__law_all, defBody s__law_all, defScope s__law_all, [], []⟩
def d__law_no_leaves : He.DefD := ⟨("_law_no_leaves", none), "_law_no_leaves", "_law_no_leaves", defArgs s__law_no_leaves, defBody s__law_no_leaves, defScope s__law_no_leaves, [], []⟩
def d__law_no_others : He.DefD := ⟨("_law_no_others", none), "_law_no_others", "_law_no_others", defArgs s__law_no_others, defBody s__law_no_others, defScope s__law_no_others, [], []⟩
def d__law_no_moments : He.DefD := ⟨("_law_no_moments", none), "_law_no_moments", "_law_no_moments", defArgs s__law_no_moments, defBody s__law_no_moments, defScope s__law_no_moments, [], []⟩
def d__law_around : He.DefD := ⟨("_law_around", none), "_law_around", "_law_around", defArgs s__law_around, defBody s__law_around, defScope s__law_around, [], []⟩
def d__law_sizes_right : He.DefD := ⟨("_law_sizes_right", none), "_law_sizes_right", "_law_sizes_right", defArgs s__law_sizes_right, defBody s__law_sizes_right, defScope s__law_sizes_right, [], []⟩
def d__law_often_right : He.DefD := ⟨("_law_often_right", none), "_law_often_right", "_law_often_right", defArgs s__law_often_right, defBody s__law_often_right, defScope s__law_often_right, [], []⟩
def d_law : He.DefD := ⟨("law", none), "law", "law", defArgs s_law, defBody s_law, defScope s_law, [], []⟩
def fn : List He.DefD := [d_is_whole, d_is_moment, d_want_moment, d_want_day, d_are_signs, d_Ring_init, d_Ring_rings, d_told_days, d_want_till, d_Days_init, d_Days_has, d_is_name, d_notes_of, d_Going_init, d_is_number, d_all_rising, d_shorts_in, d_row_moments, d_row_many, d_At_init, d_At_moments, d_At_begins, d_At_ends, d_At_means_many, d_At_nested, d_Over_init, d_Over_moments, d_Over_begins, d_Over_ends, d_Over_means_many, d_Over_nested, d_Spread_init, d_Spread_moments, d_want, d_Card_init, d_Card_inner, d_Card_size, d_Card_notes_at, d_Card_moments_within, d_Once_init, d_Once_moments_within, d_Every_init, d_Every_moments_within, d_Join_init, d_Less_init, d_Swap_init, d_Later_init, d_Noted_init, d_As_init, d_first_as, d_want_card, d_want_known, d_goings_within, d_going_at, d_goings_on, d__law_pot, d__law_take, d__law_name, d__law_word, d__law_done, d__law_tried, d__law_all, d__law_no_leaves, d__law_no_others, d__law_no_moments, d__law_around, d__law_sizes_right, d__law_often_right, d_law]
abbrev R : PySem.W.OpenRow := PySem.W.OpenLaw.row PySem.Challenge.rw_shortgoings_k55_what_is_no_card
def adr0 : List Addr := [3, 800, 799, 353, 746, 862, 1017, 832, 678, 606, 677, 861, 940, 998, 831, 888, 914, 972, 605, 1016, 939, 997, 70, 106, 887, 913, 971, 352, 509, 776]
def adr1 : List Addr := [783, 31, 274, 508, 745, 273, 30, 797, 446, 445, 82, 94, 44, 57, 118, 130, 149, 69, 105, 231, 266, 303, 329, 422, 554, 561, 575, 582, 589, 596]
def adr2 : List Addr := [623, 635, 649, 656, 663, 668, 694, 708, 769, 790, 817, 829, 847, 859, 878, 904, 930, 957, 988, 1014, 2, 177, 184, 191, 212, 217, 283, 290, 395, 400]
def adr3 : List Addr := [457, 518, 523, 530, 535, 757, 1026, 1033, 1040, 1047, 1054, 1061, 1068, 1075, 1080, 1087, 1094, 1101, 1106, 1111, 1116, 1121, 1128, 1135, 1142, 1149, 81, 93, 176, 183]
def adr4 : List Addr := [190, 211, 216, 282, 289, 394, 399, 456, 517, 522, 529, 534, 756, 1025, 1032, 1039, 1046, 1053, 1060, 1067, 1074, 1079, 1086, 1093, 1100, 1105, 1110, 1115, 1120, 1127]
def adr5 : List Addr := [1134, 1141, 1148, 824, 854, 885, 911, 937, 964, 969, 995, 230, 265, 302, 298, 328, 421, 415, 553, 560, 574, 581, 588, 595, 622, 616, 634, 648, 655, 662]
def adr6 : List Addr := [667, 693, 707, 768, 775, 782, 789, 796, 816, 812, 828, 846, 842, 858, 877, 903, 929, 956, 950, 987, 1013]
def adr : List Addr := adr0 ++ adr1 ++ adr2 ++ adr3 ++ adr4 ++ adr5 ++ adr6
abbrev hk : PySem.W.Hook := hookA adr xf fn
def ob (s : PySem.W.SharedT) : He.AlD := obsA adr xf fn (HandSHeadRun.getT s)
theorem ob_eq (s : PySem.W.SharedT) : ob s = hk.obs s.abs := obsA_eq (HandSHeadRun.getT_eq s)
def ns0 : List PySem.Str := ["_wall", "GoingError", "LackError", "BookError", "NoTime", "NoPiece", "NoDays", "NoCard", "NoName", "NoRow", "NoText", "NoLine", "HOUR", "DAY", "COLON", "BLANK", "is_whole", "is_moment", "want_moment", "clock_of", "show_moment", "MOST_SIGNS", "NOUGHT", "ONE", "want_day", "are_signs", "Ring", "MOST_DAYS", "FROM", "TO"]
def ns1 : List PySem.Str := ["NOT", "ALSO", "told_days", "want_till", "Days", "edges_of", "stretches", "first_days", "common_round", "first_apart", "NAME_SIGNS", "LONGEST_NAME", "is_name", "notes_of", "notes_together", "Going", "MOST_MOMENTS", "MOST_NESTED", "NO_PARTS", "is_number", "Short", "all_rising", "shorts_in", "row_moments", "row_many", "row_text", "At", "Over", "Spread", "MOST_CARDS"]
def ns2 : List PySem.Str := ["LATEST", "want", "Card", "Once", "Every", "Join", "Less", "Swap", "Later", "Noted", "As", "first_as", "want_card", "want_known", "goings_within", "going_at", "goings_on", "_law_pot", "_law_take", "_law_name", "_law_word", "_law_done", "_law_tried", "_law_all", "_law_no_leaves", "_law_no_others", "_law_no_moments", "_law_around", "_law_sizes_right", "_law_often_right"]
def nss : List PySem.Str := ns0 ++ ns1 ++ ns2
theorem run_a (w : World) : HandSHeadRun.RunA R (PySem.W.view R.prog [99]) 10600 nss w := by
  intro os
  kernel_rfl
theorem run_b (w : World) : HandSHeadRun.RunB R 10600 (fun s => xf1.all fun p => p (He.frG (HandSHeadRun.getT s) adr)) w := by
  intro os
  kernel_rfl
theorem run_c (w : World) : HandSHeadRun.RunB R 10600 (fun s => xf2.all fun p => p (He.frG (HandSHeadRun.getT s) adr)) w := by
  intro os
  kernel_rfl
theorem run_d (w : World) : ∀ os : OsState, (HandSHeadRun.endR R 10600 w os).map (fun s => (fn.all fun d => d.ok (He.frG (HandSHeadRun.getT s) adr), fn.map fun d => He.fnW (He.frG (HandSHeadRun.getT s) adr) d.at_)) = some (true, fn.map He.DefD.val) := by
  intro os
  kernel_rfl
theorem run (w : World) : HandSHeadRun.RunEq R (PySem.W.view R.prog [99]) hk ob 10600 nss w := HandSHeadRun.runEq_of (run_a w) (runC_of rfl (run_b w) (run_c w) (run_d w))
theorem sc_is_whole : FnScope ["thing"] ["thing"] (defScope s_is_whole) := ⟨rfl, rfl, rfl, by decide +kernel, rfl, by decide +kernel, by decide +kernel⟩
theorem sc_is_moment : FnScope ["thing"] ["thing"] (defScope s_is_moment) := ⟨rfl, rfl, rfl, by decide +kernel, rfl, by decide +kernel, by decide +kernel⟩
theorem sc_want_moment : FnScope ["thing"] ["thing"] (defScope s_want_moment) := ⟨rfl, rfl, rfl, by decide +kernel, rfl, by decide +kernel, by decide +kernel⟩
theorem sc_want_day : FnScope ["thing"] ["thing"] (defScope s_want_day) := ⟨rfl, rfl, rfl, by decide +kernel, rfl, by decide +kernel, by decide +kernel⟩
theorem sc_are_signs : FnScope ["thing", "sign"] ["thing"] (defScope s_are_signs) := ⟨rfl, rfl, rfl, by decide +kernel, rfl, by decide +kernel, by decide +kernel⟩
theorem sc_Ring_init : FnScope ["self", "text"] ["self", "text"] (defScope s_Ring_init) := ⟨rfl, rfl, rfl, by decide +kernel, rfl, by decide +kernel, by decide +kernel⟩
theorem sc_told_days : FnScope ["thing", "day", "found", "one", "other"] ["thing"] (defScope s_told_days) := ⟨rfl, rfl, rfl, by decide +kernel, rfl, by decide +kernel, by decide +kernel⟩
theorem sc_want_till : FnScope ["since", "till"] ["since", "till"] (defScope s_want_till) := ⟨rfl, rfl, rfl, by decide +kernel, rfl, by decide +kernel, by decide +kernel⟩
theorem sc_Days_init : FnScope ["self", "ring", "since", "till", "out", "also", "day"] ["self", "ring", "since", "till", "out", "also"] (defScope s_Days_init) := ⟨rfl, rfl, rfl, by decide +kernel, rfl, by decide +kernel, by decide +kernel⟩
theorem sc_is_name : FnScope ["thing", "sign"] ["thing"] (defScope s_is_name) := ⟨rfl, rfl, rfl, by decide +kernel, rfl, by decide +kernel, by decide +kernel⟩
theorem sc_notes_of : FnScope ["notes", "note"] ["notes"] (defScope s_notes_of) := ⟨rfl, rfl, rfl, by decide +kernel, rfl, by decide +kernel, by decide +kernel⟩
theorem sc_Going_init : FnScope ["self", "moment", "notes"] ["self", "moment", "notes"] (defScope s_Going_init) := ⟨rfl, rfl, rfl, by decide +kernel, rfl, by decide +kernel, by decide +kernel⟩
theorem sc_is_number : FnScope ["thing", "least"] ["thing", "least"] (defScope s_is_number) := ⟨rfl, rfl, rfl, by decide +kernel, rfl, by decide +kernel, by decide +kernel⟩
theorem sc_all_rising : FnScope ["parts", "one", "other"] ["parts"] (defScope s_all_rising) := ⟨rfl, rfl, rfl, by decide +kernel, rfl, by decide +kernel, by decide +kernel⟩
theorem sc_shorts_in : FnScope ["parts", "found", "one"] ["parts"] (defScope s_shorts_in) := ⟨rfl, rfl, rfl, by decide +kernel, rfl, by decide +kernel, by decide +kernel⟩
theorem sc_row_moments : FnScope ["parts", "found", "one"] ["parts"] (defScope s_row_moments) := ⟨rfl, rfl, rfl, by decide +kernel, rfl, by decide +kernel, by decide +kernel⟩
theorem sc_row_many : FnScope ["parts", "one"] ["parts"] (defScope s_row_many) := ⟨rfl, rfl, rfl, by decide +kernel, rfl, by decide +kernel, by decide +kernel⟩
theorem sc_At_init : FnScope ["self", "moment"] ["self", "moment"] (defScope s_At_init) := ⟨rfl, rfl, rfl, by decide +kernel, rfl, by decide +kernel, by decide +kernel⟩
theorem sc_At_moments : FnScope ["self"] ["self"] (defScope s_At_moments) := ⟨rfl, rfl, rfl, by decide +kernel, rfl, by decide +kernel, by decide +kernel⟩
theorem sc_At_begins : FnScope ["self"] ["self"] (defScope s_At_begins) := ⟨rfl, rfl, rfl, by decide +kernel, rfl, by decide +kernel, by decide +kernel⟩
theorem sc_At_ends : FnScope ["self"] ["self"] (defScope s_At_ends) := ⟨rfl, rfl, rfl, by decide +kernel, rfl, by decide +kernel, by decide +kernel⟩
theorem sc_At_means_many : FnScope ["self"] ["self"] (defScope s_At_means_many) := ⟨rfl, rfl, rfl, by decide +kernel, rfl, by decide +kernel, by decide +kernel⟩
theorem sc_At_nested : FnScope ["self"] ["self"] (defScope s_At_nested) := ⟨rfl, rfl, rfl, by decide +kernel, rfl, by decide +kernel, by decide +kernel⟩
theorem sc_Over_init : FnScope ["self", "parts", "many", "step"] ["self", "parts", "many", "step"] (defScope s_Over_init) := ⟨rfl, rfl, rfl, by decide +kernel, rfl, by decide +kernel, by decide +kernel⟩
theorem sc_Over_moments : FnScope ["self", "own", "found", "time", "moment"] ["self"] (defScope s_Over_moments) := ⟨rfl, rfl, rfl, by decide +kernel, rfl, by decide +kernel, by decide +kernel⟩
theorem sc_Over_begins : FnScope ["self"] ["self"] (defScope s_Over_begins) := ⟨rfl, rfl, rfl, by decide +kernel, rfl, by decide +kernel, by decide +kernel⟩
theorem sc_Over_ends : FnScope ["self"] ["self"] (defScope s_Over_ends) := ⟨rfl, rfl, rfl, by decide +kernel, rfl, by decide +kernel, by decide +kernel⟩
theorem sc_Over_means_many : FnScope ["self"] ["self"] (defScope s_Over_means_many) := ⟨rfl, rfl, rfl, by decide +kernel, rfl, by decide +kernel, by decide +kernel⟩
theorem sc_Over_nested : FnScope ["self", "one"] ["self"] (defScope s_Over_nested) := ⟨rfl, rfl, rfl, by decide +kernel, rfl, by decide +kernel, by decide +kernel⟩
theorem sc_Spread_init : FnScope ["self", "parts"] ["self", "parts"] (defScope s_Spread_init) := ⟨rfl, rfl, rfl, by decide +kernel, rfl, by decide +kernel, by decide +kernel⟩
theorem sc_Spread_moments : FnScope ["self"] ["self"] (defScope s_Spread_moments) := ⟨rfl, rfl, rfl, by decide +kernel, rfl, by decide +kernel, by decide +kernel⟩
theorem sc_want : FnScope ["truth", "words"] ["truth", "words"] (defScope s_want) := ⟨rfl, rfl, rfl, by decide +kernel, rfl, by decide +kernel, by decide +kernel⟩
theorem sc_Card_init : FnScope ["self", "held", "one"] ["self", "held"] (defScope s_Card_init) := ⟨rfl, rfl, rfl, by decide +kernel, rfl, by decide +kernel, by decide +kernel⟩
theorem sc_Card_size : FnScope ["self"] ["self"] (defScope s_Card_size) := ⟨rfl, rfl, rfl, by decide +kernel, rfl, by decide +kernel, by decide +kernel⟩
theorem sc_Once_init : FnScope ["self", "spread", "notes", "moment"] ["self", "spread", "notes"] (defScope s_Once_init) := ⟨rfl, rfl, rfl, by decide +kernel, rfl, by decide +kernel, by decide +kernel⟩
theorem sc_Every_init : FnScope ["self", "days", "spread", "notes", "moment", "minute"] ["self", "days", "spread", "notes"] (defScope s_Every_init) := ⟨rfl, rfl, rfl, by decide +kernel, rfl, by decide +kernel, by decide +kernel⟩
theorem sc_Join_init : FnScope ["self", "parts"] ["self", "parts"] (defScope s_Join_init) := ⟨rfl, rfl, rfl, by decide +kernel, rfl, by decide +kernel, by decide +kernel⟩
theorem sc_Less_init : FnScope ["self", "one", "other"] ["self", "one", "other"] (defScope s_Less_init) := ⟨rfl, rfl, rfl, by decide +kernel, rfl, by decide +kernel, by decide +kernel⟩
theorem sc_Swap_init : FnScope ["self", "one", "days", "other"] ["self", "one", "days", "other"] (defScope s_Swap_init) := ⟨rfl, rfl, rfl, by decide +kernel, rfl, by decide +kernel, by decide +kernel⟩
theorem sc_Later_init : FnScope ["self", "one", "minutes"] ["self", "one", "minutes"] (defScope s_Later_init) := ⟨rfl, rfl, rfl, by decide +kernel, rfl, by decide +kernel, by decide +kernel⟩
theorem sc_Noted_init : FnScope ["self", "one", "note"] ["self", "one", "note"] (defScope s_Noted_init) := ⟨rfl, rfl, rfl, by decide +kernel, rfl, by decide +kernel, by decide +kernel⟩
theorem sc_As_init : FnScope ["self", "name"] ["self", "name"] (defScope s_As_init) := ⟨rfl, rfl, rfl, by decide +kernel, rfl, by decide +kernel, by decide +kernel⟩
theorem sc_want_card : FnScope ["card"] ["card"] (defScope s_want_card) := ⟨rfl, rfl, rfl, by decide +kernel, rfl, by decide +kernel, by decide +kernel⟩
theorem sc_want_known : FnScope ["card", "name"] ["card"] (defScope s_want_known) := ⟨rfl, rfl, rfl, by decide +kernel, rfl, by decide +kernel, by decide +kernel⟩
theorem sc_goings_within : FnScope ["card", "begin", "end", "found", "moment", "notes"] ["card", "begin", "end"] (defScope s_goings_within) := ⟨rfl, rfl, rfl, by decide +kernel, rfl, by decide +kernel, by decide +kernel⟩
theorem sc_going_at : FnScope ["card", "moment", "notes"] ["card", "moment"] (defScope s_going_at) := ⟨rfl, rfl, rfl, by decide +kernel, rfl, by decide +kernel, by decide +kernel⟩
theorem sc_goings_on : FnScope ["card", "day"] ["card", "day"] (defScope s_goings_on) := ⟨rfl, rfl, rfl, by decide +kernel, rfl, by decide +kernel, by decide +kernel⟩
theorem sc__law_pot : FnScope ["_law_script", "_law_k", "_law_cell", "_law_seed"] ["_law_script", "_law_k"] (defScope s__law_pot) := ⟨rfl, rfl, rfl, by decide +kernel, rfl, by decide +kernel, by decide +kernel⟩
theorem sc__law_take : FnScope ["_law_pot_here", "_law_many", "_law_digit"] ["_law_pot_here", "_law_many"] (defScope s__law_take) := ⟨rfl, rfl, rfl, by decide +kernel, rfl, by decide +kernel, by decide +kernel⟩
theorem sc__law_name : FnScope ["_law_pot_here", "_law_letters", "_law_size", "_law_k"] ["_law_pot_here"] (defScope s__law_name) := ⟨rfl, rfl, rfl, by decide +kernel, rfl, by decide +kernel, by decide +kernel⟩
theorem sc__law_word : FnScope ["_law_e", "_law_others", "_law_some"] ["_law_e"] (defScope s__law_word) := ⟨rfl, rfl, rfl, by decide +kernel, rfl, by decide +kernel, by decide +kernel⟩
theorem sc__law_done : FnScope ["_law_sort", "_law_things"] ["_law_sort", "_law_things"] (defScope s__law_done) := ⟨rfl, rfl, rfl, by decide +kernel, rfl, by decide +kernel, by decide +kernel⟩
theorem sc__law_tried : FnScope ["_law_sort", "_law_things", "_law_word_here", "_law_e"] ["_law_sort", "_law_things"] (defScope s__law_tried) := ⟨rfl, rfl, rfl, by decide +kernel, rfl, by decide +kernel, by decide +kernel⟩
theorem sc__law_all : FnScope ["_law_rows", "_law_word_here", "_law_row"] ["_law_rows", "_law_word_here"] (defScope s__law_all) := ⟨rfl, rfl, rfl, by decide +kernel, rfl, by decide +kernel, by decide +kernel⟩
theorem sc__law_no_leaves : FnScope ["_law_card", "_law_days", "_law_spread", "_law_name_here", "_law_plain", "_law_wide", "_law_notes", "_law_names", "_law_no_spread", "_law_rows", "_law_thing"] ["_law_card", "_law_days", "_law_spread", "_law_name_here"] (defScope s__law_no_leaves) := ⟨rfl, rfl, rfl, by decide +kernel, rfl, by decide +kernel, by decide +kernel⟩
theorem sc__law_no_others : FnScope ["_law_card", "_law_days", "_law_spread", "_law_at", "_law_no_card", "_law_rows", "_law_sort", "_law_thing"] ["_law_card", "_law_days", "_law_spread", "_law_at"] (defScope s__law_no_others) := ⟨rfl, rfl, rfl, by decide +kernel, rfl, by decide +kernel, by decide +kernel⟩
theorem sc__law_no_moments : FnScope ["_law_card", "_law_rows", "_law_sort", "_law_thing"] ["_law_card"] (defScope s__law_no_moments) := ⟨rfl, rfl, rfl, by decide +kernel, rfl, by decide +kernel, by decide +kernel⟩
theorem sc__law_around : FnScope ["_law_pot_here", "_law_card", "_law_name_here", "_law_way"] ["_law_pot_here", "_law_card", "_law_name_here"] (defScope s__law_around) := ⟨rfl, rfl, rfl, by decide +kernel, rfl, by decide +kernel, by decide +kernel⟩
theorem sc__law_sizes_right : FnScope ["_law_pot_here", "_law_leaf", "_law_days", "_law_name_here", "_law_card", "_law_k", "_law_rows"] ["_law_pot_here", "_law_leaf", "_law_days", "_law_name_here"] (defScope s__law_sizes_right) := ⟨rfl, rfl, rfl, by decide +kernel, rfl, by decide +kernel, by decide +kernel⟩
theorem sc__law_often_right : FnScope ["_law_pot_here", "_law_leaf", "_law_name_here", "_law_card", "_law_size", "_law_k", "_law_often"] ["_law_pot_here", "_law_leaf", "_law_name_here"] (defScope s__law_often_right) := ⟨rfl, rfl, rfl, by decide +kernel, rfl, by decide +kernel, by decide +kernel⟩
theorem sc_law : FnScope ["_law_script", "_law_pots", "_law_name_here", "_law_spread", "_law_days", "_law_card", "_law_rows"] ["_law_script"] (defScope s_law) := ⟨rfl, rfl, rfl, by decide +kernel, rfl, by decide +kernel, by decide +kernel⟩
structure Env (K : PySem.W.Frag) (mg : Str → Option Value) : Prop where
  g_is_whole : mg "is_whole" = some (.ref (He.ga K "is_whole"))
  g_is_moment : mg "is_moment" = some (.ref (He.ga K "is_moment"))
  g_want_moment : mg "want_moment" = some (.ref (He.ga K "want_moment"))
  g_want_day : mg "want_day" = some (.ref (He.ga K "want_day"))
  g_are_signs : mg "are_signs" = some (.ref (He.ga K "are_signs"))
  g_told_days : mg "told_days" = some (.ref (He.ga K "told_days"))
  g_want_till : mg "want_till" = some (.ref (He.ga K "want_till"))
  g_is_name : mg "is_name" = some (.ref (He.ga K "is_name"))
  g_notes_of : mg "notes_of" = some (.ref (He.ga K "notes_of"))
  g_is_number : mg "is_number" = some (.ref (He.ga K "is_number"))
  g_all_rising : mg "all_rising" = some (.ref (He.ga K "all_rising"))
  g_shorts_in : mg "shorts_in" = some (.ref (He.ga K "shorts_in"))
  g_row_moments : mg "row_moments" = some (.ref (He.ga K "row_moments"))
  g_row_many : mg "row_many" = some (.ref (He.ga K "row_many"))
  g_want : mg "want" = some (.ref (He.ga K "want"))
  g_first_as : mg "first_as" = some (.ref (He.ga K "first_as"))
  g_want_card : mg "want_card" = some (.ref (He.ga K "want_card"))
  g_want_known : mg "want_known" = some (.ref (He.ga K "want_known"))
  g_goings_within : mg "goings_within" = some (.ref (He.ga K "goings_within"))
  g_going_at : mg "going_at" = some (.ref (He.ga K "going_at"))
  g_goings_on : mg "goings_on" = some (.ref (He.ga K "goings_on"))
  g__law_pot : mg "_law_pot" = some (.ref (He.ga K "_law_pot"))
  g__law_take : mg "_law_take" = some (.ref (He.ga K "_law_take"))
  g__law_name : mg "_law_name" = some (.ref (He.ga K "_law_name"))
  g__law_word : mg "_law_word" = some (.ref (He.ga K "_law_word"))
  g__law_done : mg "_law_done" = some (.ref (He.ga K "_law_done"))
  g__law_tried : mg "_law_tried" = some (.ref (He.ga K "_law_tried"))
  g__law_all : mg "_law_all" = some (.ref (He.ga K "_law_all"))
  g__law_no_leaves : mg "_law_no_leaves" = some (.ref (He.ga K "_law_no_leaves"))
  g__law_no_others : mg "_law_no_others" = some (.ref (He.ga K "_law_no_others"))
  g__law_no_moments : mg "_law_no_moments" = some (.ref (He.ga K "_law_no_moments"))
  g__law_around : mg "_law_around" = some (.ref (He.ga K "_law_around"))
  g__law_sizes_right : mg "_law_sizes_right" = some (.ref (He.ga K "_law_sizes_right"))
  g__law_often_right : mg "_law_often_right" = some (.ref (He.ga K "_law_often_right"))
  g_law : mg "law" = some (.ref (He.ga K "law"))
  v_DAY : ∃ u, mg "DAY" = some u ∧ RelV (.int (1440)) u
  v_MOST_SIGNS : ∃ u, mg "MOST_SIGNS" = some u ∧ RelV (.int (7)) u
  v_NOUGHT : ∃ u, mg "NOUGHT" = some u ∧ RelV (.str "0") u
  v_ONE : ∃ u, mg "ONE" = some u ∧ RelV (.str "1") u
  v_MOST_DAYS : ∃ u, mg "MOST_DAYS" = some u ∧ RelV (.int (8)) u
  v_NAME_SIGNS : ∃ u, mg "NAME_SIGNS" = some u ∧ RelV (.str "abcdefghijklmnopqrstuvwxyz") u
  v_LONGEST_NAME : ∃ u, mg "LONGEST_NAME" = some u ∧ RelV (.int (8)) u
  v_MOST_MOMENTS : ∃ u, mg "MOST_MOMENTS" = some u ∧ RelV (.int (1440)) u
  v_MOST_NESTED : ∃ u, mg "MOST_NESTED" = some u ∧ RelV (.int (8)) u
  v_MOST_CARDS : ∃ u, mg "MOST_CARDS" = some u ∧ RelV (.int (60)) u
  v_LATEST : ∃ u, mg "LATEST" = some u ∧ RelV (.int (10080)) u
  n_ValueError : mg "ValueError" = none
  n_all : mg "all" = none
  n_any : mg "any" = none
  n_bool : mg "bool" = none
  n_dict : mg "dict" = none
  n_divmod : mg "divmod" = none
  n_int : mg "int" = none
  n_isinstance : mg "isinstance" = none
  n_len : mg "len" = none
  n_list : mg "list" = none
  n_max : mg "max" = none
  n_range : mg "range" = none
  n_repr : mg "repr" = none
  n_set : mg "set" = none
  n_sorted : mg "sorted" = none
  n_str : mg "str" = none
  n_sum : mg "sum" = none
  n_tuple : mg "tuple" = none
  n_zip : mg "zip" = none
  g_GoingError : mg "GoingError" = some (.ref (He.ga K "GoingError"))
  g_LackError : mg "LackError" = some (.ref (He.ga K "LackError"))
  g_BookError : mg "BookError" = some (.ref (He.ga K "BookError"))
  g_NoTime : mg "NoTime" = some (.ref (He.ga K "NoTime"))
  x_NoTime : Exo K (He.ga K "NoTime") bmV "ValueError.__new__"
  g_NoPiece : mg "NoPiece" = some (.ref (He.ga K "NoPiece"))
  x_NoPiece : Exo K (He.ga K "NoPiece") bmV "ValueError.__new__"
  g_NoDays : mg "NoDays" = some (.ref (He.ga K "NoDays"))
  x_NoDays : Exo K (He.ga K "NoDays") bmV "ValueError.__new__"
  g_NoCard : mg "NoCard" = some (.ref (He.ga K "NoCard"))
  x_NoCard : Exo K (He.ga K "NoCard") bmV "ValueError.__new__"
  g_NoName : mg "NoName" = some (.ref (He.ga K "NoName"))
  g_NoRow : mg "NoRow" = some (.ref (He.ga K "NoRow"))
  g_NoText : mg "NoText" = some (.ref (He.ga K "NoText"))
  g_Ring : mg "Ring" = some (.ref (He.ga K "Ring"))
  g_Days : mg "Days" = some (.ref (He.ga K "Days"))
  g_Going : mg "Going" = some (.ref (He.ga K "Going"))
  g_Short : mg "Short" = some (.ref (He.ga K "Short"))
  g_At : mg "At" = some (.ref (He.ga K "At"))
  g_Over : mg "Over" = some (.ref (He.ga K "Over"))
  g_Spread : mg "Spread" = some (.ref (He.ga K "Spread"))
  g_Card : mg "Card" = some (.ref (He.ga K "Card"))
  g_Once : mg "Once" = some (.ref (He.ga K "Once"))
  g_Every : mg "Every" = some (.ref (He.ga K "Every"))
  g_Join : mg "Join" = some (.ref (He.ga K "Join"))
  g_Less : mg "Less" = some (.ref (He.ga K "Less"))
  g_Swap : mg "Swap" = some (.ref (He.ga K "Swap"))
  g_Later : mg "Later" = some (.ref (He.ga K "Later"))
  g_Noted : mg "Noted" = some (.ref (He.ga K "Noted"))
  g_As : mg "As" = some (.ref (He.ga K "As"))
  cm_Card : ClsM K (He.ga K "Card") "__init__" (He.ma K (He.ga K "Card") "__init__")
  c_Ring : Cls K (He.ga K "Ring")
  i_Ring : InsC K (He.ga K "Ring")
  a_Ring_bits : NoAttr K (He.ga K "Ring") "bits"
  m_Ring_rings : Meth K (He.ga K "Ring") "rings" (He.ma K (He.ga K "Ring") "rings")
  mk_Ring : Mk K (He.ga K "Ring") (He.ma K (He.ga K "Ring") "__init__")
  kit_Ring_Ring : PySem.W.kitOne K (.ref (He.ga K "Ring")) (.ref (He.ga K "Ring")) = some true
  kit_Ring_Days : PySem.W.kitOne K (.ref (He.ga K "Ring")) (.ref (He.ga K "Days")) = some false
  c_Days : Cls K (He.ga K "Days")
  i_Days : InsC K (He.ga K "Days")
  a_Days_ring : NoAttr K (He.ga K "Days") "ring"
  a_Days_since : NoAttr K (He.ga K "Days") "since"
  a_Days_till : NoAttr K (He.ga K "Days") "till"
  a_Days_out : NoAttr K (He.ga K "Days") "out"
  a_Days_also : NoAttr K (He.ga K "Days") "also"
  m_Days_has : Meth K (He.ga K "Days") "has" (He.ma K (He.ga K "Days") "has")
  mk_Days : Mk K (He.ga K "Days") (He.ma K (He.ga K "Days") "__init__")
  kit_Days_Days : PySem.W.kitOne K (.ref (He.ga K "Days")) (.ref (He.ga K "Days")) = some true
  kit_Days_Spread : PySem.W.kitOne K (.ref (He.ga K "Days")) (.ref (He.ga K "Spread")) = some false
  kit_Days_Card : PySem.W.kitOne K (.ref (He.ga K "Days")) (.ref (He.ga K "Card")) = some false
  c_Going : Cls K (He.ga K "Going")
  a_Going_moment : NoAttr K (He.ga K "Going") "moment"
  a_Going_notes : NoAttr K (He.ga K "Going") "notes"
  mk_Going : Mk K (He.ga K "Going") (He.ma K (He.ga K "Going") "__init__")
  c_At : Cls K (He.ga K "At")
  i_At : InsC K (He.ga K "At")
  a_At_moment : NoAttr K (He.ga K "At") "moment"
  m_At_moments : Meth K (He.ga K "At") "moments" (He.ma K (He.ga K "At") "moments")
  m_At_begins : Meth K (He.ga K "At") "begins" (He.ma K (He.ga K "At") "begins")
  m_At_ends : Meth K (He.ga K "At") "ends" (He.ma K (He.ga K "At") "ends")
  m_At_means_many : Meth K (He.ga K "At") "means_many" (He.ma K (He.ga K "At") "means_many")
  m_At_nested : Meth K (He.ga K "At") "nested" (He.ma K (He.ga K "At") "nested")
  mk_At : Mk K (He.ga K "At") (He.ma K (He.ga K "At") "__init__")
  kit_At_Short : PySem.W.kitOne K (.ref (He.ga K "At")) (.ref (He.ga K "Short")) = some true
  kit_At_Spread : PySem.W.kitOne K (.ref (He.ga K "At")) (.ref (He.ga K "Spread")) = some false
  c_Over : Cls K (He.ga K "Over")
  i_Over : InsC K (He.ga K "Over")
  a_Over_kept : NoAttr K (He.ga K "Over") "kept"
  a_Over_many : NoAttr K (He.ga K "Over") "many"
  a_Over_step : NoAttr K (He.ga K "Over") "step"
  m_Over_moments : Meth K (He.ga K "Over") "moments" (He.ma K (He.ga K "Over") "moments")
  m_Over_begins : Meth K (He.ga K "Over") "begins" (He.ma K (He.ga K "Over") "begins")
  m_Over_ends : Meth K (He.ga K "Over") "ends" (He.ma K (He.ga K "Over") "ends")
  m_Over_means_many : Meth K (He.ga K "Over") "means_many" (He.ma K (He.ga K "Over") "means_many")
  m_Over_nested : Meth K (He.ga K "Over") "nested" (He.ma K (He.ga K "Over") "nested")
  mk_Over : Mk K (He.ga K "Over") (He.ma K (He.ga K "Over") "__init__")
  kit_Over_Short : PySem.W.kitOne K (.ref (He.ga K "Over")) (.ref (He.ga K "Short")) = some true
  kit_Over_Spread : PySem.W.kitOne K (.ref (He.ga K "Over")) (.ref (He.ga K "Spread")) = some false
  c_Spread : Cls K (He.ga K "Spread")
  i_Spread : InsC K (He.ga K "Spread")
  a_Spread_kept : NoAttr K (He.ga K "Spread") "kept"
  a_Spread_held : NoAttr K (He.ga K "Spread") "held"
  m_Spread_moments : Meth K (He.ga K "Spread") "moments" (He.ma K (He.ga K "Spread") "moments")
  mk_Spread : Mk K (He.ga K "Spread") (He.ma K (He.ga K "Spread") "__init__")
  kit_Spread_Days : PySem.W.kitOne K (.ref (He.ga K "Spread")) (.ref (He.ga K "Days")) = some false
  kit_Spread_Spread : PySem.W.kitOne K (.ref (He.ga K "Spread")) (.ref (He.ga K "Spread")) = some true
  kit_Spread_Card : PySem.W.kitOne K (.ref (He.ga K "Spread")) (.ref (He.ga K "Card")) = some false
  kit_Spread_list : PySem.W.kitOne K (.ref (He.ga K "Spread")) (.type "list") = some false
  kit_Spread_tuple : PySem.W.kitOne K (.ref (He.ga K "Spread")) (.type "tuple") = some false
  c_Once : Cls K (He.ga K "Once")
  i_Once : InsC K (He.ga K "Once")
  a_Once_spread : NoAttr K (He.ga K "Once") "spread"
  a_Once_notes : NoAttr K (He.ga K "Once") "notes"
  a_Once_own : NoAttr K (He.ga K "Once") "own"
  a_Once_held : NoAttr K (He.ga K "Once") "held"
  a_Once_weight : NoAttr K (He.ga K "Once") "weight"
  m_Once_notes_at : Meth K (He.ga K "Once") "notes_at" (He.ma K (He.ga K "Once") "notes_at")
  m_Once_moments_within : Meth K (He.ga K "Once") "moments_within" (He.ma K (He.ga K "Once") "moments_within")
  m_Once_inner : Meth K (He.ga K "Once") "inner" (He.ma K (He.ga K "Once") "inner")
  e_Once_inner : He.ma K (He.ga K "Once") "inner" = He.ma K (He.ga K "Card") "inner"
  m_Once_size : Meth K (He.ga K "Once") "size" (He.ma K (He.ga K "Once") "size")
  e_Once_size : He.ma K (He.ga K "Once") "size" = He.ma K (He.ga K "Card") "size"
  mk_Once : Mk K (He.ga K "Once") (He.ma K (He.ga K "Once") "__init__")
  kit_Once_Days : PySem.W.kitOne K (.ref (He.ga K "Once")) (.ref (He.ga K "Days")) = some false
  kit_Once_Spread : PySem.W.kitOne K (.ref (He.ga K "Once")) (.ref (He.ga K "Spread")) = some false
  kit_Once_Card : PySem.W.kitOne K (.ref (He.ga K "Once")) (.ref (He.ga K "Card")) = some true
  kit_Once_As : PySem.W.kitOne K (.ref (He.ga K "Once")) (.ref (He.ga K "As")) = some false
  kit_Once_list : PySem.W.kitOne K (.ref (He.ga K "Once")) (.type "list") = some false
  kit_Once_tuple : PySem.W.kitOne K (.ref (He.ga K "Once")) (.type "tuple") = some false
  c_Every : Cls K (He.ga K "Every")
  i_Every : InsC K (He.ga K "Every")
  a_Every_days : NoAttr K (He.ga K "Every") "days"
  a_Every_spread : NoAttr K (He.ga K "Every") "spread"
  a_Every_notes : NoAttr K (He.ga K "Every") "notes"
  a_Every_own : NoAttr K (He.ga K "Every") "own"
  a_Every_held : NoAttr K (He.ga K "Every") "held"
  a_Every_weight : NoAttr K (He.ga K "Every") "weight"
  m_Every_notes_at : Meth K (He.ga K "Every") "notes_at" (He.ma K (He.ga K "Every") "notes_at")
  m_Every_moments_within : Meth K (He.ga K "Every") "moments_within" (He.ma K (He.ga K "Every") "moments_within")
  m_Every_inner : Meth K (He.ga K "Every") "inner" (He.ma K (He.ga K "Every") "inner")
  e_Every_inner : He.ma K (He.ga K "Every") "inner" = He.ma K (He.ga K "Card") "inner"
  m_Every_size : Meth K (He.ga K "Every") "size" (He.ma K (He.ga K "Every") "size")
  e_Every_size : He.ma K (He.ga K "Every") "size" = He.ma K (He.ga K "Card") "size"
  mk_Every : Mk K (He.ga K "Every") (He.ma K (He.ga K "Every") "__init__")
  kit_Every_Days : PySem.W.kitOne K (.ref (He.ga K "Every")) (.ref (He.ga K "Days")) = some false
  kit_Every_Spread : PySem.W.kitOne K (.ref (He.ga K "Every")) (.ref (He.ga K "Spread")) = some false
  kit_Every_Card : PySem.W.kitOne K (.ref (He.ga K "Every")) (.ref (He.ga K "Card")) = some true
  kit_Every_As : PySem.W.kitOne K (.ref (He.ga K "Every")) (.ref (He.ga K "As")) = some false
  kit_Every_list : PySem.W.kitOne K (.ref (He.ga K "Every")) (.type "list") = some false
  kit_Every_tuple : PySem.W.kitOne K (.ref (He.ga K "Every")) (.type "tuple") = some false
  c_Join : Cls K (He.ga K "Join")
  i_Join : InsC K (He.ga K "Join")
  a_Join_held : NoAttr K (He.ga K "Join") "held"
  a_Join_weight : NoAttr K (He.ga K "Join") "weight"
  m_Join_notes_at : Meth K (He.ga K "Join") "notes_at" (He.ma K (He.ga K "Join") "notes_at")
  m_Join_inner : Meth K (He.ga K "Join") "inner" (He.ma K (He.ga K "Join") "inner")
  e_Join_inner : He.ma K (He.ga K "Join") "inner" = He.ma K (He.ga K "Card") "inner"
  m_Join_size : Meth K (He.ga K "Join") "size" (He.ma K (He.ga K "Join") "size")
  e_Join_size : He.ma K (He.ga K "Join") "size" = He.ma K (He.ga K "Card") "size"
  m_Join_moments_within : Meth K (He.ga K "Join") "moments_within" (He.ma K (He.ga K "Join") "moments_within")
  e_Join_moments_within : He.ma K (He.ga K "Join") "moments_within" = He.ma K (He.ga K "Card") "moments_within"
  mk_Join : Mk K (He.ga K "Join") (He.ma K (He.ga K "Join") "__init__")
  kit_Join_Card : PySem.W.kitOne K (.ref (He.ga K "Join")) (.ref (He.ga K "Card")) = some true
  kit_Join_As : PySem.W.kitOne K (.ref (He.ga K "Join")) (.ref (He.ga K "As")) = some false
  c_Less : Cls K (He.ga K "Less")
  i_Less : InsC K (He.ga K "Less")
  a_Less_held : NoAttr K (He.ga K "Less") "held"
  a_Less_weight : NoAttr K (He.ga K "Less") "weight"
  m_Less_notes_at : Meth K (He.ga K "Less") "notes_at" (He.ma K (He.ga K "Less") "notes_at")
  m_Less_inner : Meth K (He.ga K "Less") "inner" (He.ma K (He.ga K "Less") "inner")
  e_Less_inner : He.ma K (He.ga K "Less") "inner" = He.ma K (He.ga K "Card") "inner"
  m_Less_size : Meth K (He.ga K "Less") "size" (He.ma K (He.ga K "Less") "size")
  e_Less_size : He.ma K (He.ga K "Less") "size" = He.ma K (He.ga K "Card") "size"
  m_Less_moments_within : Meth K (He.ga K "Less") "moments_within" (He.ma K (He.ga K "Less") "moments_within")
  e_Less_moments_within : He.ma K (He.ga K "Less") "moments_within" = He.ma K (He.ga K "Card") "moments_within"
  mk_Less : Mk K (He.ga K "Less") (He.ma K (He.ga K "Less") "__init__")
  kit_Less_Card : PySem.W.kitOne K (.ref (He.ga K "Less")) (.ref (He.ga K "Card")) = some true
  kit_Less_As : PySem.W.kitOne K (.ref (He.ga K "Less")) (.ref (He.ga K "As")) = some false
  c_Swap : Cls K (He.ga K "Swap")
  i_Swap : InsC K (He.ga K "Swap")
  a_Swap_days : NoAttr K (He.ga K "Swap") "days"
  a_Swap_held : NoAttr K (He.ga K "Swap") "held"
  a_Swap_weight : NoAttr K (He.ga K "Swap") "weight"
  m_Swap_notes_at : Meth K (He.ga K "Swap") "notes_at" (He.ma K (He.ga K "Swap") "notes_at")
  m_Swap_inner : Meth K (He.ga K "Swap") "inner" (He.ma K (He.ga K "Swap") "inner")
  e_Swap_inner : He.ma K (He.ga K "Swap") "inner" = He.ma K (He.ga K "Card") "inner"
  m_Swap_size : Meth K (He.ga K "Swap") "size" (He.ma K (He.ga K "Swap") "size")
  e_Swap_size : He.ma K (He.ga K "Swap") "size" = He.ma K (He.ga K "Card") "size"
  m_Swap_moments_within : Meth K (He.ga K "Swap") "moments_within" (He.ma K (He.ga K "Swap") "moments_within")
  e_Swap_moments_within : He.ma K (He.ga K "Swap") "moments_within" = He.ma K (He.ga K "Card") "moments_within"
  mk_Swap : Mk K (He.ga K "Swap") (He.ma K (He.ga K "Swap") "__init__")
  kit_Swap_Card : PySem.W.kitOne K (.ref (He.ga K "Swap")) (.ref (He.ga K "Card")) = some true
  kit_Swap_As : PySem.W.kitOne K (.ref (He.ga K "Swap")) (.ref (He.ga K "As")) = some false
  c_Later : Cls K (He.ga K "Later")
  i_Later : InsC K (He.ga K "Later")
  a_Later_minutes : NoAttr K (He.ga K "Later") "minutes"
  a_Later_held : NoAttr K (He.ga K "Later") "held"
  a_Later_weight : NoAttr K (He.ga K "Later") "weight"
  m_Later_notes_at : Meth K (He.ga K "Later") "notes_at" (He.ma K (He.ga K "Later") "notes_at")
  m_Later_moments_within : Meth K (He.ga K "Later") "moments_within" (He.ma K (He.ga K "Later") "moments_within")
  m_Later_inner : Meth K (He.ga K "Later") "inner" (He.ma K (He.ga K "Later") "inner")
  e_Later_inner : He.ma K (He.ga K "Later") "inner" = He.ma K (He.ga K "Card") "inner"
  m_Later_size : Meth K (He.ga K "Later") "size" (He.ma K (He.ga K "Later") "size")
  e_Later_size : He.ma K (He.ga K "Later") "size" = He.ma K (He.ga K "Card") "size"
  mk_Later : Mk K (He.ga K "Later") (He.ma K (He.ga K "Later") "__init__")
  kit_Later_Card : PySem.W.kitOne K (.ref (He.ga K "Later")) (.ref (He.ga K "Card")) = some true
  kit_Later_As : PySem.W.kitOne K (.ref (He.ga K "Later")) (.ref (He.ga K "As")) = some false
  c_Noted : Cls K (He.ga K "Noted")
  i_Noted : InsC K (He.ga K "Noted")
  a_Noted_note : NoAttr K (He.ga K "Noted") "note"
  a_Noted_held : NoAttr K (He.ga K "Noted") "held"
  a_Noted_weight : NoAttr K (He.ga K "Noted") "weight"
  m_Noted_notes_at : Meth K (He.ga K "Noted") "notes_at" (He.ma K (He.ga K "Noted") "notes_at")
  m_Noted_inner : Meth K (He.ga K "Noted") "inner" (He.ma K (He.ga K "Noted") "inner")
  e_Noted_inner : He.ma K (He.ga K "Noted") "inner" = He.ma K (He.ga K "Card") "inner"
  m_Noted_size : Meth K (He.ga K "Noted") "size" (He.ma K (He.ga K "Noted") "size")
  e_Noted_size : He.ma K (He.ga K "Noted") "size" = He.ma K (He.ga K "Card") "size"
  m_Noted_moments_within : Meth K (He.ga K "Noted") "moments_within" (He.ma K (He.ga K "Noted") "moments_within")
  e_Noted_moments_within : He.ma K (He.ga K "Noted") "moments_within" = He.ma K (He.ga K "Card") "moments_within"
  mk_Noted : Mk K (He.ga K "Noted") (He.ma K (He.ga K "Noted") "__init__")
  kit_Noted_Card : PySem.W.kitOne K (.ref (He.ga K "Noted")) (.ref (He.ga K "Card")) = some true
  kit_Noted_As : PySem.W.kitOne K (.ref (He.ga K "Noted")) (.ref (He.ga K "As")) = some false
  c_As : Cls K (He.ga K "As")
  i_As : InsC K (He.ga K "As")
  a_As_name : NoAttr K (He.ga K "As") "name"
  a_As_held : NoAttr K (He.ga K "As") "held"
  a_As_weight : NoAttr K (He.ga K "As") "weight"
  m_As_inner : Meth K (He.ga K "As") "inner" (He.ma K (He.ga K "As") "inner")
  e_As_inner : He.ma K (He.ga K "As") "inner" = He.ma K (He.ga K "Card") "inner"
  m_As_size : Meth K (He.ga K "As") "size" (He.ma K (He.ga K "As") "size")
  e_As_size : He.ma K (He.ga K "As") "size" = He.ma K (He.ga K "Card") "size"
  m_As_notes_at : Meth K (He.ga K "As") "notes_at" (He.ma K (He.ga K "As") "notes_at")
  e_As_notes_at : He.ma K (He.ga K "As") "notes_at" = He.ma K (He.ga K "Card") "notes_at"
  m_As_moments_within : Meth K (He.ga K "As") "moments_within" (He.ma K (He.ga K "As") "moments_within")
  e_As_moments_within : He.ma K (He.ga K "As") "moments_within" = He.ma K (He.ga K "Card") "moments_within"
  mk_As : Mk K (He.ga K "As") (He.ma K (He.ga K "As") "__init__")
  kit_As_Card : PySem.W.kitOne K (.ref (He.ga K "As")) (.ref (He.ga K "Card")) = some true
  kit_As_As : PySem.W.kitOne K (.ref (He.ga K "As")) (.ref (He.ga K "As")) = some true
  kit_int_Days : PySem.W.kitOne K (.type "int") (.ref (He.ga K "Days")) = some false
  kit_bool_Days : PySem.W.kitOne K (.type "bool") (.ref (He.ga K "Days")) = some false
  kit_str_Days : PySem.W.kitOne K (.type "str") (.ref (He.ga K "Days")) = some false
  kit_NoneType_Days : PySem.W.kitOne K (.type "NoneType") (.ref (He.ga K "Days")) = some false
  kit_list_Days : PySem.W.kitOne K (.type "list") (.ref (He.ga K "Days")) = some false
  kit_tuple_Days : PySem.W.kitOne K (.type "tuple") (.ref (He.ga K "Days")) = some false
  kit_dict_Days : PySem.W.kitOne K (.type "dict") (.ref (He.ga K "Days")) = some false
  kit_int_Spread : PySem.W.kitOne K (.type "int") (.ref (He.ga K "Spread")) = some false
  kit_bool_Spread : PySem.W.kitOne K (.type "bool") (.ref (He.ga K "Spread")) = some false
  kit_str_Spread : PySem.W.kitOne K (.type "str") (.ref (He.ga K "Spread")) = some false
  kit_NoneType_Spread : PySem.W.kitOne K (.type "NoneType") (.ref (He.ga K "Spread")) = some false
  kit_list_Spread : PySem.W.kitOne K (.type "list") (.ref (He.ga K "Spread")) = some false
  kit_tuple_Spread : PySem.W.kitOne K (.type "tuple") (.ref (He.ga K "Spread")) = some false
  kit_dict_Spread : PySem.W.kitOne K (.type "dict") (.ref (He.ga K "Spread")) = some false
  kit_int_Card : PySem.W.kitOne K (.type "int") (.ref (He.ga K "Card")) = some false
  kit_bool_Card : PySem.W.kitOne K (.type "bool") (.ref (He.ga K "Card")) = some false
  kit_str_Card : PySem.W.kitOne K (.type "str") (.ref (He.ga K "Card")) = some false
  kit_NoneType_Card : PySem.W.kitOne K (.type "NoneType") (.ref (He.ga K "Card")) = some false
  kit_list_Card : PySem.W.kitOne K (.type "list") (.ref (He.ga K "Card")) = some false
  kit_tuple_Card : PySem.W.kitOne K (.type "tuple") (.ref (He.ga K "Card")) = some false
  kit_dict_Card : PySem.W.kitOne K (.type "dict") (.ref (He.ga K "Card")) = some false
  exm_NoTime_GoingError : PySem.W.exmOne K (.ref (He.ga K "NoTime")) (.ref (He.ga K "GoingError")) = some true
  xc_NoTime : ExcC K (He.ga K "NoTime")
  kit_NoTime_LackError : PySem.W.kitOne K (.ref (He.ga K "NoTime")) (.ref (He.ga K "LackError")) = some false
  kit_NoTime_BookError : PySem.W.kitOne K (.ref (He.ga K "NoTime")) (.ref (He.ga K "BookError")) = some false
  kit_NoTime_NoTime : PySem.W.kitOne K (.ref (He.ga K "NoTime")) (.ref (He.ga K "NoTime")) = some true
  kit_NoTime_NoPiece : PySem.W.kitOne K (.ref (He.ga K "NoTime")) (.ref (He.ga K "NoPiece")) = some false
  kit_NoTime_NoDays : PySem.W.kitOne K (.ref (He.ga K "NoTime")) (.ref (He.ga K "NoDays")) = some false
  kit_NoTime_NoCard : PySem.W.kitOne K (.ref (He.ga K "NoTime")) (.ref (He.ga K "NoCard")) = some false
  kit_NoTime_NoName : PySem.W.kitOne K (.ref (He.ga K "NoTime")) (.ref (He.ga K "NoName")) = some false
  kit_NoTime_NoRow : PySem.W.kitOne K (.ref (He.ga K "NoTime")) (.ref (He.ga K "NoRow")) = some false
  kit_NoTime_NoText : PySem.W.kitOne K (.ref (He.ga K "NoTime")) (.ref (He.ga K "NoText")) = some false
  kit_NoTime_ValueError : PySem.W.kitOne K (.ref (He.ga K "NoTime")) (.type "ValueError") = some true
  exm_NoCard_GoingError : PySem.W.exmOne K (.ref (He.ga K "NoCard")) (.ref (He.ga K "GoingError")) = some true
  xc_NoCard : ExcC K (He.ga K "NoCard")
  kit_NoCard_LackError : PySem.W.kitOne K (.ref (He.ga K "NoCard")) (.ref (He.ga K "LackError")) = some false
  kit_NoCard_BookError : PySem.W.kitOne K (.ref (He.ga K "NoCard")) (.ref (He.ga K "BookError")) = some false
  kit_NoCard_NoTime : PySem.W.kitOne K (.ref (He.ga K "NoCard")) (.ref (He.ga K "NoTime")) = some false
  kit_NoCard_NoPiece : PySem.W.kitOne K (.ref (He.ga K "NoCard")) (.ref (He.ga K "NoPiece")) = some false
  kit_NoCard_NoDays : PySem.W.kitOne K (.ref (He.ga K "NoCard")) (.ref (He.ga K "NoDays")) = some false
  kit_NoCard_NoCard : PySem.W.kitOne K (.ref (He.ga K "NoCard")) (.ref (He.ga K "NoCard")) = some true
  kit_NoCard_NoName : PySem.W.kitOne K (.ref (He.ga K "NoCard")) (.ref (He.ga K "NoName")) = some false
  kit_NoCard_NoRow : PySem.W.kitOne K (.ref (He.ga K "NoCard")) (.ref (He.ga K "NoRow")) = some false
  kit_NoCard_NoText : PySem.W.kitOne K (.ref (He.ga K "NoCard")) (.ref (He.ga K "NoText")) = some false
  kit_NoCard_ValueError : PySem.W.kitOne K (.ref (He.ga K "NoCard")) (.type "ValueError") = some true
  f_is_whole : ∃ fd, FunD K "is_whole" "is_whole" (defArgs s_is_whole) (defBody s_is_whole) (defScope s_is_whole) [] [] (He.ga K "is_whole") fd
  f_is_moment : ∃ fd, FunD K "is_moment" "is_moment" (defArgs s_is_moment) (defBody s_is_moment) (defScope s_is_moment) [] [] (He.ga K "is_moment") fd
  f_want_moment : ∃ fd, FunD K "want_moment" "want_moment" (defArgs s_want_moment) (defBody s_want_moment) (defScope s_want_moment) [] [] (He.ga K "want_moment") fd
  f_want_day : ∃ fd, FunD K "want_day" "want_day" (defArgs s_want_day) (defBody s_want_day) (defScope s_want_day) [] [] (He.ga K "want_day") fd
  f_are_signs : ∃ fd, FunD K "are_signs" "are_signs" (defArgs s_are_signs) (defBody s_are_signs) (defScope s_are_signs) [] [] (He.ga K "are_signs") fd
  f_Ring_init : ∃ fd, FunD K "__init__" "Ring.__init__" (defArgs s_Ring_init) (defBody s_Ring_init) (defScope s_Ring_init) [] [] (He.ma K (He.ga K "Ring") "__init__") fd
  f_Ring_rings : ∃ fd, FunD K "rings" "Ring.rings" (defArgs s_Ring_rings) (defBody s_Ring_rings) (defScope s_Ring_rings) [] [] (He.ma K (He.ga K "Ring") "rings") fd
  f_told_days : ∃ fd, FunD K "told_days" "told_days" (defArgs s_told_days) (defBody s_told_days) (defScope s_told_days) [] [] (He.ga K "told_days") fd
  f_want_till : ∃ fd, FunD K "want_till" "want_till" (defArgs s_want_till) (defBody s_want_till) (defScope s_want_till) [] [] (He.ga K "want_till") fd
  f_Days_init : ∃ fd, FunD K "__init__" "Days.__init__" (defArgs s_Days_init) (defBody s_Days_init) (defScope s_Days_init) [.int (0), .non, .non, .non] [] (He.ma K (He.ga K "Days") "__init__") fd
  f_Days_has : ∃ fd, FunD K "has" "Days.has" (defArgs s_Days_has) (defBody s_Days_has) (defScope s_Days_has) [] [] (He.ma K (He.ga K "Days") "has") fd
  f_is_name : ∃ fd, FunD K "is_name" "is_name" (defArgs s_is_name) (defBody s_is_name) (defScope s_is_name) [] [] (He.ga K "is_name") fd
  f_notes_of : ∃ fd, FunD K "notes_of" "notes_of" (defArgs s_notes_of) (defBody s_notes_of) (defScope s_notes_of) [] [] (He.ga K "notes_of") fd
  f_Going_init : ∃ fd, FunD K "__init__" "Going.__init__" (defArgs s_Going_init) (defBody s_Going_init) (defScope s_Going_init) [.non] [] (He.ma K (He.ga K "Going") "__init__") fd
  f_is_number : ∃ fd, FunD K "is_number" "is_number" (defArgs s_is_number) (defBody s_is_number) (defScope s_is_number) [] [] (He.ga K "is_number") fd
  f_all_rising : ∃ fd, FunD K "all_rising" "all_rising" (defArgs s_all_rising) (defBody s_all_rising) (defScope s_all_rising) [] [] (He.ga K "all_rising") fd
  f_shorts_in : ∃ fd, FunD K "shorts_in" "shorts_in" (defArgs s_shorts_in) (defBody s_shorts_in) (defScope s_shorts_in) [] [] (He.ga K "shorts_in") fd
  f_row_moments : ∃ fd, FunD K "row_moments" "row_moments" (defArgs s_row_moments) (defBody s_row_moments) (defScope s_row_moments) [] [] (He.ga K "row_moments") fd
  f_row_many : ∃ fd, FunD K "row_many" "row_many" (defArgs s_row_many) (defBody s_row_many) (defScope s_row_many) [] [] (He.ga K "row_many") fd
  f_At_init : ∃ fd, FunD K "__init__" "At.__init__" (defArgs s_At_init) (defBody s_At_init) (defScope s_At_init) [] [] (He.ma K (He.ga K "At") "__init__") fd
  f_At_moments : ∃ fd, FunD K "moments" "At.moments" (defArgs s_At_moments) (defBody s_At_moments) (defScope s_At_moments) [] [] (He.ma K (He.ga K "At") "moments") fd
  f_At_begins : ∃ fd, FunD K "begins" "At.begins" (defArgs s_At_begins) (defBody s_At_begins) (defScope s_At_begins) [] [] (He.ma K (He.ga K "At") "begins") fd
  f_At_ends : ∃ fd, FunD K "ends" "At.ends" (defArgs s_At_ends) (defBody s_At_ends) (defScope s_At_ends) [] [] (He.ma K (He.ga K "At") "ends") fd
  f_At_means_many : ∃ fd, FunD K "means_many" "At.means_many" (defArgs s_At_means_many) (defBody s_At_means_many) (defScope s_At_means_many) [] [] (He.ma K (He.ga K "At") "means_many") fd
  f_At_nested : ∃ fd, FunD K "nested" "At.nested" (defArgs s_At_nested) (defBody s_At_nested) (defScope s_At_nested) [] [] (He.ma K (He.ga K "At") "nested") fd
  f_Over_init : ∃ fd, FunD K "__init__" "Over.__init__" (defArgs s_Over_init) (defBody s_Over_init) (defScope s_Over_init) [.int (2), .int (60)] [] (He.ma K (He.ga K "Over") "__init__") fd
  f_Over_moments : ∃ fd, FunD K "moments" "Over.moments" (defArgs s_Over_moments) (defBody s_Over_moments) (defScope s_Over_moments) [] [] (He.ma K (He.ga K "Over") "moments") fd
  f_Over_begins : ∃ fd, FunD K "begins" "Over.begins" (defArgs s_Over_begins) (defBody s_Over_begins) (defScope s_Over_begins) [] [] (He.ma K (He.ga K "Over") "begins") fd
  f_Over_ends : ∃ fd, FunD K "ends" "Over.ends" (defArgs s_Over_ends) (defBody s_Over_ends) (defScope s_Over_ends) [] [] (He.ma K (He.ga K "Over") "ends") fd
  f_Over_means_many : ∃ fd, FunD K "means_many" "Over.means_many" (defArgs s_Over_means_many) (defBody s_Over_means_many) (defScope s_Over_means_many) [] [] (He.ma K (He.ga K "Over") "means_many") fd
  f_Over_nested : ∃ fd, FunD K "nested" "Over.nested" (defArgs s_Over_nested) (defBody s_Over_nested) (defScope s_Over_nested) [] [] (He.ma K (He.ga K "Over") "nested") fd
  f_Spread_init : ∃ fd, FunD K "__init__" "Spread.__init__" (defArgs s_Spread_init) (defBody s_Spread_init) (defScope s_Spread_init) [] [] (He.ma K (He.ga K "Spread") "__init__") fd
  f_Spread_moments : ∃ fd, FunD K "moments" "Spread.moments" (defArgs s_Spread_moments) (defBody s_Spread_moments) (defScope s_Spread_moments) [] [] (He.ma K (He.ga K "Spread") "moments") fd
  f_want : ∃ fd, FunD K "want" "want" (defArgs s_want) (defBody s_want) (defScope s_want) [] [] (He.ga K "want") fd
  f_Card_init : ∃ fd, FunD K "__init__" "Card.__init__" (defArgs s_Card_init) (defBody s_Card_init) (defScope s_Card_init) [] [] (He.ma K (He.ga K "Card") "__init__") fd
  f_Card_inner : ∃ fd, FunD K "inner" "Card.inner" (defArgs s_Card_inner) (defBody s_Card_inner) (defScope s_Card_inner) [] [] (He.ma K (He.ga K "Card") "inner") fd
  f_Card_size : ∃ fd, FunD K "size" "Card.size" (defArgs s_Card_size) (defBody s_Card_size) (defScope s_Card_size) [] [] (He.ma K (He.ga K "Card") "size") fd
  f_Card_notes_at : ∃ fd, FunD K "notes_at" "Card.notes_at" (defArgs s_Card_notes_at) (defBody s_Card_notes_at) (defScope s_Card_notes_at) [] [] (He.ma K (He.ga K "Card") "notes_at") fd
  f_Card_moments_within : ∃ fd, FunD K "moments_within" "Card.moments_within" (defArgs s_Card_moments_within) (defBody s_Card_moments_within) (defScope s_Card_moments_within) [] [] (He.ma K (He.ga K "Card") "moments_within") fd
  f_Once_init : ∃ fd, FunD K "__init__" "Once.__init__" (defArgs s_Once_init) (defBody s_Once_init) (defScope s_Once_init) [.non] [] (He.ma K (He.ga K "Once") "__init__") fd
  f_Once_moments_within : ∃ fd, FunD K "moments_within" "Once.moments_within" (defArgs s_Once_moments_within) (defBody s_Once_moments_within) (defScope s_Once_moments_within) [] [] (He.ma K (He.ga K "Once") "moments_within") fd
  f_Every_init : ∃ fd, FunD K "__init__" "Every.__init__" (defArgs s_Every_init) (defBody s_Every_init) (defScope s_Every_init) [.non] [] (He.ma K (He.ga K "Every") "__init__") fd
  f_Every_moments_within : ∃ fd, FunD K "moments_within" "Every.moments_within" (defArgs s_Every_moments_within) (defBody s_Every_moments_within) (defScope s_Every_moments_within) [] [] (He.ma K (He.ga K "Every") "moments_within") fd
  f_Join_init : ∃ fd, FunD K "__init__" "Join.__init__" (defArgs s_Join_init) (defBody s_Join_init) (defScope s_Join_init) [] [] (He.ma K (He.ga K "Join") "__init__") fd
  f_Less_init : ∃ fd, FunD K "__init__" "Less.__init__" (defArgs s_Less_init) (defBody s_Less_init) (defScope s_Less_init) [] [] (He.ma K (He.ga K "Less") "__init__") fd
  f_Swap_init : ∃ fd, FunD K "__init__" "Swap.__init__" (defArgs s_Swap_init) (defBody s_Swap_init) (defScope s_Swap_init) [] [] (He.ma K (He.ga K "Swap") "__init__") fd
  f_Later_init : ∃ fd, FunD K "__init__" "Later.__init__" (defArgs s_Later_init) (defBody s_Later_init) (defScope s_Later_init) [.int (60)] [] (He.ma K (He.ga K "Later") "__init__") fd
  f_Noted_init : ∃ fd, FunD K "__init__" "Noted.__init__" (defArgs s_Noted_init) (defBody s_Noted_init) (defScope s_Noted_init) [] [] (He.ma K (He.ga K "Noted") "__init__") fd
  f_As_init : ∃ fd, FunD K "__init__" "As.__init__" (defArgs s_As_init) (defBody s_As_init) (defScope s_As_init) [] [] (He.ma K (He.ga K "As") "__init__") fd
  f_first_as : ∃ fd, FunD K "first_as" "first_as" (defArgs s_first_as) (defBody s_first_as) (defScope s_first_as) [] [] (He.ga K "first_as") fd
  f_want_card : ∃ fd, FunD K "want_card" "want_card" (defArgs s_want_card) (defBody s_want_card) (defScope s_want_card) [] [] (He.ga K "want_card") fd
  f_want_known : ∃ fd, FunD K "want_known" "want_known" (defArgs s_want_known) (defBody s_want_known) (defScope s_want_known) [] [] (He.ga K "want_known") fd
  f_goings_within : ∃ fd, FunD K "goings_within" "goings_within" (defArgs s_goings_within) (defBody s_goings_within) (defScope s_goings_within) [] [] (He.ga K "goings_within") fd
  f_going_at : ∃ fd, FunD K "going_at" "going_at" (defArgs s_going_at) (defBody s_going_at) (defScope s_going_at) [] [] (He.ga K "going_at") fd
  f_goings_on : ∃ fd, FunD K "goings_on" "goings_on" (defArgs s_goings_on) (defBody s_goings_on) (defScope s_goings_on) [] [] (He.ga K "goings_on") fd
  f__law_pot : ∃ fd, FunD K "_law_pot" "_law_pot" (defArgs s__law_pot) (defBody s__law_pot) (defScope s__law_pot) [] [] (He.ga K "_law_pot") fd
  f__law_take : ∃ fd, FunD K "_law_take" "_law_take" (defArgs s__law_take) (defBody s__law_take) (defScope s__law_take) [] [] (He.ga K "_law_take") fd
  f__law_name : ∃ fd, FunD K "_law_name" "_law_name" (defArgs s__law_name) (defBody s__law_name) (defScope s__law_name) [] [] (He.ga K "_law_name") fd
  f__law_word : ∃ fd, FunD K "_law_word" "_law_word" (defArgs s__law_word) (defBody s__law_word) (defScope s__law_word) [] [] (He.ga K "_law_word") fd
  f__law_done : ∃ fd, FunD K "_law_done" "_law_done" (defArgs s__law_done) (defBody s__law_done) (defScope s__law_done) [] [] (He.ga K "_law_done") fd
  f__law_tried : ∃ fd, FunD K "_law_tried" "_law_tried" (defArgs s__law_tried) (defBody s__law_tried) (defScope s__law_tried) [] [] (He.ga K "_law_tried") fd
  f__law_all : ∃ fd, FunD K "_law_all" "_law_all" (defArgs s__law_all) (defBody s__law_all) (defScope s__law_all) [] [] (He.ga K "_law_all") fd
  f__law_no_leaves : ∃ fd, FunD K "_law_no_leaves" "_law_no_leaves" (defArgs s__law_no_leaves) (defBody s__law_no_leaves) (defScope s__law_no_leaves) [] [] (He.ga K "_law_no_leaves") fd
  f__law_no_others : ∃ fd, FunD K "_law_no_others" "_law_no_others" (defArgs s__law_no_others) (defBody s__law_no_others) (defScope s__law_no_others) [] [] (He.ga K "_law_no_others") fd
  f__law_no_moments : ∃ fd, FunD K "_law_no_moments" "_law_no_moments" (defArgs s__law_no_moments) (defBody s__law_no_moments) (defScope s__law_no_moments) [] [] (He.ga K "_law_no_moments") fd
  f__law_around : ∃ fd, FunD K "_law_around" "_law_around" (defArgs s__law_around) (defBody s__law_around) (defScope s__law_around) [] [] (He.ga K "_law_around") fd
  f__law_sizes_right : ∃ fd, FunD K "_law_sizes_right" "_law_sizes_right" (defArgs s__law_sizes_right) (defBody s__law_sizes_right) (defScope s__law_sizes_right) [] [] (He.ga K "_law_sizes_right") fd
  f__law_often_right : ∃ fd, FunD K "_law_often_right" "_law_often_right" (defArgs s__law_often_right) (defBody s__law_often_right) (defScope s__law_often_right) [] [] (He.ga K "_law_often_right") fd
  f_law : ∃ fd, FunD K "law" "law" (defArgs s_law) (defBody s_law) (defScope s_law) [] [] (He.ga K "law") fd
end Toy
namespace Toy
open PySem PySem.Spec PyProof.Rows L2 L3
theorem Env.k_is_whole {K : PySem.W.Frag} {mg : Str → Option Value} (T : Env K mg) : PySem.W.keepIn K (.ref (He.ga K "is_whole")) = true := let ⟨_, F⟩ := T.f_is_whole; F.kp
theorem Env.k_is_moment {K : PySem.W.Frag} {mg : Str → Option Value} (T : Env K mg) : PySem.W.keepIn K (.ref (He.ga K "is_moment")) = true := let ⟨_, F⟩ := T.f_is_moment; F.kp
theorem Env.k_want_moment {K : PySem.W.Frag} {mg : Str → Option Value} (T : Env K mg) : PySem.W.keepIn K (.ref (He.ga K "want_moment")) = true := let ⟨_, F⟩ := T.f_want_moment; F.kp
theorem Env.k_want_day {K : PySem.W.Frag} {mg : Str → Option Value} (T : Env K mg) : PySem.W.keepIn K (.ref (He.ga K "want_day")) = true := let ⟨_, F⟩ := T.f_want_day; F.kp
theorem Env.k_are_signs {K : PySem.W.Frag} {mg : Str → Option Value} (T : Env K mg) : PySem.W.keepIn K (.ref (He.ga K "are_signs")) = true := let ⟨_, F⟩ := T.f_are_signs; F.kp
theorem Env.k_told_days {K : PySem.W.Frag} {mg : Str → Option Value} (T : Env K mg) : PySem.W.keepIn K (.ref (He.ga K "told_days")) = true := let ⟨_, F⟩ := T.f_told_days; F.kp
theorem Env.k_want_till {K : PySem.W.Frag} {mg : Str → Option Value} (T : Env K mg) : PySem.W.keepIn K (.ref (He.ga K "want_till")) = true := let ⟨_, F⟩ := T.f_want_till; F.kp
theorem Env.k_is_name {K : PySem.W.Frag} {mg : Str → Option Value} (T : Env K mg) : PySem.W.keepIn K (.ref (He.ga K "is_name")) = true := let ⟨_, F⟩ := T.f_is_name; F.kp
theorem Env.k_notes_of {K : PySem.W.Frag} {mg : Str → Option Value} (T : Env K mg) : PySem.W.keepIn K (.ref (He.ga K "notes_of")) = true := let ⟨_, F⟩ := T.f_notes_of; F.kp
theorem Env.k_is_number {K : PySem.W.Frag} {mg : Str → Option Value} (T : Env K mg) : PySem.W.keepIn K (.ref (He.ga K "is_number")) = true := let ⟨_, F⟩ := T.f_is_number; F.kp
theorem Env.k_all_rising {K : PySem.W.Frag} {mg : Str → Option Value} (T : Env K mg) : PySem.W.keepIn K (.ref (He.ga K "all_rising")) = true := let ⟨_, F⟩ := T.f_all_rising; F.kp
theorem Env.k_shorts_in {K : PySem.W.Frag} {mg : Str → Option Value} (T : Env K mg) : PySem.W.keepIn K (.ref (He.ga K "shorts_in")) = true := let ⟨_, F⟩ := T.f_shorts_in; F.kp
theorem Env.k_row_moments {K : PySem.W.Frag} {mg : Str → Option Value} (T : Env K mg) : PySem.W.keepIn K (.ref (He.ga K "row_moments")) = true := let ⟨_, F⟩ := T.f_row_moments; F.kp
theorem Env.k_row_many {K : PySem.W.Frag} {mg : Str → Option Value} (T : Env K mg) : PySem.W.keepIn K (.ref (He.ga K "row_many")) = true := let ⟨_, F⟩ := T.f_row_many; F.kp
theorem Env.k_want {K : PySem.W.Frag} {mg : Str → Option Value} (T : Env K mg) : PySem.W.keepIn K (.ref (He.ga K "want")) = true := let ⟨_, F⟩ := T.f_want; F.kp
theorem Env.k_want_card {K : PySem.W.Frag} {mg : Str → Option Value} (T : Env K mg) : PySem.W.keepIn K (.ref (He.ga K "want_card")) = true := let ⟨_, F⟩ := T.f_want_card; F.kp
theorem Env.k_want_known {K : PySem.W.Frag} {mg : Str → Option Value} (T : Env K mg) : PySem.W.keepIn K (.ref (He.ga K "want_known")) = true := let ⟨_, F⟩ := T.f_want_known; F.kp
theorem Env.k_goings_within {K : PySem.W.Frag} {mg : Str → Option Value} (T : Env K mg) : PySem.W.keepIn K (.ref (He.ga K "goings_within")) = true := let ⟨_, F⟩ := T.f_goings_within; F.kp
theorem Env.k_going_at {K : PySem.W.Frag} {mg : Str → Option Value} (T : Env K mg) : PySem.W.keepIn K (.ref (He.ga K "going_at")) = true := let ⟨_, F⟩ := T.f_going_at; F.kp
theorem Env.k_goings_on {K : PySem.W.Frag} {mg : Str → Option Value} (T : Env K mg) : PySem.W.keepIn K (.ref (He.ga K "goings_on")) = true := let ⟨_, F⟩ := T.f_goings_on; F.kp
theorem Env.k__law_pot {K : PySem.W.Frag} {mg : Str → Option Value} (T : Env K mg) : PySem.W.keepIn K (.ref (He.ga K "_law_pot")) = true := let ⟨_, F⟩ := T.f__law_pot; F.kp
theorem Env.k__law_take {K : PySem.W.Frag} {mg : Str → Option Value} (T : Env K mg) : PySem.W.keepIn K (.ref (He.ga K "_law_take")) = true := let ⟨_, F⟩ := T.f__law_take; F.kp
theorem Env.k__law_name {K : PySem.W.Frag} {mg : Str → Option Value} (T : Env K mg) : PySem.W.keepIn K (.ref (He.ga K "_law_name")) = true := let ⟨_, F⟩ := T.f__law_name; F.kp
theorem Env.k__law_word {K : PySem.W.Frag} {mg : Str → Option Value} (T : Env K mg) : PySem.W.keepIn K (.ref (He.ga K "_law_word")) = true := let ⟨_, F⟩ := T.f__law_word; F.kp
theorem Env.k__law_done {K : PySem.W.Frag} {mg : Str → Option Value} (T : Env K mg) : PySem.W.keepIn K (.ref (He.ga K "_law_done")) = true := let ⟨_, F⟩ := T.f__law_done; F.kp
theorem Env.k__law_tried {K : PySem.W.Frag} {mg : Str → Option Value} (T : Env K mg) : PySem.W.keepIn K (.ref (He.ga K "_law_tried")) = true := let ⟨_, F⟩ := T.f__law_tried; F.kp
theorem Env.k__law_all {K : PySem.W.Frag} {mg : Str → Option Value} (T : Env K mg) : PySem.W.keepIn K (.ref (He.ga K "_law_all")) = true := let ⟨_, F⟩ := T.f__law_all; F.kp
theorem Env.k__law_no_leaves {K : PySem.W.Frag} {mg : Str → Option Value} (T : Env K mg) : PySem.W.keepIn K (.ref (He.ga K "_law_no_leaves")) = true := let ⟨_, F⟩ := T.f__law_no_leaves; F.kp
theorem Env.k__law_no_others {K : PySem.W.Frag} {mg : Str → Option Value} (T : Env K mg) : PySem.W.keepIn K (.ref (He.ga K "_law_no_others")) = true := let ⟨_, F⟩ := T.f__law_no_others; F.kp
theorem Env.k__law_no_moments {K : PySem.W.Frag} {mg : Str → Option Value} (T : Env K mg) : PySem.W.keepIn K (.ref (He.ga K "_law_no_moments")) = true := let ⟨_, F⟩ := T.f__law_no_moments; F.kp
theorem Env.k__law_around {K : PySem.W.Frag} {mg : Str → Option Value} (T : Env K mg) : PySem.W.keepIn K (.ref (He.ga K "_law_around")) = true := let ⟨_, F⟩ := T.f__law_around; F.kp
theorem Env.k__law_sizes_right {K : PySem.W.Frag} {mg : Str → Option Value} (T : Env K mg) : PySem.W.keepIn K (.ref (He.ga K "_law_sizes_right")) = true := let ⟨_, F⟩ := T.f__law_sizes_right; F.kp
theorem Env.k__law_often_right {K : PySem.W.Frag} {mg : Str → Option Value} (T : Env K mg) : PySem.W.keepIn K (.ref (He.ga K "_law_often_right")) = true := let ⟨_, F⟩ := T.f__law_often_right; F.kp
section
def sp_is_whole (K : PySem.W.Frag) : Sp := fun vs H Q _ => ∃ x, vs = [x] ∧ Cl K H x ∧ Q (.bl (isW x)) H
theorem fb_is_whole {P : Program} {w : World} {K : PySem.W.Frag} {mg : Str → Option Value} {base : Heap} (T : Env K mg) : ∃ fd, FunD K "is_whole" "is_whole" (defArgs s_is_whole) (defBody s_is_whole) (defScope s_is_whole) [] [] (He.ga K "is_whole") fd ∧ Fb P w K mg base 1 (He.ga K "is_whole") fd ["thing"] (sp_is_whole K) := by
  obtain ⟨fd, F⟩ := T.f_is_whole
  refine ⟨fd, F, fb_of F sc_is_whole (fun vs H Q E h => ?_) (fun cdv A outer s H vs Q E hr h => ?_)⟩
  · obtain ⟨x, rfl, _⟩ := h
    rfl
  · obtain ⟨x, rfl, ⟨t, b, c, ty, h1, h2, e⟩, q⟩ := h
    refine ⟨_, (pss_one (ps_ret (pe_and (pe_callB call_isi (by rfl) T.n_isinstance (by decide +kernel) (pa_cons (pv 0) (pa_cons (pe_bltn (v := .ty "int") (by rfl) T.n_int (by decide +kernel) rfl) pa_nil))) (pe_one (pe_not (pe_callB call_isi (by rfl) T.n_isinstance (by decide +kernel) (pa_cons (pv 0) (pa_cons (pe_bltn (v := .ty "bool") (by rfl) T.n_bool (by decide +kernel) rfl) pa_nil)))))))), ?_⟩
    refine ⟨x, rfl, x, .ty "int", t, _, b, rfl, .ty "int", ty, h1, b, rfl, ?_⟩
    rw [e] at q
    cases b with
    | false => exact q
    | true => exact ⟨x, rfl, x, .ty "bool", t, _, c, rfl, .ty "bool", ty, h2, c, rfl, q⟩
theorem ok_is_whole {P : Program} {w : World} {K : PySem.W.Frag} {mg : Str → Option Value} {base : Heap} (T : Env K mg) : Fc P w K mg base 1 (He.ga K "is_whole") [] (sp_is_whole K ) := by
  obtain ⟨fd, D, F⟩ := fb_is_whole T
  exact F.all (D.bindsN fun _ _ _ _ _ _ us hl => match us, hl with | [_], _ => rfl)
end
section
def sp_is_moment (K : PySem.W.Frag) : Sp := fun vs H Q _ => ∃ x, vs = [x] ∧ Cl K H x ∧ Q (.bl (isM x)) H
theorem fb_is_moment {P : Program} {w : World} {K : PySem.W.Frag} {mg : Str → Option Value} {base : Heap} (T : Env K mg) : ∃ fd, FunD K "is_moment" "is_moment" (defArgs s_is_moment) (defBody s_is_moment) (defScope s_is_moment) [] [] (He.ga K "is_moment") fd ∧ Fb P w K mg base 2 (He.ga K "is_moment") fd ["thing"] (sp_is_moment K) := by
  obtain ⟨fd, F⟩ := T.f_is_moment
  refine ⟨fd, F, fb_of F sc_is_moment (fun vs H Q E h => ?_) (fun cdv A outer s H vs Q E hr h => ?_)⟩
  · obtain ⟨x, rfl, _⟩ := h
    rfl
  · obtain ⟨x, rfl, cl, q⟩ := h
    refine ⟨_, (pss_one (ps_ret (pe_and (c_call (ok_is_whole T) (hr.mono (by decide)) T.g_is_whole T.k_is_whole takes0 (pa_cons (pv 0) pa_nil)) (pe_one (pe_cmpR op_ge (pv 0) pe_int (nomark _)))))), ?_⟩
    refine ⟨x, rfl, x, rfl, cl, isW x, rfl, ?_⟩
    cases x with
    | int i => exact ⟨_, rfl, i, 0, rfl, rfl, q⟩
    | _ => exact q
theorem ok_is_moment {P : Program} {w : World} {K : PySem.W.Frag} {mg : Str → Option Value} {base : Heap} (T : Env K mg) : Fc P w K mg base 2 (He.ga K "is_moment") [] (sp_is_moment K ) := by
  obtain ⟨fd, D, F⟩ := fb_is_moment T
  exact F.all (D.bindsN fun _ _ _ _ _ _ us hl => match us, hl with | [_], _ => rfl)
end
section
def sp_want_moment (K : PySem.W.Frag) : Sp := fun vs H Q E => ∃ x, vs = [x] ∧ Cl K H x ∧ (isM x = true → Q .non H) ∧ (isM x = false → E (.ref (He.ga K "NoTime")) none H)
theorem fb_want_moment {P : Program} {w : World} {K : PySem.W.Frag} {mg : Str → Option Value} {base : Heap} (T : Env K mg) : ∃ fd, FunD K "want_moment" "want_moment" (defArgs s_want_moment) (defBody s_want_moment) (defScope s_want_moment) [] [] (He.ga K "want_moment") fd ∧ FbN P w K mg base 3 (He.ga K "want_moment") fd ["thing"] (sp_want_moment K) := by
  obtain ⟨fd, F⟩ := T.f_want_moment
  refine ⟨fd, F, fbN_of F sc_want_moment (fun vs H Q E h => ?_) (fun cdv A outer s H vs Q E hr h => ?_)⟩
  · obtain ⟨x, rfl, _⟩ := h
    rfl
  · obtain ⟨x, rfl, cl, q, qe⟩ := h
    refine ⟨_, (pss_one (ps_if (pt_not (pt_val (c_call (ok_is_moment T) (hr.mono (by decide)) T.g_is_moment T.k_is_moment takes0 (pa_cons (pv 0) pa_nil))))
      (pss_one (L2N.ps_raise rfl (L2N.takes_of rfl rfl rfl rfl) (L2N.pmk_own PySem.F.excBase_ValueError T.x_NoTime.x T.g_NoTime T.x_NoTime.kp (raises_own T.x_NoTime.sub T.x_NoTime.ty) rfl)))
      pss_nil)), ?_⟩
    refine ⟨x, rfl, x, rfl, cl, isM x, rfl, ?_⟩
    cases e : isM x with
    | true => exact q e
    | false => exact qe e
theorem okN_want_moment {P : Program} {w : World} {K : PySem.W.Frag} {mg : Str → Option Value} {base : Heap} (T : Env K mg) : FcN P w K mg base 3 (He.ga K "want_moment") [] (sp_want_moment K ) := by
  obtain ⟨fd, D, F⟩ := fb_want_moment T
  exact F.all (D.bindsN fun _ _ _ _ _ _ us hl => match us, hl with | [_], _ => rfl)
theorem ok_want_moment {P : Program} {w : World} {K : PySem.W.Frag} {mg : Str → Option Value} {base : Heap} (T : Env K mg) : Fc P w K mg base 3 (He.ga K "want_moment") [] (sp_want_moment K ) := (okN_want_moment T).fc
end
section
def sp_want_day (K : PySem.W.Frag) : Sp := fun vs H Q E => ∃ x, vs = [x] ∧ Cl K H x ∧ (isM x = true → Q .non H) ∧ (isM x = false → E (.ref (He.ga K "NoDays")) none H)
theorem fb_want_day {P : Program} {w : World} {K : PySem.W.Frag} {mg : Str → Option Value} {base : Heap} (T : Env K mg) : ∃ fd, FunD K "want_day" "want_day" (defArgs s_want_day) (defBody s_want_day) (defScope s_want_day) [] [] (He.ga K "want_day") fd ∧ Fb P w K mg base 3 (He.ga K "want_day") fd ["thing"] (sp_want_day K) := by
  obtain ⟨fd, F⟩ := T.f_want_day
  refine ⟨fd, F, fb_of F sc_want_day (fun vs H Q E h => ?_) (fun cdv A outer s H vs Q E hr h => ?_)⟩
  · obtain ⟨x, rfl, _⟩ := h
    rfl
  · obtain ⟨x, rfl, c, q, qe⟩ := h
    refine ⟨_, (pss_one (ps_if (pt_not (pt_val (c_call (ok_is_moment T) (hr.mono (by decide)) T.g_is_moment T.k_is_moment (takes_of rfl rfl rfl rfl) (pa_cons (pv 0) pa_nil))))
      (pss_one (ps_raise rfl (takes_of rfl rfl rfl rfl) (pmk_own PySem.F.excBase_ValueError T.x_NoDays.x T.g_NoDays T.x_NoDays.kp (raises_own T.x_NoDays.sub T.x_NoDays.ty) rfl)))
      pss_nil)), ?_⟩
    refine ⟨_, rfl, x, rfl, c, _, rfl, ?_⟩
    cases e : isM x with
    | true => exact q e
    | false => exact qe e
theorem ok_want_day {P : Program} {w : World} {K : PySem.W.Frag} {mg : Str → Option Value} {base : Heap} (T : Env K mg) : Fc P w K mg base 3 (He.ga K "want_day") [] (sp_want_day K ) := by
  obtain ⟨fd, D, F⟩ := fb_want_day T
  exact F.all (D.bindsN fun _ _ _ _ _ _ us hl => match us, hl with | [_], _ => rfl)
end
section
/-- the signs of a ring -/
def sgn (l : List Nat) : Bool := decide (1 ≤ l.length ∧ l.length ≤ 7) && l.all fun c => c == 48 || c == 49
theorem sgn_in (c : Nat) : inV (.str ⟨#[c]⟩) [.str (Str.ofString "0"), .str (Str.ofString "1")] = (c == 48 || c == 49) := by
  have e : ∀ d : Nat, eqV (.str (SX.S [d])) (.str ⟨#[c]⟩) = (c == d) := fun d => by
    show decide ((SX.S [d]) = SX.S [c]) = (c == d)
    by_cases h : c = d
    · rw [h]
      simp
    · rw [decide_eq_false (fun z => h (by have w : [d] = [c] := SX.S_inj z; injection w with w; exact w.symm))]
      exact (beq_eq_false_iff_ne.mpr h).symm
  show (eqV (.str (SX.S [48])) (.str ⟨#[c]⟩) || (eqV (.str (SX.S [49])) (.str ⟨#[c]⟩) || false)) = _
  rw [e, e, Bool.or_false]
def sp_are_signs (K : PySem.W.Frag) : Sp := fun vs H Q _ => ∃ x, vs = [x] ∧ ((∃ l : List Nat, x = .str (SX.S l) ∧ l.length ≤ 600 ∧ ∀ H', Ex H H' → Q (.bl (sgn l)) H') ∨ (∃ t, TyX K H x t ∧ PySem.W.kitOne K t (.type "str") = some false ∧ Q (.bl false) H))
theorem fb_are_signs {P : Program} {w : World} {K : PySem.W.Frag} {mg : Str → Option Value} {base : Heap} (T : Env K mg) : ∃ fd, FunD K "are_signs" "are_signs" (defArgs s_are_signs) (defBody s_are_signs) (defScope s_are_signs) [] [] (He.ga K "are_signs") fd ∧ Fb P w K mg base 1 (He.ga K "are_signs") fd ["thing"] (sp_are_signs K) := by
  obtain ⟨fd, F⟩ := T.f_are_signs
  refine ⟨fd, F, fb_of F sc_are_signs (fun vs H Q E h => ?_) (fun cdv A outer s H vs Q E hr h => ?_)⟩
  · obtain ⟨x, rfl, _⟩ := h
    rfl
  · obtain ⟨x, rfl, h⟩ := h
    refine ⟨_, (pss_cons (ps_if (PW.pt (pw_or (pt_not (pt_val (pe_callB call_isi (by rfl) T.n_isinstance (by decide +kernel) (pa_cons (pv 0) (pa_cons (pe_bltn (v := .ty "str") (by rfl) T.n_str (by decide +kernel) rfl) pa_nil))))) (pw_or1 (pt_not (pt_chain op_le op_le pe_int (pe_callB call_len (by rfl) T.n_len (by decide +kernel) (pa_cons (pv 0) pa_nil)) (pe_k T.v_MOST_SIGNS))))))
      (pss_one (ps_ret pe_bl))
      pss_nil)
      (pss_one (ps_ret (pe_callB (cr_all rfl) (by rfl) T.n_all (by decide +kernel) (pa_cons (pe_lc (own := [("sign", 1)]) (by rfl) sc_are_signs.nd (pi_str (pv 0)) (blkOk_by (own := [("sign", 1)]) (N := ["thing", "sign"]) (sc := defScope s_are_signs) (by decide +kernel)) (fun _ _ _ _ _ => (pg_name (i := 1) sc_are_signs.nd rfl (Or.inl rfl))) (fun _ _ _ _ _ => pts_nil) (fun _ _ _ _ _ => (pe_cmpR (op_in_seqK K) (pv 1) (pe_tup (pa_cons (pe_k T.v_NOUGHT) (pa_cons (pe_k T.v_ONE) pa_nil))) (by rfl)))) pa_nil))))), ?_⟩
    rcases h with ⟨l, rfl, hl, q⟩ | ⟨t, ty, kt, q⟩
    · have ls : (SX.S l).length ≤ sizeLine := Nat.le_of_lt (small_len (by rw [SX.S_len]; omega))
      refine ⟨_, rfl, .str (SX.S l), .ty "str", _, _, true, rfl, .ty "str", .base (.str _), kit_ty (by decide +kernel), true, rfl, iteF ?_⟩
      refine ⟨_, rfl, _, l.length, rfl, ⟨ls, (SX.S_len l).symm⟩, _, _, rfl, rfl, _, rfl, ?_⟩
      by_cases h1 : 1 ≤ l.length
      · rw [decide_eq_true (show (1 : Int) ≤ (l.length : Nat) by omega)]
        refine ⟨_, _, rfl, rfl, _, rfl, ?_⟩
        by_cases h7 : l.length ≤ 7
        · rw [decide_eq_true (show ((l.length : Nat) : Int) ≤ 7 by omega)]
          refine iteF ?_
          refine ⟨_, rfl, _, rfl, fun D nD => lc_fm L2.walk_str (fun i => some (.bl (l.getD i 0 == 48 || l.getD i 0 == 49))) (fun H' => Ex H H') (fun H' z e => ex_mut e nD) (.refl H) (by show l.toArray.size ≤ 100000; simp; omega) (fun _ _ => trivial) (fun i x H1 H2 acc N hi e hD la y k => ?_) fun H1 e1 d1 => ?_⟩
          · obtain ⟨rfl, c, hc, rfl⟩ := y
            refine ⟨rfl, _, rfl, by show 2 ≤ sizeLine; decide, fun t nt => ?_⟩
            have hDt := fun o => ex_new (o := o) nt _ _ hD
            refine ⟨t, _, rfl, .inr (sq_tup upd_same), rfl, rfl, acc, hDt _, la, ?_⟩
            have e2 : l.getD i 0 = c := by
              have hc2 : l[i]? = some c := by simpa using hc
              rw [List.getD_eq_getElem?_getD, hc2]
              rfl
            have k2 := fun o => k _ (e.trans (ex_new (o := o) nt)) (hDt o)
            have e3 : inV (.str ⟨#[c]⟩) [.str (Str.ofString "0"), .str (Str.ofString "1")] = (l.getD i 0 == 48 || l.getD i 0 == 49) := by
              rw [e2]
              exact sgn_in c
            rw [← e3] at k2
            exact k2 _
          · refine ⟨D, l.map (fun c => c == 48 || c == 49), rfl, sq_lst ?_, ?_⟩
            · rw [d1]
              have e3 := range_map_get l 0 (fun c => V.bl (c == 48 || c == 49))
              have e4 : l.toArray.size = l.length := by simp
              show some (HO.lst (List.filterMap _ (List.range l.toArray.size))) = _
              rw [e4, e3, List.map_map]
              rfl
            · have e5 : (l.map fun c => c == 48 || c == 49).all id = l.all fun c => c == 48 || c == 49 := by
                rw [List.all_map]
                rfl
              rw [e5]
              have z := q H1 e1
              unfold sgn at z
              rw [decide_eq_true ⟨h1, h7⟩, Bool.true_and] at z
              exact z
        · rw [decide_eq_false (show ¬ ((l.length : Nat) : Int) ≤ 7 by omega)]
          have z := q H (.refl H)
          unfold sgn at z
          rw [decide_eq_false (fun y => h7 y.2)] at z
          exact z
      · rw [decide_eq_false (show ¬ (1 : Int) ≤ (l.length : Nat) by omega)]
        have z := q H (.refl H)
        unfold sgn at z
        rw [decide_eq_false (fun y => h1 y.1)] at z
        exact ⟨_, rfl, z⟩
    · exact ⟨_, rfl, x, .ty "str", t, _, false, rfl, .ty "str", ty, kt, false, rfl, q⟩
theorem ok_are_signs {P : Program} {w : World} {K : PySem.W.Frag} {mg : Str → Option Value} {base : Heap} (T : Env K mg) : Fc P w K mg base 1 (He.ga K "are_signs") [] (sp_are_signs K ) := by
  obtain ⟨fd, D, F⟩ := fb_are_signs T
  exact F.all (D.bindsN fun _ _ _ _ _ _ us hl => match us, hl with | [_], _ => rfl)
end
section
theorem ex_made {H : Hp} {x dx : Addr} {o1 o2 : HO} (nx : H x = none) (nd : H dx = none) (ne : dx ≠ x) : Ex H (upd (upd H dx o1) x o2) := fun b o e => by
  rw [upd_ne (ne_of_none e nx), upd_ne (ne_of_none e nd)]
  exact e
end
section
abbrev RingC (K : PySem.W.Frag) : Addr := He.ga K "Ring"
/-- at a a ring of these signs -/
def RingAt (K : PySem.W.Frag) (H : Hp) (a : Addr) (l : List Nat) : Prop := ∃ dx, H a = some (.ins (RingC K) dx [("bits", .str (SX.S l))])
def sp_Ring_init (K : PySem.W.Frag) : Sp := fun vs H Q E => ∃ a dx x, vs = [.ref a, x] ∧ H a = some (.ins (RingC K) dx []) ∧ ((∃ l : List Nat, x = .str (SX.S l) ∧ l.length ≤ 600 ∧ (sgn l = true → ∀ H', Ex H H' → Q .non (upd H' a (.ins (RingC K) dx [("bits", .str (SX.S l))]))) ∧ (sgn l = false → ∀ H', Ex H H' → E (.ref (He.ga K "NoDays")) none H')) ∨
  (∃ t, TyX K H x t ∧ PySem.W.kitOne K t (.type "str") = some false ∧ E (.ref (He.ga K "NoDays")) none H))
theorem fb_Ring_init {P : Program} {w : World} {K : PySem.W.Frag} {mg : Str → Option Value} {base : Heap} (T : Env K mg) : ∃ fd, FunD K "__init__" "Ring.__init__" (defArgs s_Ring_init) (defBody s_Ring_init) (defScope s_Ring_init) [] [] (He.ma K (He.ga K "Ring") "__init__") fd ∧ Fb P w K mg base 2 (He.ma K (He.ga K "Ring") "__init__") fd ["self", "text"] (sp_Ring_init K) := by
  obtain ⟨fd, F⟩ := T.f_Ring_init
  refine ⟨fd, F, fb_of F sc_Ring_init (fun vs H Q E h => ?_) (fun cdv A outer s H vs Q E hr h => ?_)⟩
  · obtain ⟨a, dx, x, rfl, _⟩ := h
    rfl
  · obtain ⟨a, dx, x, rfl, ha, h⟩ := h
    refine ⟨_, (pss_cons (ps_if (pt_not (pt_val (c_call (ok_are_signs T) (hr.mono (by decide)) T.g_are_signs T.k_are_signs (takes_of rfl rfl rfl rfl) (pa_cons (pv 1) pa_nil))))
      (pss_one (ps_raise rfl (takes_of rfl rfl rfl rfl) (pmk_own PySem.F.excBase_ValueError T.x_NoDays.x T.g_NoDays T.x_NoDays.kp (raises_own T.x_NoDays.sub T.x_NoDays.ty) rfl)))
      pss_nil)
      (pss_one (ps_fld (pv 0) (pv 1) rfl))), ?_⟩
    rcases h with ⟨l, rfl, hl, q, qe⟩ | ⟨t, ty, kt, qe⟩
    · refine ⟨_, rfl, _, rfl, .inl ⟨l, rfl, hl, fun H1 e1 => ⟨_, rfl, ?_⟩⟩⟩
      cases e : sgn l with
      | false => exact qe e H1 e1
      | true =>
        refine iteF ?_
        refine ⟨_, rfl, _, rfl, a, _, dx, [], rfl, e1 _ _ ha, T.c_Ring, T.a_Ring_bits, by decide, ?_⟩
        exact q e H1 e1
    · exact ⟨_, rfl, _, rfl, .inr ⟨t, ty, kt, _, rfl, qe⟩⟩
theorem ring_new {K : PySem.W.Frag} {H : Hp} {x dx : Addr} {l : List Nat} {Q : VK} {E : XK} (nx : H x = none) (nd : H dx = none) (ne : dx ≠ x) (hs : sgn l = true) (q : ∀ H', Ex H H' → RingAt K H' x l → Q .non H') :
    sp_Ring_init K [.ref x, .str (SX.S l)] (upd (upd H dx (.own x)) x (.ins (RingC K) dx [])) Q E := by
  have h7 : 1 ≤ l.length ∧ l.length ≤ 7 := of_decide_eq_true (Bool.and_eq_true_iff.mp hs).1
  refine ⟨x, dx, _, rfl, upd_same, .inl ⟨l, rfl, by omega, fun _ H' e => q _ ?_ ⟨dx, upd_same⟩, fun z => absurd (hs.symm.trans z) Bool.noConfusion⟩⟩
  exact ex_mut ((ex_made nx nd ne).trans e) nx
theorem ok_Ring_init {P : Program} {w : World} {K : PySem.W.Frag} {mg : Str → Option Value} {base : Heap} (T : Env K mg) : Fc P w K mg base 2 (He.ma K (He.ga K "Ring") "__init__") [] (sp_Ring_init K ) := by
  obtain ⟨fd, D, F⟩ := fb_Ring_init T
  exact F.all (D.bindsN fun _ _ _ _ _ _ us hl => match us, hl with | [_, _], _ => rfl)
end
section
/-- whole numbers as values -/
def natV (ns : List Nat) : List V := ns.map fun n : Nat => V.int (n : Int)
/-- in order -/
def srtN (ns : List Nat) : List Nat := (srt (ns.map fun n : Nat => (n : Int))).map Int.toNat
theorem nat_int (ns : List Nat) : natV ns = (ns.map fun n : Nat => (n : Int)).map V.int := by
  unfold natV
  rw [List.map_map]
  rfl
theorem inV_nat (d : Nat) (ns : List Nat) : inV (.int (d : Int)) (natV ns) = decide (d ∈ ns) := by
  rw [nat_int, inV_int]
  apply decide_eq_decide.mpr
  constructor
  · intro h
    obtain ⟨n, hn, e⟩ := List.mem_map.mp h
    have : n = d := by omega
    exact this ▸ hn
  · intro h
    exact List.mem_map.mpr ⟨d, h, rfl⟩
theorem flat_nat (ns : List Nat) : (natV ns).all flatV = true := by
  rw [nat_int]
  exact flat_ints _
theorem mem_srtN (d : Nat) (ns : List Nat) : decide (d ∈ srtN ns) = decide (d ∈ ns) := by
  apply decide_eq_decide.mpr
  unfold srtN
  constructor
  · intro h
    obtain ⟨i, hi, e⟩ := List.mem_map.mp h
    obtain ⟨n, hn, e2⟩ := List.mem_map.mp ((srt_perm _).subset hi)
    have : n = d := by omega
    exact this ▸ hn
  · intro h
    exact List.mem_map.mpr ⟨(d : Int), (srt_perm _).symm.subset (List.mem_map.mpr ⟨d, h, rfl⟩), by simp⟩
theorem srtN_mem (d : Nat) (ns : List Nat) : d ∈ srtN ns ↔ d ∈ ns := decide_eq_decide.mp (mem_srtN d ns)
theorem natV_len (ns : List Nat) : (natV ns).length = ns.length := by
  unfold natV
  rw [List.length_map]
theorem srtN_len (ns : List Nat) : (srtN ns).length = ns.length := by
  unfold srtN
  rw [List.length_map, (srt_perm _).length_eq, List.length_map]
theorem natV_srt (ns : List Nat) : (srt (ns.map fun n : Nat => (n : Int))).map V.int = natV (srtN ns) := by
  unfold natV srtN
  rw [List.map_map]
  apply List.map_congr_left
  intro i hi
  obtain ⟨n, _, e⟩ := List.mem_map.mp ((srt_perm _).subset hi)
  show V.int i = V.int ((i.toNat : Nat) : Int)
  rw [Int.toNat_of_nonneg (by omega)]
theorem cut1 (xs : List V) : cutV xs (some 1) none = xs.drop 1 := by
  unfold cutV
  rw [HT.sIx_none, show (some (1 : Int)) = some ((1 : Nat) : Int) from rfl, HT.sIx_nat]
  cases xs with
  | nil => rfl
  | cons x r =>
    rw [show min 1 (x :: r).length = 1 by simp]
    exact List.take_of_length_le (by simp)
end
section
/-- the days of a list that is handed in, none where they are none -/
def dayNum : V → Nat
  | .int i => i.toNat
  | _ => 0
theorem natV_isM (ns : List Nat) : (natV ns).all isM = true := by
  rw [List.all_eq_true]
  intro x hx
  obtain ⟨n, _, rfl⟩ := List.mem_map.mp hx
  exact isM_nat n
theorem natV_num (ns : List Nat) : (natV ns).map dayNum = ns := by
  unfold natV
  rw [List.map_map]
  have : (dayNum ∘ fun n : Nat => V.int (n : Int)) = id := funext fun n => by simp [dayNum]
  rw [this, List.map_id]
theorem isM_natV : ∀ {xs : List V}, xs.all isM = true → xs = natV (xs.map dayNum)
  | [], _ => rfl
  | x :: xs, h => by
    obtain ⟨h1, h2⟩ := Bool.and_eq_true_iff.mp (show (isM x && xs.all isM) = true from h)
    obtain ⟨i, rfl, i0⟩ := isM_w h1
    obtain ⟨n, rfl⟩ := Int.eq_ofNat_of_zero_le i0
    have ih := isM_natV h2
    show V.int (n : Nat) :: xs = V.int (((Int.ofNat n).toNat : Nat) : Int) :: natV (xs.map dayNum)
    rw [← ih]
    rfl
/-- neighbours that are alike -/
def alikeN (l : List Nat) : List Bool := (l.zip (l.drop 1)).map fun p => decide (p.1 = p.2)
theorem alike_any {l : List Nat} (h : l.Pairwise (· ≤ ·)) : (alikeN l).any id = !decide l.Nodup := by
  induction l with
  | nil => rfl
  | cons a l ih =>
    obtain ⟨h1, h2⟩ := List.pairwise_cons.mp h
    have ih := ih h2
    cases l with
    | nil => rfl
    | cons b r =>
      have e : alikeN (a :: b :: r) = decide (a = b) :: alikeN (b :: r) := rfl
      rw [e, List.any_cons, ih]
      by_cases c : a = b
      · have nn : ¬ (a :: b :: r).Nodup := fun z => (List.pairwise_cons.mp z).1 b List.mem_cons_self c
        rw [decide_eq_false nn, decide_eq_true c]
        rfl
      · have iff : (a :: b :: r).Nodup ↔ (b :: r).Nodup := by
          refine ⟨fun z => (List.pairwise_cons.mp z).2, fun z => List.pairwise_cons.mpr ⟨fun x hx ex => ?_, z⟩⟩
          subst ex
          have hb := h1 b List.mem_cons_self
          rcases List.mem_cons.mp hx with hx | hx
          · exact c hx
          · have := (List.pairwise_cons.mp h2).1 a hx
            omega
        rw [decide_eq_false c, show decide (a :: b :: r).Nodup = decide (b :: r).Nodup from decide_eq_decide.mpr iff]
        rfl
theorem srtN_le (ns : List Nat) : (srtN ns).Pairwise (· ≤ ·) := by
  unfold srtN
  refine List.pairwise_map.mpr ((srt_sorted _).imp fun {a b} h => ?_)
  omega
theorem srtN_nodup (ns : List Nat) : decide (srtN ns).Nodup = decide ns.Nodup := by
  apply decide_eq_decide.mpr
  have p : (srtN ns).Perm ns := by
    unfold srtN
    have := (srt_perm (ns.map fun n : Nat => (n : Int))).map Int.toNat
    rw [List.map_map] at this
    have e : (Int.toNat ∘ fun n : Nat => (n : Int)) = id := funext fun n => by simp
    rw [e, List.map_id] at this
    exact this
  exact p.nodup_iff
end
section
/-- a list of days that is handed in: None, a list, a tuple -/
def DayL (K : PySem.W.Frag) (H : Hp) (x : V) (ns : List Nat) : Prop := (x = .non ∧ ns = []) ∨ (∃ a, x = .ref a ∧ ((H a = some (.lst (natV ns))) ∨ (H a = some (.tup (natV ns)))) ∧ ns.length ≤ 8 ∧ ns.Nodup)
def dayList (xs : List V) : Option (List Nat) := if (decide (xs.length ≤ 8) && xs.all isM && decide (xs.map dayNum).Nodup) = true then some (xs.map dayNum) else none
/-- what is handed in for days, and what it tells -/
def DayG (K : PySem.W.Frag) (H : Hp) (x : V) (r : Option (List Nat)) : Prop := (x = .non ∧ r = some []) ∨ (∃ a xs, x = .ref a ∧ (H a = some (.lst xs) ∨ H a = some (.tup xs)) ∧ xs.length ≤ 10000 ∧ (∀ y ∈ xs, Cl K H y) ∧ r = dayList xs) ∨ (x ≠ .non ∧ (∃ t, TyX K H x t ∧ PySem.W.kitAny K t [.type "list", .type "tuple"] = some false) ∧ r = none)
theorem dayList_nat (ns : List Nat) : dayList (natV ns) = if decide (ns.length ≤ 8) && decide ns.Nodup then some ns else none := by
  unfold dayList
  rw [natV_isM, natV_num, natV_len, Bool.and_true]
theorem DayL.gen {K : PySem.W.Frag} {H : Hp} {x : V} {ns : List Nat} (h : DayL K H x ns) : DayG K H x (some ns) := by
  rcases h with ⟨h1, h2⟩ | ⟨a, h1, h2, h3, h4⟩
  · exact .inl ⟨h1, by rw [h2]⟩
  · refine .inr (.inl ⟨a, natV ns, h1, h2, by rw [natV_len]; omega, fun y hy => ?_, ?_⟩)
    · obtain ⟨n, _, rfl⟩ := List.mem_map.mp hy
      exact cl_int _
    · rw [dayList_nat, decide_eq_true h3, decide_eq_true h4]
      rfl
theorem DayG.mono {K : PySem.W.Frag} {H H' : Hp} {x : V} {r : Option (List Nat)} (h : DayG K H x r) (e : Ex H H') : DayG K H' x r := by
  rcases h with h | ⟨a, xs, h1, h2, h3, h4, h5⟩ | ⟨h1, ⟨t, h2, h3⟩, h4⟩
  · exact .inl h
  · exact .inr (.inl ⟨a, xs, h1, h2.imp (e _ _) (e _ _), h3, fun y hy => (h4 y hy).mono e, h5⟩)
  · exact .inr (.inr ⟨h1, ⟨t, tyX_mono e h2, h3⟩, h4⟩)
def sp_told_days (K : PySem.W.Frag) : Sp := fun vs H Q E => ∃ x r, vs = [x] ∧ DayG K H x r ∧ (∀ ns, r = some ns → ∀ p H', Ex H H' → H p = none → H' p = some (.tup (natV (srtN ns))) → Q (.ref p) H') ∧ (r = none → ∀ H', Ex H H' → E (.ref (He.ga K "NoDays")) none H')
theorem fb_told_days {P : Program} {w : World} {K : PySem.W.Frag} {mg : Str → Option Value} {base : Heap} (T : Env K mg) : ∃ fd, FunD K "told_days" "told_days" (defArgs s_told_days) (defBody s_told_days) (defScope s_told_days) [] [] (He.ga K "told_days") fd ∧ Fb P w K mg base 4 (He.ga K "told_days") fd ["thing"] (sp_told_days K) := by
  obtain ⟨fd, F⟩ := T.f_told_days
  refine ⟨fd, F, fb_of F sc_told_days (fun vs H Q E h => ?_) (fun cdv A outer s H vs Q E hr h => ?_)⟩
  · obtain ⟨x, ns, rfl, _⟩ := h
    rfl
  · obtain ⟨x, r, rfl, hx, q, qe⟩ := h
    refine ⟨_, (pss_cons (ps_if (pt_cmpR op_isN (pv 0) pe_non (nomark _))
      (pss_one (ps_ret (pe_tup pa_nil)))
      pss_nil)
      (pss_cons (ps_if (PW.pt (pw_or (pt_not (pt_val (pe_callB call_isiT (by rfl) T.n_isinstance (by decide +kernel) (pa_cons (pv 0) (pa_cons (pe_tup (pa_cons (pe_bltn (v := .ty "list") (by rfl) T.n_list (by decide +kernel) rfl) (pa_cons (pe_bltn (v := .ty "tuple") (by rfl) T.n_tuple (by decide +kernel) rfl) pa_nil))) pa_nil))))) (pw_or1 (pt_cmpR op_gt (pe_callB call_len (by rfl) T.n_len (by decide +kernel) (pa_cons (pv 0) pa_nil)) (pe_k T.v_MOST_DAYS) (nomark _)))))
      (pss_one (ps_raise rfl (takes_of rfl rfl rfl rfl) (pmk_own PySem.F.excBase_ValueError T.x_NoDays.x T.g_NoDays T.x_NoDays.kp (raises_own T.x_NoDays.sub T.x_NoDays.ty) rfl)))
      pss_nil)
      (Evl.pss_cut (ps_for (passes_of rfl) rfl (pi_seq (pv 0)) (pg_name (i := 1) sc_told_days.nd rfl (Or.inl rfl))
      (pss_one (ps_expr (c_call (ok_want_day T) (hr.mono (by decide)) T.g_want_day T.k_want_day (takes_of rfl rfl rfl rfl) (pa_cons (pv 1) pa_nil)))))
      (pss_cons (ps_set (i := 2) sc_told_days.nd rfl (Or.inl rfl) (pe_callTy call_tuple_of (by rfl) T.n_tuple (by decide +kernel) (pa_cons (pe_callB (cr_sortedA K) (by rfl) T.n_sorted (by decide +kernel) (pa_cons (pv 0) pa_nil)) pa_nil)))
      (pss_cons (ps_if (pt_val (pe_callB (cr_any rfl) (by rfl) T.n_any (by decide +kernel) (pa_cons (pe_lc (own := [("one", 3), ("other", 4)]) (by rfl) sc_told_days.nd (RZ.pi_zipA (by rfl) T.n_zip (pa_cons (pv 2) (pa_cons (pe_slice sl_tupA (pv 2) (po_some pe_int) po_none) pa_nil))) (blkOk_by (own := [("one", 3), ("other", 4)]) (N := ["thing", "day", "found", "one", "other"]) (sc := defScope s_told_days) (by decide +kernel)) (fun _ _ _ _ _ => (pg_tupK K (n := 2) rfl (pgs_cons (pg_name (i := 3) sc_told_days.nd rfl (Or.inl rfl)) (pgs_cons (pg_name (i := 4) sc_told_days.nd rfl (Or.inl rfl)) pgs_nil)))) (fun _ _ _ _ _ => pts_nil) (fun _ _ _ _ _ => (pe_cmpR op_eq (pv 3) (pv 4) (nomark _)))) pa_nil)))
      (pss_one (ps_raise rfl (takes_of rfl rfl rfl rfl) (pmk_own PySem.F.excBase_ValueError T.x_NoDays.x T.g_NoDays T.x_NoDays.kp (raises_own T.x_NoDays.sub T.x_NoDays.ty) rfl)))
      pss_nil)
      (pss_one (ps_ret (pv 2)))))))), ?_⟩
    rcases hx with ⟨rfl, rfl⟩ | ⟨a, xs, rfl, hl, lx, hc, er⟩ | ⟨nx, ⟨t, ty, kt⟩, rfl⟩
    · refine ⟨_, rfl, rfl, _, rfl, iteT ?_⟩
      refine ⟨by show 0 ≤ sizeLine; decide, fun p np => q [] rfl p _ (ex_new np) np ?_⟩
      have e : srtN [] = [] := List.eq_nil_of_length_eq_zero (by rw [srtN_len]; rfl)
      rw [upd_same, e]
      rfl
    · refine ⟨_, rfl, rfl, _, rfl, iteF ?_⟩
      refine ⟨_, rfl, by show 2 ≤ sizeLine; decide, fun tp ntp => ?_⟩
      have X1 := ex_new (o := .tup [.ty "list", .ty "tuple"]) ntp
      have ty : ∃ t, TyX K (upd H tp (.tup [.ty "list", .ty "tuple"])) (.ref a) t ∧ PySem.W.kitAny K t [.type "list", .type "tuple"] = some true := by
        rcases hl with h | h
        · exact ⟨_, .base (.lst (X1 _ _ h)), kitAny_cons (b := true) (kit_ty (by decide +kernel)) (fun z => nomatch z) (fun _ => rfl)⟩
        · exact ⟨_, .base (.tup (X1 _ _ h)), kitAny_cons (b := false) (kit_ty (by decide +kernel)) (fun _ => kitAny_cons (b := true) (kit_ty (by decide +kernel)) (fun z => nomatch z) (fun _ => rfl)) (by decide)⟩
      obtain ⟨t, ty, kt⟩ := ty
      have sq : ∀ {H' : Hp}, Ex H H' → SqL K H' a xs ∨ SqT K H' a xs := fun {H'} e => by
        rcases hl with h | h
        · exact .inl (sq_lst (e _ _ h))
        · exact .inr (sq_tup (e _ _ h))
      refine ⟨.ref a, tp, _, t, _, true, rfl, upd_same, .cons (.ty "list") (.cons (.ty "tuple") .nil), ty, kt, true, rfl, iteF ?_⟩
      refine ⟨_, rfl, _, xs.length, rfl, ?_, _, _, rfl, rfl, _, rfl, ?_⟩
      · rcases sq X1 with h | h
        · exact .inl ⟨_, h, rfl⟩
        · exact .inr ⟨_, h, rfl⟩
      by_cases l8 : 8 < xs.length
      · rw [decide_eq_true (show (8 : Int) < ((xs.length : Nat) : Int) by omega)]
        refine qe ?_ _ X1
        rw [er]
        unfold dayList
        rw [decide_eq_false (show ¬ xs.length ≤ 8 by omega)]
        rfl
      rw [decide_eq_false (show ¬ (8 : Int) < ((xs.length : Nat) : Int) by omega)]
      refine iteF ?_
      have H1d : ∀ y ∈ xs, Cl K (upd H tp (.tup [.ty "list", .ty "tuple"])) y := fun y hy => (hc y hy).mono X1
      refine ⟨fun σ' H' => H' = upd H tp (.tup [.ty "list", .ty "tuple"]) ∧ xs.all isM = true ∧ ∃ v, σ' = [some (.ref a), v, none, none, none], ?_, ?_⟩
      · have stp : ∀ (i : Nat) (x : V) (σ : L2.St) (H' : Hp) (D : Ends), xs[i]? = some x → (H' = upd H tp (.tup [.ty "list", .ty "tuple"]) ∧ (xs.take i).all isM = true ∧ ∃ v, σ = [some (.ref a), v, none, none, none]) →
            sp_want_day K [x] H' (fun _ H2 => H2 = upd H tp (.tup [.ty "list", .ty "tuple"]) ∧ (xs.take (i + 1)).all isM = true ∧ ∃ v, (σ.set 1 (some x)) = [some (.ref a), v, none, none, none]) (fun c d H' => E c d H') := fun i x σ H' D hx ⟨e1, e2, v, e3⟩ => by
          subst e1 e3
          refine ⟨x, rfl, H1d x (List.mem_of_getElem? hx), fun hm => ⟨rfl, ?_, _, rfl⟩, fun hm => qe ?_ _ X1⟩
          · rw [take_snoc hx, List.all_append, e2]
            simp [hm]
          · rw [er]
            unfold dayList
            have : xs.all isM = false := by
              rw [List.all_eq_false]
              exact ⟨x, List.mem_of_getElem? hx, by rw [hm]; decide⟩
            rw [this, Bool.and_false, Bool.false_and]
            rfl
        have fin : ∀ (σ : L2.St) (H' : Hp), (H' = upd H tp (.tup [.ty "list", .ty "tuple"]) ∧ (xs.take xs.length).all isM = true ∧ ∃ v, σ = [some (.ref a), v, none, none, none]) → H' = upd H tp (.tup [.ty "list", .ty "tuple"]) ∧ xs.all isM = true ∧ ∃ v, σ = [some (.ref a), v, none, none, none] := fun σ H' h => by
          rw [List.take_length] at h
          exact h
        rcases hl with h | h
        · refine .inl ⟨_, rfl, a, rfl, ⟨_, sq_lst (X1 _ _ h)⟩, for_list (fun i σ H' => H' = upd H tp (.tup [.ty "list", .ty "tuple"]) ∧ (xs.take i).all isM = true ∧ ∃ v, σ = [some (.ref a), v, none, none, none]) ⟨rfl, rfl, _, rfl⟩ (fun i σ H' _ e => by rw [e.1]; exact sq_lst (X1 _ _ h)) ?_ fin⟩
          intro i x σ H' hx p
          obtain ⟨e1, e2, v, e3⟩ := id p
          have := stp i x σ H' { nx := fun _ _ => True, rt := fun _ _ => True } hx p
          subst e3
          exact ⟨_, rfl, this⟩
        · refine .inr ⟨_, rfl, a, rfl, ⟨_, sq_tup (X1 _ _ h)⟩, for_tup (fun i σ H' => H' = upd H tp (.tup [.ty "list", .ty "tuple"]) ∧ (xs.take i).all isM = true ∧ ∃ v, σ = [some (.ref a), v, none, none, none]) ⟨rfl, rfl, _, rfl⟩ (fun i σ H' _ e => by rw [e.1]; exact sq_tup (X1 _ _ h)) ?_ fin⟩
          intro i x σ H' hx p
          obtain ⟨e1, e2, v, e3⟩ := id p
          have := stp i x σ H' { nx := fun _ _ => True, rt := fun _ _ => True } hx p
          subst e3
          exact ⟨_, rfl, this⟩
      rintro σ' H1 ⟨rfl, hM, v, rfl⟩
      have exs := isM_natV hM
      generalize xs.map dayNum = ns at exs
      subst exs
      rw [dayList_nat] at er
      rw [natV_len] at l8
      rw [decide_eq_true (show ns.length ≤ 8 by omega), Bool.true_and] at er
      refine ⟨_, rfl, a, ns.map (fun n : Nat => (n : Int)), rfl, by rw [← nat_int]; exact sq X1, fun p1 np1 => ?_⟩
      rw [natV_srt]
      refine ⟨p1, _, rfl, .inl ⟨sq_lst upd_same, fun l nl => ?_⟩⟩
      have X3 := (X1.trans (ex_new (o := .lst (natV (srtN ns))) np1)).trans (ex_new (o := .tup (natV (srtN ns))) nl)
      have nl0 : H l = none := ex_fresh (X1.trans (ex_new np1)) nl
      have hl3 : upd (upd (upd H tp (.tup [.ty "list", .ty "tuple"])) p1 (.lst (natV (srtN ns)))) l (.tup (natV (srtN ns))) l = some (.tup (natV (srtN ns))) := upd_same
      generalize upd (upd (upd H tp (.tup [.ty "list", .ty "tuple"])) p1 (.lst (natV (srtN ns)))) l (.tup (natV (srtN ns))) = H3 at X3 hl3 ⊢
      refine ⟨_, rfl, _, rfl, _, rfl, ?_⟩
      dsimp only [tNoPart]
      refine slA_of (sq_tup hl3) fun b2 H4 X4 hb2 => ?_
      rw [cut1] at hb2
      have ed : (natV (srtN ns)).drop 1 = natV ((srtN ns).drop 1) := by
        unfold natV
        rw [List.map_drop]
      rw [ed] at hb2
      have sl := srtN_len ns
      refine ⟨l, b2, natV (srtN ns), natV ((srtN ns).drop 1), rfl, .inr ⟨sq_tup (X4 _ _ hl3), hb2, fun D nD => lc_zip (srtN ns) ((srtN ns).drop 1) (fun n : Nat => V.int n) (fun n : Nat => V.int n) (walk_zipT rfl) (by rw [List.length_map, List.length_map]) (fun x y => some (.bl (decide (x = y)))) (fun H' => Ex H4 H') (fun H' z e => ex_mut e nD) (.refl _) (by omega) (fun H' e => ⟨sq_tup (e _ _ (X4 _ _ hl3)), ex_sqt e hb2⟩) (fun i x y u H5 acc N hx hy X5 nu hA la k => ?_) fun H5 X5 d5 => ?_⟩⟩
      · have hA2 := fun o => ex_new (o := o) nu _ _ hA
        refine ⟨u, _, rfl, sq_tup upd_same, rfl, _, _, rfl, _, _, rfl, rfl, rfl, _, rfl, _, rfl, rfl, acc, hA2 _, la, ?_⟩
        have eq : decide (V.int ((x : Nat) : Int) = V.int ((y : Nat) : Int)) = decide (x = y) := decide_eq_decide.mpr ⟨fun z => by injection z with z; omega, fun z => by rw [z]⟩
        rw [eq]
        exact k _ (X5.trans (ex_new nu)) (hA2 _)
      · have eb : ((srtN ns).zip ((srtN ns).drop 1)).filterMap (fun p => some (V.bl (decide (p.1 = p.2)))) = (alikeN (srtN ns)).map V.bl := by
          unfold alikeN
          rw [List.filterMap_eq_map', List.map_map]
          rfl
        rw [eb] at d5
        refine ⟨D, alikeN (srtN ns), rfl, sq_lst d5, ?_⟩
        rw [alike_any (srtN_le ns), srtN_nodup]
        have X := (X3.trans X4).trans X5
        by_cases nd : ns.Nodup
        · rw [decide_eq_true nd] at er ⊢
          refine ⟨false, rfl, iteF ?_⟩
          exact ⟨_, rfl, q ns er l H5 X nl0 ((X4.trans X5) _ _ hl3)⟩
        · rw [decide_eq_false nd] at er ⊢
          exact ⟨true, rfl, qe er _ X⟩
    · refine ⟨_, rfl, rfl, _, rfl, ?_⟩
      rw [decide_eq_false nx]
      refine iteF ?_
      refine ⟨_, rfl, by show 2 ≤ sizeLine; decide, fun tp ntp => ?_⟩
      have X1 := ex_new (o := .tup [.ty "list", .ty "tuple"]) ntp
      exact ⟨x, tp, _, t, _, false, rfl, upd_same, .cons (.ty "list") (.cons (.ty "tuple") .nil), tyX_mono X1 ty, kt, false, rfl, qe rfl _ X1⟩
theorem ok_told_days {P : Program} {w : World} {K : PySem.W.Frag} {mg : Str → Option Value} {base : Heap} (T : Env K mg) : Fc P w K mg base 4 (He.ga K "told_days") [] (sp_told_days K ) := by
  obtain ⟨fd, D, F⟩ := fb_told_days T
  exact F.all (D.bindsN fun _ _ _ _ _ _ us hl => match us, hl with | [_], _ => rfl)
end
section
def optV : Option Nat → V
  | none => .non
  | some n => .int (n : Int)
/-- a last day as it is told: r what it is, none where it is none -/
def TillG (K : PySem.W.Frag) (H : Hp) (x : V) (s : Nat) (r : Option (Option Nat)) : Prop := (x = .non ∧ r = some none) ∨ (x ≠ .non ∧ Cl K H x ∧ ((∃ n : Nat, x = .int n ∧ r = if s ≤ n then some (some n) else none) ∨ (isM x = false ∧ r = none)))
def sp_want_till (K : PySem.W.Frag) : Sp := fun vs H Q E => ∃ (s : Nat) (x : V) (r : Option (Option Nat)), vs = [.int s, x] ∧ TillG K H x s r ∧ (r ≠ none → Q .non H) ∧ (r = none → E (.ref (He.ga K "NoDays")) none H)
theorem fb_want_till {P : Program} {w : World} {K : PySem.W.Frag} {mg : Str → Option Value} {base : Heap} (T : Env K mg) : ∃ fd, FunD K "want_till" "want_till" (defArgs s_want_till) (defBody s_want_till) (defScope s_want_till) [] [] (He.ga K "want_till") fd ∧ Fb P w K mg base 4 (He.ga K "want_till") fd ["since", "till"] (sp_want_till K) := by
  obtain ⟨fd, F⟩ := T.f_want_till
  refine ⟨fd, F, fb_of F sc_want_till (fun vs H Q E h => ?_) (fun cdv A outer s H vs Q E hr h => ?_)⟩
  · obtain ⟨s, x, r, rfl, _⟩ := h
    rfl
  · obtain ⟨s, x, r, rfl, ht, q, qe⟩ := h
    refine ⟨_, (pss_one (ps_if (pt_cmpR op_notN (pv 1) pe_non (nomark _))
      (pss_cons (ps_expr (c_call (ok_want_day T) (hr.mono (by decide)) T.g_want_day T.k_want_day (takes_of rfl rfl rfl rfl) (pa_cons (pv 1) pa_nil)))
      (pss_one (ps_if (pt_cmpR op_lt (pv 1) (pv 0) (nomark _))
      (pss_one (ps_raise rfl (takes_of rfl rfl rfl rfl) (pmk_own PySem.F.excBase_ValueError T.x_NoDays.x T.g_NoDays T.x_NoDays.kp (raises_own T.x_NoDays.sub T.x_NoDays.ty) rfl)))
      pss_nil)))
      pss_nil)), ?_⟩
    rcases ht with ⟨rfl, rfl⟩ | ⟨nx, c, ⟨n, rfl, rfl⟩ | ⟨hm, rfl⟩⟩
    · exact ⟨_, rfl, rfl, _, rfl, q (by simp)⟩
    · refine ⟨_, rfl, rfl, _, rfl, ?_⟩
      refine ⟨_, rfl, _, rfl, cl_int _, fun _ => ?_, isM_no⟩
      refine ⟨_, rfl, _, rfl, _, _, rfl, rfl, _, rfl, ?_⟩
      by_cases c1 : s ≤ n
      · rw [decide_eq_false (show ¬ ((n : Nat) : Int) < ((s : Nat) : Int) by omega)]
        exact q (by rw [if_pos c1]; simp)
      · rw [decide_eq_true (show ((n : Nat) : Int) < ((s : Nat) : Int) by omega)]
        exact qe (if_neg c1)
    · refine ⟨_, rfl, rfl, _, rfl, ?_⟩
      rw [decide_eq_false nx]
      refine iteT ?_
      exact ⟨_, rfl, x, rfl, c, fun e => absurd (hm.symm.trans e) (by decide), fun _ => qe rfl⟩
theorem ok_want_till {P : Program} {w : World} {K : PySem.W.Frag} {mg : Str → Option Value} {base : Heap} (T : Env K mg) : Fc P w K mg base 4 (He.ga K "want_till") [] (sp_want_till K ) := by
  obtain ⟨fd, D, F⟩ := fb_want_till T
  exact F.all (D.bindsN fun _ _ _ _ _ _ us hl => match us, hl with | [_, _], _ => rfl)
end
section
abbrev DaysC (K : PySem.W.Frag) : Addr := He.ga K "Days"
structure DaysD where
  bits : List Nat
  since : Nat
  till : Option Nat
  out : List Nat
  also : List Nat
def DaysD.ok (D : DaysD) : Prop := sgn D.bits = true ∧ (∀ u, D.till = some u → D.since ≤ u) ∧ D.out.length ≤ 8 ∧ D.also.length ≤ 8 ∧ D.out.Nodup ∧ D.also.Nodup ∧ ∀ n ∈ D.also, n ∉ D.out
def dayF (r po pa : Addr) (D : DaysD) : List (Str × V) := [("ring", .ref r), ("since", .int (D.since : Nat)), ("till", optV D.till), ("out", .ref po), ("also", .ref pa)]
/-- at a Days of these -/
def DaysAt (K : PySem.W.Frag) (H : Hp) (a : Addr) (D : DaysD) : Prop := ∃ dx r po pa, H a = some (.ins (DaysC K) dx (dayF r po pa D)) ∧ RingAt K H r D.bits ∧ H po = some (.tup (natV (srtN D.out))) ∧ H pa = some (.tup (natV (srtN D.also)))
theorem DayL.keep {K : PySem.W.Frag} {H H' : Hp} {x : V} {ns : List Nat} (h : DayL K H x ns) (k : ∀ b o, (∀ C d f, o ≠ .ins C d f) → H b = some o → H' b = some o) : DayL K H' x ns := by
  rcases h with h | ⟨a, rfl, h | h, r⟩
  · exact .inl h
  · exact .inr ⟨a, rfl, .inl (k _ _ (fun _ _ _ z => by cases z) h), r⟩
  · exact .inr ⟨a, rfl, .inr (k _ _ (fun _ _ _ z => by cases z) h), r⟩
theorem RingAt.mono {K : PySem.W.Frag} {H H' : Hp} {a : Addr} {l : List Nat} (h : RingAt K H a l) (e : Ex H H') : RingAt K H' a l := let ⟨dx, h⟩ := h; ⟨dx, e _ _ h⟩
theorem DaysAt.mono {K : PySem.W.Frag} {H H' : Hp} {a : Addr} {D : DaysD} (h : DaysAt K H a D) (e : Ex H H') : DaysAt K H' a D := let ⟨dx, r, po, pa, h1, h2, h3, h4⟩ := h; ⟨dx, r, po, pa, e _ _ h1, h2.mono e, e _ _ h3, e _ _ h4⟩
/-- what is handed in for a ring -/
def RingG (K : PySem.W.Frag) (H : Hp) (x : V) (r : Option (List Nat)) : Prop := (∃ a l, x = .ref a ∧ RingAt K H a l ∧ sgn l = true ∧ r = some l) ∨ (∃ t, TyX K H x t ∧ PySem.W.kitOne K t (.ref (RingC K)) = some false ∧ r = none)
/-- what Days are made of, and what becomes of it -/
def DaysArg (K : PySem.W.Frag) (H : Hp) (xr xs xt xo xa : V) (R : Option DaysD) : Prop := ∃ rb, RingG K H xr rb ∧ (rb = none ∧ R = none ∨ ∃ bits, rb = some bits ∧ Cl K H xs ∧ (isM xs = false ∧ R = none ∨ ∃ s : Nat, xs = .int s ∧ ∃ rt, TillG K H xt s rt ∧ (rt = none ∧ R = none ∨ ∃ t, rt = some t ∧
  ∃ ro, DayG K H xo ro ∧ (ro = none ∧ R = none ∨ ∃ o, ro = some o ∧ ∃ ra, DayG K H xa ra ∧ (ra = none ∧ R = none ∨ ∃ al, ra = some al ∧ R = if (al.any fun d => decide (d ∈ o)) = true then none else some ⟨bits, s, t, o, al⟩)))))
theorem TillG.mono {K : PySem.W.Frag} {H H' : Hp} {x : V} {s : Nat} {r : Option (Option Nat)} (h : TillG K H x s r) (e : Ex H H') : TillG K H' x s r := by
  rcases h with h | ⟨h1, h2, h3⟩
  · exact .inl h
  · exact .inr ⟨h1, h2.mono e, h3⟩
theorem TillG.val {K : PySem.W.Frag} {H : Hp} {x : V} {s : Nat} {t : Option Nat} (h : TillG K H x s (some t)) : x = optV t ∧ ∀ u, t = some u → s ≤ u := by
  rcases h with ⟨h1, h2⟩ | ⟨h1, h2, ⟨n, h3, h4⟩ | ⟨h3, h4⟩⟩
  · cases h2
    exact ⟨h1, fun u hu => by cases hu⟩
  · by_cases c : s ≤ n
    · rw [if_pos c] at h4
      cases h4
      exact ⟨h3, fun u hu => by cases hu; exact c⟩
    · rw [if_neg c] at h4
      cases h4
  · cases h4
theorem DayG.ok {K : PySem.W.Frag} {H : Hp} {x : V} {o : List Nat} (h : DayG K H x (some o)) : o.length ≤ 8 ∧ o.Nodup := by
  rcases h with ⟨_, h2⟩ | ⟨a, xs, h1, h2, h3, h4, h5⟩ | ⟨_, _, h4⟩
  · cases h2
    exact ⟨by decide, List.nodup_nil⟩
  · unfold dayList at h5
    split at h5
    · rename_i c
      cases h5
      obtain ⟨c1, c2⟩ := Bool.and_eq_true_iff.mp c
      obtain ⟨c3, c4⟩ := Bool.and_eq_true_iff.mp c1
      exact ⟨by rw [List.length_map]; exact of_decide_eq_true c3, of_decide_eq_true c2⟩
    · cases h5
  · cases h4
theorem DaysArg.ok {K : PySem.W.Frag} {H : Hp} {xr xs xt xo xa : V} {D : DaysD} (h : DaysArg K H xr xs xt xo xa (some D)) : D.ok := by
  obtain ⟨rb, h1, h⟩ := h
  rcases h with ⟨_, h⟩ | ⟨bits, rfl, _, h⟩
  · cases h
  rcases h with ⟨_, h⟩ | ⟨s, _, rt, h2, h⟩
  · cases h
  rcases h with ⟨_, h⟩ | ⟨t, rfl, ro, h3, h⟩
  · cases h
  rcases h with ⟨_, h⟩ | ⟨o, rfl, ra, h4, h⟩
  · cases h
  rcases h with ⟨_, h⟩ | ⟨al, rfl, h⟩
  · cases h
  split at h
  · cases h
  · rename_i c
    cases h
    have hs : sgn bits = true := by
      rcases h1 with ⟨a, l, _, _, h5, h6⟩ | ⟨_, _, _, h6⟩
      · cases h6
        exact h5
      · cases h6
    refine ⟨hs, h2.val.2, h3.ok.1, h4.ok.1, h3.ok.2, h4.ok.2, fun n hn ho => c ?_⟩
    exact List.any_eq_true.mpr ⟨n, hn, decide_eq_true ho⟩
def sp_Days_init (K : PySem.W.Frag) : Sp := fun vs H Q E => ∃ a dx xr xs xt xo xa R H0, vs = [.ref a, xr, xs, xt, xo, xa] ∧ H a = some (.ins (DaysC K) dx []) ∧ H0 a = none ∧ Ex H0 H ∧ DaysArg K H0 xr xs xt xo xa R ∧ (∀ D, R = some D → ∀ H', Oth a H H' → DaysAt K H' a D → Q .non H') ∧ (R = none → ∀ H', Oth a H H' → E (.ref (He.ga K "NoDays")) none H')
theorem fb_Days_init {P : Program} {w : World} {K : PySem.W.Frag} {mg : Str → Option Value} {base : Heap} (T : Env K mg) : ∃ fd, FunD K "__init__" "Days.__init__" (defArgs s_Days_init) (defBody s_Days_init) (defScope s_Days_init) [.int (0), .non, .non, .non] [] (He.ma K (He.ga K "Days") "__init__") fd ∧ Fb P w K mg base 5 (He.ma K (He.ga K "Days") "__init__") fd ["self", "ring", "since", "till", "out", "also"] (sp_Days_init K) := by
  obtain ⟨fd, F⟩ := T.f_Days_init
  refine ⟨fd, F, fb_of F sc_Days_init (fun vs H Q E h => ?_) (fun cdv A outer s H vs Q E hr h => ?_)⟩
  · obtain ⟨a, dx, xr, xs, xt, xo, xa, R, H0, rfl, _⟩ := h
    rfl
  · obtain ⟨a, dx, xr, xs, xt, xo, xa, R, H0, rfl, ha, na0, X0, hA, q, qe⟩ := h
    refine ⟨_, (pss_cons (ps_if (pt_not (pt_val (pe_callB call_isi (by rfl) T.n_isinstance (by decide +kernel) (pa_cons (pv 1) (pa_cons (pe_glob (v := .ref _) (by rfl) T.g_Ring rfl) pa_nil)))))
      (pss_one (ps_raise rfl (takes_of rfl rfl rfl rfl) (pmk_own PySem.F.excBase_ValueError T.x_NoDays.x T.g_NoDays T.x_NoDays.kp (raises_own T.x_NoDays.sub T.x_NoDays.ty) rfl)))
      pss_nil)
      (pss_cons (ps_expr (c_call (ok_want_day T) (hr.mono (by decide)) T.g_want_day T.k_want_day (takes_of rfl rfl rfl rfl) (pa_cons (pv 2) pa_nil)))
      (pss_cons (ps_expr (c_call (ok_want_till T) (hr.mono (by decide)) T.g_want_till T.k_want_till (takes_of rfl rfl rfl rfl) (pa_cons (pv 2) (pa_cons (pv 3) pa_nil))))
      (pss_cons (ps_fld (pv 0) (pv 1) rfl)
      (pss_cons (ps_fld (pv 0) (pv 2) rfl)
      (pss_cons (ps_fld (pv 0) (pv 3) rfl)
      (pss_cons (ps_fld (pv 0) (c_call (ok_told_days T) (hr.mono (by decide)) T.g_told_days T.k_told_days (takes_of rfl rfl rfl rfl) (pa_cons (pv 4) pa_nil)) rfl)
      (pss_cons (ps_fld (pv 0) (c_call (ok_told_days T) (hr.mono (by decide)) T.g_told_days T.k_told_days (takes_of rfl rfl rfl rfl) (pa_cons (pv 5) pa_nil)) rfl)
      (pss_one (ps_if (pt_val (pe_callB (cr_any rfl) (by rfl) T.n_any (by decide +kernel) (pa_cons (pe_lc (own := [("day", 6)]) (by rfl) sc_Days_init.nd (pi_tup (pe_fld (pv 0) (by rfl))) (blkOk_by (own := [("day", 6)]) (N := ["self", "ring", "since", "till", "out", "also", "day"]) (sc := defScope s_Days_init) (by decide +kernel)) (fun _ _ _ _ _ => (pg_name (i := 6) sc_Days_init.nd rfl (Or.inl rfl))) (fun _ _ _ _ _ => pts_nil) (fun _ _ _ _ _ => (pe_cmpR (op_in_seqK K) (pv 6) (pe_fldK K (pv 0) (by rfl)) (by rfl)))) pa_nil)))
      (pss_one (ps_raise rfl (takes_of rfl rfl rfl rfl) (pmk_own PySem.F.excBase_ValueError T.x_NoDays.x T.g_NoDays T.x_NoDays.kp (raises_own T.x_NoDays.sub T.x_NoDays.ty) rfl)))
      pss_nil)))))))))), ?_⟩
    obtain ⟨rb, h1, hA⟩ := hA
    have ex0 : ∀ {H' : Hp}, Oth a H H' → Ex H0 H' := fun {H'} o => Oth.ex X0 na0 o
    rcases h1 with ⟨r, l, rfl, ⟨dr, hr3⟩, hs, rfl⟩ | ⟨t, ty, kt, rfl⟩
    · rcases hA with ⟨z, _⟩ | ⟨bits, e, cs, hA⟩
      · cases z
      cases e
      refine ⟨_, rfl, .ref r, .ref (RingC K), _, _, true, rfl, .own _, ty_ins T.i_Ring T.c_Ring (X0 _ _ hr3), T.kit_Ring_Ring, true, rfl, iteF ?_⟩
      rcases hA with ⟨hm, rfl⟩ | ⟨s, rfl, rt, h2, hA⟩
      · exact ⟨_, rfl, xs, rfl, cs.mono X0, fun e => absurd (hm.symm.trans e) (by decide), fun _ => qe rfl H (Oth.refl _ _)⟩
      refine ⟨_, rfl, _, rfl, cl_int _, fun _ => ?_, isM_no⟩
      rcases hA with ⟨rfl, rfl⟩ | ⟨t, rfl, ro, h3, hA⟩
      · exact ⟨_, rfl, _, rfl, s, xt, none, rfl, h2.mono X0, fun z => absurd rfl z, fun _ => qe rfl H (Oth.refl _ _)⟩
      refine ⟨_, rfl, _, rfl, s, xt, some t, rfl, h2.mono X0, fun _ => ?_, fun z => nomatch z⟩
      obtain ⟨rfl, ht⟩ := h2.val
      refine ⟨_, rfl, _, rfl, a, _, dx, [], rfl, ha, T.c_Days, T.a_Days_ring, by decide, ?_⟩
      refine ⟨_, rfl, _, rfl, a, _, dx, _, rfl, upd_same, T.c_Days, T.a_Days_since, Nat.le_of_ble_eq_true rfl, ?_⟩
      refine ⟨_, rfl, _, rfl, a, _, dx, _, rfl, upd_same, T.c_Days, T.a_Days_till, Nat.le_of_ble_eq_true rfl, ?_⟩
      rw [upd_upd, upd_upd]
      have O3 := fun o => (Oth.refl a H).upd (o := o)
      rcases hA with ⟨rfl, rfl⟩ | ⟨o, rfl, ra, h4, hA⟩
      · exact ⟨_, rfl, xo, none, rfl, h3.mono (ex0 (O3 _)), (fun ns z => nomatch z), fun _ H4 X4 => qe rfl H4 ((O3 _).trans (ex_oth X4))⟩
      refine ⟨_, rfl, xo, some o, rfl, h3.mono (ex0 (O3 _)), fun ns ens po H4 X4 npo hpo => ?_, fun z => nomatch z⟩
      cases ens
      have O4 := (O3 _).trans (ex_oth X4)
      have ha4 := X4 _ _ upd_same
      refine ⟨_, rfl, a, _, dx, _, rfl, ha4, T.c_Days, T.a_Days_out, Nat.le_of_ble_eq_true rfl, ?_⟩
      have poa : po ≠ a := fun z => by
        rw [z, upd_same] at npo
        cases npo
      have O5 := fun o => O4.upd (o := o)
      rcases hA with ⟨rfl, rfl⟩ | ⟨al, rfl, eR⟩
      · exact ⟨_, rfl, xa, none, rfl, h4.mono (ex0 (O5 _)), (fun ns z => nomatch z), fun _ H6 X6 => qe rfl H6 ((O5 _).trans (ex_oth X6))⟩
      refine ⟨_, rfl, xa, some al, rfl, h4.mono (ex0 (O5 _)), fun ns ens pa H6 X6 npa hpa => ?_, fun z => nomatch z⟩
      cases ens
      have ha6 := X6 _ _ upd_same
      refine ⟨_, rfl, a, _, dx, _, rfl, ha6, T.c_Days, T.a_Days_also, Nat.le_of_ble_eq_true rfl, ?_⟩
      have paa : pa ≠ a := fun z => by
        rw [z, upd_same] at npa
        cases npa
      have O7 := fun o => ((O5 _).trans (ex_oth X6)).upd (o := o)
      have O7 := O7 (.ins (DaysC K) dx (dayF r po pa ⟨l, s, t, o, al⟩))
      have h7 : upd H6 a (.ins (DaysC K) dx (dayF r po pa ⟨l, s, t, o, al⟩)) a = some (.ins (DaysC K) dx (dayF r po pa ⟨l, s, t, o, al⟩)) := upd_same
      have hpo7 : upd H6 a (.ins (DaysC K) dx (dayF r po pa ⟨l, s, t, o, al⟩)) po = some (.tup (natV (srtN o))) := by
        rw [upd_ne poa]
        exact X6 _ _ (by rw [upd_ne poa]; exact hpo)
      have hpa7 : upd H6 a (.ins (DaysC K) dx (dayF r po pa ⟨l, s, t, o, al⟩)) pa = some (.tup (natV (srtN al))) := by
        rw [upd_ne paa]
        exact hpa
      have ra : r ≠ a := fun z => by
        rw [z, na0] at hr3
        cases hr3
      rw [show putF "also" (V.ref pa) (putF "out" (V.ref po) (putF "till" (optV t) (putF "since" (V.int (s : Nat)) (putF "ring" (V.ref r) [])))) = dayF r po pa ⟨l, s, t, o, al⟩ from rfl]
      generalize upd H6 a (.ins (DaysC K) dx (dayF r po pa ⟨l, s, t, o, al⟩)) = H7 at O7 h7 hpo7 hpa7 ⊢
      have ol := h4.ok.1
      have sl := srtN_len al
      refine ⟨_, rfl, a, _, dx, _, _, rfl, h7, T.c_Days, T.a_Days_also, rfl, pa, rfl, ⟨_, sq_tup hpa7⟩, fun A7 nA => lc_on (srtN al) (fun n : Nat => V.int n) L2.walk_tup (fun d => some (.bl (decide (d ∈ o)))) (fun H' => Ex H7 H') (fun H' z e => ex_mut e nA) (.refl _) (by omega) (fun H' e => sq_tup (e _ _ hpa7)) (fun i n H8 acc N hn X8 hD la k => ?_) fun H8 X8 d8 => ?_⟩
      · refine ⟨rfl, _, rfl, _, rfl, a, _, dx, _, _, rfl, X8 _ _ h7, T.c_Days, T.a_Days_out, rfl, po, _, rfl, .inr (sq_tup (X8 _ _ hpo7)), rfl, flat_nat _, acc, hD, la, ?_⟩
        rw [inV_nat, mem_srtN]
        exact k H8 X8 hD
      · have eb : (srtN al).filterMap (fun d => some (V.bl (decide (d ∈ o)))) = ((srtN al).map fun d => decide (d ∈ o)).map V.bl := by
          rw [List.filterMap_eq_map', List.map_map]
          rfl
        rw [eb] at d8
        refine ⟨A7, _, rfl, sq_lst d8, ?_⟩
        have ea : ((srtN al).map fun d => decide (d ∈ o)).any id = al.any fun d => decide (d ∈ o) := by
          rw [Bool.eq_iff_iff, List.any_eq_true, List.any_eq_true]
          constructor
          · rintro ⟨b, hb, e⟩
            obtain ⟨d, hd, rfl⟩ := List.mem_map.mp hb
            exact ⟨d, (srtN_mem d al).mp hd, e⟩
          · rintro ⟨d, hd, e⟩
            exact ⟨_, List.mem_map.mpr ⟨d, (srtN_mem d al).mpr hd, rfl⟩, e⟩
        rw [ea]
        have O8 := O7.trans (ex_oth X8)
        cases c : (al.any fun d => decide (d ∈ o)) with
        | true =>
          rw [c] at eR
          exact ⟨true, rfl, qe eR H8 O8⟩
        | false =>
          rw [c] at eR
          refine ⟨false, rfl, ?_⟩
          exact q _ eR H8 O8 ⟨dx, r, po, pa, X8 _ _ h7, ⟨dr, O8 _ _ ra (X0 _ _ hr3)⟩, X8 _ _ hpo7, X8 _ _ hpa7⟩
    · rcases hA with ⟨_, rfl⟩ | ⟨bits, e, _⟩
      · exact ⟨_, rfl, xr, .ref (RingC K), _, _, false, rfl, .own _, tyX_mono X0 ty, kt, false, rfl, qe rfl H (Oth.refl _ _)⟩
      · cases e
theorem days_new {K : PySem.W.Frag} {H : Hp} {x dx r : Addr} {xo xa : V} {D : DaysD} {Q : VK} {E : XK} (nx : H x = none) (nd : H dx = none) (ne : dx ≠ x) (hr : RingAt K H r D.bits) (hD : D.ok) (ho : DayL K H xo D.out) (ha : DayL K H xa D.also) (q : ∀ H', Ex H H' → DaysAt K H' x D → Q .non H') :
    sp_Days_init K [.ref x, .ref r, .int (D.since : Nat), optV D.till, xo, xa] (upd (upd H dx (.own x)) x (.ins (DaysC K) dx [])) Q E := by
  have X1 := ex_made (o1 := .own x) (o2 := .ins (DaysC K) dx []) nx nd ne
  obtain ⟨hs, ht, lo, la, no, na, hdj⟩ := id hD
  refine ⟨x, dx, _, _, _, xo, xa, some D, H, rfl, upd_same, nx, X1, ?_, fun D' e H' k d => ?_, fun z => nomatch z⟩
  · refine ⟨some D.bits, .inl ⟨r, D.bits, rfl, hr, hs, rfl⟩, .inr ⟨D.bits, rfl, cl_int _, .inr ⟨D.since, rfl, some D.till, ?_, .inr ⟨D.till, rfl, some D.out, ho.gen, .inr ⟨D.out, rfl, some D.also, ha.gen, .inr ⟨D.also, rfl, ?_⟩⟩⟩⟩⟩⟩
    · cases hT : D.till with
      | none => exact .inl ⟨rfl, rfl⟩
      | some u => exact .inr ⟨(fun z => nomatch z), cl_int _, .inl ⟨u, rfl, by rw [if_pos (ht u hT)]⟩⟩
    · have : (D.also.any fun d => decide (d ∈ D.out)) = false := by
        rw [List.any_eq_false]
        intro d hd
        simpa using hdj d hd
      rw [this]
      rfl
  · cases e
    exact q H' (fun b o e => k b o (ne_of_none e nx) (X1 _ _ e)) d
theorem ok_Days_init_2 {P : Program} {w : World} {K : PySem.W.Frag} {mg : Str → Option Value} {base : Heap} (T : Env K mg) : Fc P w K mg base 5 (He.ma K (He.ga K "Days") "__init__") [] (fun vs H Q E => vs.length = 2 + ([] : List Str).length ∧ sp_Days_init K  (pick [.inl 0, .inl 1, .inr 0, .inr 1, .inr 2, .inr 3] vs [.int (0), .non, .non, .non]) H Q E) := by
  obtain ⟨fd, D, F⟩ := fb_Days_init T
  exact Fb.shape D F 2 [] (fun us its => pick [.inl 0, .inl 1, .inr 0, .inr 1, .inr 2, .inr 3] us its) (by decide) (fun r1 r2 => pick_vals _ r1 r2) (fun T kV doc pm an cdv ct us ws its h1 h2 h3 => match us, ws, its, h1, h2, h3 with | [_, _], [], [_, _, _, _], _, _, _ => ⟨_, rfl, rfl⟩)
end
section
/-- a name: one to eight small letters -/
def nmN (w : List Nat) : Bool := decide (1 ≤ w.length) && (decide (w.length ≤ 8) && w.all fun c => decide (97 ≤ c) && decide (c < 123))
def isNm : V → Bool
  | .str z => nmN z.cps.toList
  | _ => false
/-- a text, or what is none -/
def ClS (K : PySem.W.Frag) (H : Hp) (x : V) : Prop := (∃ z : Str, x = .str z ∧ z.length ≤ 10000) ∨ ((∀ z, x ≠ .str z) ∧ ∃ t, TyX K H x t ∧ PySem.W.kitOne K t (.type "str") = some false)
theorem ClS.no {K : PySem.W.Frag} {H : Hp} {x : V} (h : ∀ z, x ≠ .str z) : isNm x = false := by
  cases x <;> first | rfl | exact absurd rfl (h _)
theorem ClS.mono {K : PySem.W.Frag} {H H' : Hp} {x : V} (h : ClS K H x) (e : Ex H H') : ClS K H' x := h.imp id fun ⟨n, t, ty, k⟩ => ⟨n, t, tyX_mono e ty, k⟩
theorem S_of (z : Str) : SX.S z.cps.toList = z := by
  obtain ⟨⟨l⟩⟩ := z
  rfl
/-- the texts of a row of texts -/
def strL : List V → List Str
  | [] => []
  | .str z :: r => z :: strL r
  | _ :: r => strL r
theorem strL_map (ws : List Str) : strL (ws.map V.str) = ws := by
  induction ws with
  | nil => rfl
  | cons z r ih =>
    show z :: strL (r.map V.str) = _
    rw [ih]
theorem names_str : ∀ {xs : List V}, xs.all isNm = true → xs = (strL xs).map V.str
  | [], _ => rfl
  | x :: r, h => by
    rw [List.all_cons, Bool.and_eq_true] at h
    have e := names_str h.2
    cases x with
    | str z =>
      show _ = V.str z :: (strL r).map V.str
      rw [← e]
    | _ => exact absurd h.1 (by simp [isNm])
/-- the notes that a row of things stands for, or none -/
def notesR (xs : List V) : Option (List Str) := if xs.all isNm then (if (strL xs).Nodup then some (srtS (strL xs)) else none) else none
/-- what notes_of makes of a thing -/
def NtX (K : PySem.W.Frag) (H : Hp) (y : V) (r : Option (List Str)) : Prop :=
  (y = .non ∧ r = some []) ∨ (∃ a xs, y = .ref a ∧ (H a = some (.lst xs) ∨ H a = some (.tup xs)) ∧ xs.length ≤ 1000 ∧ (∀ v ∈ xs, ClS K H v) ∧ r = notesR xs) ∨
  (y ≠ .non ∧ ∃ t, TyX K H y t ∧ PySem.W.kitAny K t [.type "list", .type "tuple"] = some false ∧ r = none)
theorem NtX.mono {K : PySem.W.Frag} {H H' : Hp} {y : V} {r : Option (List Str)} (h : NtX K H y r) (e : Ex H H') : NtX K H' y r := by
  rcases h with h | ⟨a, xs, rfl, h1, h2, h3, h4⟩ | ⟨n, t, ty, k, h⟩
  · exact .inl h
  · exact .inr (.inl ⟨a, xs, rfl, h1.imp (e _ _) (e _ _), h2, fun v hv => (h3 v hv).mono e, h4⟩)
  · exact .inr (.inr ⟨n, t, tyX_mono e ty, k, h⟩)
/-- a row of names -/
def Nms (ws : List Str) : Prop := ∀ z ∈ ws, nmN z.cps.toList = true
theorem nm_facts {w : List Nat} (h : nmN w = true) : 1 ≤ w.length ∧ w.length ≤ 8 ∧ ∀ c ∈ w, 97 ≤ c ∧ c < 123 := by
  unfold nmN at h
  simp only [Bool.and_eq_true, decide_eq_true_eq, List.all_eq_true] at h
  exact ⟨h.1, h.2.1, h.2.2⟩
theorem names_nms : ∀ {xs : List V}, xs.all isNm = true → Nms (strL xs)
  | [], _, _, hz => nomatch hz
  | x :: r, h, z, hz => by
    rw [List.all_cons, Bool.and_eq_true] at h
    cases x with
    | str y =>
      rcases List.mem_cons.mp (show z ∈ y :: strL r from hz) with rfl | hz
      · exact h.1
      · exact names_nms h.2 z hz
    | _ => exact absurd h.1 (by simp [isNm])
theorem strL_len : ∀ xs : List V, (strL xs).length ≤ xs.length
  | [] => Nat.le_refl _
  | x :: r => by
    have := strL_len r
    cases x <;> simp only [strL, List.length_cons] <;> omega
theorem nt_nms {K : PySem.W.Frag} {H : Hp} {y : V} {ws : List Str} (h : NtX K H y (some ws)) : Nms ws ∧ ws.length ≤ 1000 := by
  rcases h with ⟨_, h⟩ | ⟨a, xs, _, _, hl, _, h⟩ | ⟨_, t, _, _, h⟩
  · cases h
    exact ⟨nofun, Nat.zero_le _⟩
  · unfold notesR at h
    by_cases h1 : xs.all isNm = true
    · rw [if_pos h1] at h
      by_cases h2 : (strL xs).Nodup
      · rw [if_pos h2] at h
        injection h with h
        rw [h]
        refine ⟨fun z hz => names_nms h1 z ((srtS_perm _).mem_iff.mp hz), ?_⟩
        rw [(srtS_perm _).length_eq]
        exact Nat.le_trans (strL_len xs) hl
      · rw [if_neg h2] at h
        cases h
    · rw [if_neg h1] at h
      cases h
  · cases h
theorem names_all {ws : List Str} (h : Nms ws) : (ws.map V.str).all isNm = true := by
  rw [List.all_map]
  exact List.all_eq_true.mpr fun z hz => h z hz
theorem clS_names {K : PySem.W.Frag} {H : Hp} {ws : List Str} (h : Nms ws) : ∀ v ∈ ws.map V.str, ClS K H v := fun v hv => by
  obtain ⟨z, hz, rfl⟩ := List.mem_map.mp hv
  have h2 := (nm_facts (h z hz)).2.1
  have h3 : z.length = z.cps.toList.length := rfl
  exact .inl ⟨z, rfl, by omega⟩
theorem nt_names {K : PySem.W.Frag} {H : Hp} {a : Addr} {ws : List Str} (hx : H a = some (.lst (ws.map V.str)) ∨ H a = some (.tup (ws.map V.str))) (hw : Nms ws) (nd : ws.Nodup) (l : ws.length ≤ 1000) : NtX K H (.ref a) (some (srtS ws)) := by
  refine .inr (.inl ⟨a, _, rfl, hx, by rw [List.length_map]; exact l, clS_names hw, ?_⟩)
  unfold notesR
  rw [if_pos (names_all hw), strL_map, if_pos nd]
theorem nt_twice {K : PySem.W.Frag} {H : Hp} {a : Addr} {ws : List Str} (hx : H a = some (.lst (ws.map V.str)) ∨ H a = some (.tup (ws.map V.str))) (hw : Nms ws) (nd : ¬ ws.Nodup) (l : ws.length ≤ 1000) : NtX K H (.ref a) none := by
  refine .inr (.inl ⟨a, _, rfl, hx, by rw [List.length_map]; exact l, clS_names hw, ?_⟩)
  unfold notesR
  rw [if_pos (names_all hw), strL_map, if_neg nd]
theorem nt_no {K : PySem.W.Frag} {H : Hp} {y : V} {t : Value} (n : y ≠ .non) (ty : TyX K H y t) (h1 : PySem.W.kitOne K t (.type "list") = some false) (h2 : PySem.W.kitOne K t (.type "tuple") = some false) : NtX K H y none :=
  .inr (.inr ⟨n, t, ty, kitAny_cons (b := false) h1 (fun _ => kitAny_cons (b := false) h2 (fun _ => kitAny_nil) (by decide)) (by decide), rfl⟩)
end
section
theorem abc_in (c : Nat) : decide (c ∈ (Str.ofString "abcdefghijklmnopqrstuvwxyz").cps.toList) = (decide (97 ≤ c) && decide (c < 123)) := by
  have e : (Str.ofString "abcdefghijklmnopqrstuvwxyz").cps.toList = [97, 98, 99, 100, 101, 102, 103, 104, 105, 106, 107, 108, 109, 110, 111, 112, 113, 114, 115, 116, 117, 118, 119, 120, 121, 122] := rfl
  rw [e, ← Bool.decide_and]
  apply decide_eq_decide.mpr
  simp only [List.mem_cons, List.not_mem_nil, or_false]
  omega
def sp_is_name (K : PySem.W.Frag) : Sp := fun vs H Q _ => ∃ x, vs = [x] ∧ ClS K H x ∧ ∀ H', Ex H H' → Q (.bl (isNm x)) H'
theorem fb_is_name {P : Program} {w : World} {K : PySem.W.Frag} {mg : Str → Option Value} {base : Heap} (T : Env K mg) : ∃ fd, FunD K "is_name" "is_name" (defArgs s_is_name) (defBody s_is_name) (defScope s_is_name) [] [] (He.ga K "is_name") fd ∧ Fb P w K mg base 1 (He.ga K "is_name") fd ["thing"] (sp_is_name K) := by
  obtain ⟨fd, F⟩ := T.f_is_name
  refine ⟨fd, F, fb_of F sc_is_name (fun vs H Q E h => ?_) (fun cdv A outer s H vs Q E hr h => ?_)⟩
  · obtain ⟨x, rfl, _⟩ := h
    rfl
  · obtain ⟨x, rfl, h, q⟩ := h
    refine ⟨_, (pss_cons (ps_if (PW.pt (pw_or (pt_not (pt_val (pe_callB call_isi (by rfl) T.n_isinstance (by decide +kernel) (pa_cons (pv 0) (pa_cons (pe_bltn (v := .ty "str") (by rfl) T.n_str (by decide +kernel) rfl) pa_nil))))) (pw_or (pt_cmpR op_lt (pe_callB call_len (by rfl) T.n_len (by decide +kernel) (pa_cons (pv 0) pa_nil)) pe_int (nomark _)) (pw_or1 (pt_cmpR op_gt (pe_callB call_len (by rfl) T.n_len (by decide +kernel) (pa_cons (pv 0) pa_nil)) (pe_k T.v_LONGEST_NAME) (nomark _))))))
      (pss_one (ps_ret pe_bl))
      pss_nil)
      (pss_one (ps_ret (pe_callB (cr_all rfl) (by rfl) T.n_all (by decide +kernel) (pa_cons (pe_lc (own := [("sign", 1)]) (by rfl) sc_is_name.nd (pi_str (pv 0)) (blkOk_by (own := [("sign", 1)]) (N := ["thing", "sign"]) (sc := defScope s_is_name) (by decide +kernel)) (fun _ _ _ _ _ => (pg_name (i := 1) sc_is_name.nd rfl (Or.inl rfl))) (fun _ _ _ _ _ => pts_nil) (fun _ _ _ _ _ => (pe_cmpR op_in_sign (pv 1) (pe_k T.v_NAME_SIGNS) (by rfl)))) pa_nil))))), ?_⟩
    rcases h with ⟨z, rfl, hz⟩ | ⟨n, t, ty, kt⟩
    · have q2 : ∀ H', Ex H H' → Q (.bl (nmN z.cps.toList)) H' := q
      have ez := S_of z
      generalize z.cps.toList = l at q2 ez
      subst ez
      rw [SX.S_len] at hz
      have kt : PySem.W.kitOne K (.type "str") (.type "str") = some true := kit_ty (by decide +kernel)
      by_cases c1 : l.length < 1
      · have e : nmN l = false := by unfold nmN; rw [decide_eq_false (by omega)]; rfl
        rw [e] at q2
        refine ⟨_, rfl, _, _, _, _, _, rfl, .ty _, .base (.str _), (kit_ty (r := true) (by decide +kernel)), _, rfl, _, rfl, _, _, rfl, ⟨(sz_big (by rw [SX.S_len]; omega)), rfl⟩, _, _, rfl, rfl, _, rfl, ?_⟩
        rw [SX.S_len, decide_eq_true (show ((l.length : Nat) : Int) < 1 by omega)]
        exact iteT (iteT (q2 H (.refl H)))
      by_cases c2 : 8 < l.length
      · have e : nmN l = false := by unfold nmN; rw [decide_eq_false (show ¬ l.length ≤ 8 by omega), Bool.false_and, Bool.and_false]
        rw [e] at q2
        refine ⟨_, rfl, _, _, _, _, _, rfl, .ty _, .base (.str _), (kit_ty (r := true) (by decide +kernel)), _, rfl, _, rfl, _, _, rfl, ⟨(sz_big (by rw [SX.S_len]; omega)), rfl⟩, _, _, rfl, rfl, _, rfl, ?_⟩
        rw [SX.S_len, decide_eq_false (show ¬ ((l.length : Nat) : Int) < 1 by omega)]
        refine iteF ⟨_, rfl, _, _, rfl, ⟨(sz_big (by rw [SX.S_len]; omega)), rfl⟩, _, _, rfl, rfl, _, rfl, ?_⟩
        rw [SX.S_len, decide_eq_true (show (8 : Int) < ((l.length : Nat) : Int) by omega)]
        exact iteT (q2 H (.refl H))
      have e : nmN l = l.all fun c => decide (97 ≤ c) && decide (c < 123) := by
        unfold nmN
        rw [decide_eq_true (by omega), decide_eq_true (by omega)]
        rfl
      rw [e] at q2
      refine ⟨_, rfl, _, _, _, _, _, rfl, .ty _, .base (.str _), (kit_ty (r := true) (by decide +kernel)), _, rfl, _, rfl, _, _, rfl, ⟨(sz_big (by rw [SX.S_len]; omega)), rfl⟩, _, _, rfl, rfl, _, rfl, ?_⟩
      rw [SX.S_len, decide_eq_false (show ¬ ((l.length : Nat) : Int) < 1 by omega)]
      refine iteF ⟨_, rfl, _, _, rfl, ⟨(sz_big (by rw [SX.S_len]; omega)), rfl⟩, _, _, rfl, rfl, _, rfl, ?_⟩
      rw [SX.S_len, decide_eq_false (show ¬ (8 : Int) < ((l.length : Nat) : Int) by omega)]
      refine iteF ⟨_, rfl, _, rfl, fun D nD => lc_fm L2.walk_str (fun i => some (.bl (decide (97 ≤ l.getD i 0) && decide (l.getD i 0 < 123)))) (fun H' => Ex H H') (fun H' z e => ex_mut e nD) (.refl H) (by show l.toArray.size ≤ 100000; simpa using Nat.le_trans hz (by decide)) (fun _ _ => trivial) (fun i x H1 H2 acc N hi e hD la y k => ?_) fun H1 e1 d1 => ?_⟩
      · obtain ⟨rfl, c, hc, rfl⟩ := y
        refine ⟨rfl, _, rfl, c, _, rfl, rfl, acc, hD, la, ?_⟩
        rw [abc_in]
        have e2 : l.getD i 0 = c := by
          have hc2 : l[i]? = some c := by simpa using hc
          rw [List.getD_eq_getElem?_getD, hc2]
          rfl
        have k2 := k H2 e hD
        rw [e2] at k2
        exact k2
      · refine ⟨D, l.map fun c => decide (97 ≤ c) && decide (c < 123), rfl, sq_lst ?_, ?_⟩
        · rw [d1]
          have e3 := range_map_get l 0 (fun c => V.bl (decide (97 ≤ c) && decide (c < 123)))
          have e4 : l.toArray.size = l.length := by simp
          show some (HO.lst (List.filterMap _ (List.range l.toArray.size))) = _
          rw [e4, e3, List.map_map]
          rfl
        · have e5 : (l.map fun c => decide (97 ≤ c) && decide (c < 123)).all id = l.all fun c => decide (97 ≤ c) && decide (c < 123) := by
            rw [List.all_map]
            rfl
          rw [e5]
          exact q2 H1 e1
    · rw [ClS.no (K := K) (H := H) n] at q
      exact ⟨_, rfl, _, _, _, _, false, rfl, .ty _, ty, kt, _, rfl, iteT (q H (.refl H))⟩
theorem ok_is_name {P : Program} {w : World} {K : PySem.W.Frag} {mg : Str → Option Value} {base : Heap} (T : Env K mg) : Fc P w K mg base 1 (He.ga K "is_name") [] (sp_is_name K ) := by
  obtain ⟨fd, D, F⟩ := fb_is_name T
  exact F.all (D.bindsN fun _ _ _ _ _ _ us hl => match us, hl with | [_], _ => rfl)
end
section
def sp_notes_of (K : PySem.W.Frag) : Sp := fun vs H Q E => ∃ y r, vs = [y] ∧ NtX K H y r ∧ (∀ ws, r = some ws → ∀ p H', Ex H H' → H p = none → H' p = some (.tup (ws.map V.str)) → Q (.ref p) H') ∧ (r = none → ∀ H', Ex H H' → E (.ref (He.ga K "NoCard")) none H')
theorem fb_notes_of {P : Program} {w : World} {K : PySem.W.Frag} {mg : Str → Option Value} {base : Heap} (T : Env K mg) : ∃ fd, FunD K "notes_of" "notes_of" (defArgs s_notes_of) (defBody s_notes_of) (defScope s_notes_of) [] [] (He.ga K "notes_of") fd ∧ Fb P w K mg base 2 (He.ga K "notes_of") fd ["notes"] (sp_notes_of K) := by
  obtain ⟨fd, F⟩ := T.f_notes_of
  refine ⟨fd, F, fb_of F sc_notes_of (fun vs H Q E h => ?_) (fun cdv A outer s H vs Q E hr h => ?_)⟩
  · obtain ⟨y, r, rfl, _⟩ := h
    rfl
  · obtain ⟨y, r, rfl, hN, q, qe⟩ := h
    refine ⟨_, (pss_cons (ps_if (pt_cmpR op_isN (pv 0) pe_non (nomark _))
      (pss_one (ps_ret (pe_tup pa_nil)))
      pss_nil)
      (pss_cons (ps_if (PW.pt (pw_or (pt_not (pt_val (pe_callB call_isiT (by rfl) T.n_isinstance (by decide +kernel) (pa_cons (pv 0) (pa_cons (pe_tup (pa_cons (pe_bltn (v := .ty "list") (by rfl) T.n_list (by decide +kernel) rfl) (pa_cons (pe_bltn (v := .ty "tuple") (by rfl) T.n_tuple (by decide +kernel) rfl) pa_nil))) pa_nil))))) (pw_or1 (pt_not (pt_val (pe_callB (cr_all rfl) (by rfl) T.n_all (by decide +kernel) (pa_cons (pe_lc (own := [("note", 1)]) (by rfl) sc_notes_of.nd (pi_seqB (pv 0) K) (blkOk_by (own := [("note", 1)]) (N := ["notes", "note"]) (sc := defScope s_notes_of) (by decide +kernel)) (fun _ _ _ _ _ => (pg_name (i := 1) sc_notes_of.nd rfl (Or.inl rfl))) (fun _ _ _ _ _ => pts_nil) (fun _ _ _ _ _ => (c_call (ok_is_name T) (hr.mono (by decide)) T.g_is_name T.k_is_name takes0 (pa_cons (pv 1) pa_nil)))) pa_nil)))))))
      (pss_one (ps_raise rfl (takes_of rfl rfl rfl rfl) (pmk_own PySem.F.excBase_ValueError T.x_NoCard.x T.g_NoCard T.x_NoCard.kp (raises_own T.x_NoCard.sub T.x_NoCard.ty) rfl)))
      pss_nil)
      (pss_cons (ps_if (pt_cmpR op_lt (pe_callB cr_lenT (by rfl) T.n_len (by decide +kernel) (pa_cons (pe_callTy (cr_setT K rfl) (by rfl) T.n_set (by decide +kernel) (pa_cons (pv 0) pa_nil)) pa_nil)) (pe_callB call_len (by rfl) T.n_len (by decide +kernel) (pa_cons (pv 0) pa_nil)) (nomark _))
      (pss_one (ps_raise rfl (takes_of rfl rfl rfl rfl) (pmk_own PySem.F.excBase_ValueError T.x_NoCard.x T.g_NoCard T.x_NoCard.kp (raises_own T.x_NoCard.sub T.x_NoCard.ty) rfl)))
      pss_nil)
      (pss_one (ps_ret (pe_callTy call_tuple_of (by rfl) T.n_tuple (by decide +kernel) (pa_cons (pe_callB (cr_sortedT K) (by rfl) T.n_sorted (by decide +kernel) (pa_cons (pv 0) pa_nil)) pa_nil))))))), ?_⟩
    rcases hN with ⟨rfl, rfl⟩ | ⟨a, xs, rfl, hx, hl, hv, rfl⟩ | ⟨n, t, ty, kt, rfl⟩
    · refine ⟨_, rfl, rfl, _, rfl, (by decide), fun a1 na1 => ?_⟩
      exact q [] rfl a1 _ (ex_new na1) na1 upd_same
    · refine ⟨_, rfl, rfl, _, rfl, ?_⟩
      rw [decide_eq_false (show ¬ V.ref a = V.non from nofun)]
      refine iteF ?_
      refine ⟨_, rfl, (by decide), ?_⟩
      intro a1 na1
      have Xa1 := ex_new (o := HO.tup [V.ty "list", V.ty "tuple"]) na1
      have ha1 : upd H a1 (HO.tup [V.ty "list", V.ty "tuple"]) a1 = some (HO.tup [V.ty "list", V.ty "tuple"]) := upd_same
      generalize upd H a1 (HO.tup [V.ty "list", V.ty "tuple"]) = Ga1 at Xa1 ha1 ⊢
      have ty : ∃ t, TyX K Ga1 (.ref a) t ∧ PySem.W.kitAny K t [.type "list", .type "tuple"] = some true := by
        rcases hx with h | h
        · exact ⟨_, .base (.lst (Xa1 _ _ h)), kitAny_cons (b := true) (kit_ty (by decide +kernel)) (fun z => nomatch z) (fun _ => rfl)⟩
        · exact ⟨_, .base (.tup (Xa1 _ _ h)), kitAny_cons (b := false) (kit_ty (by decide +kernel)) (fun _ => kitAny_cons (b := true) (kit_ty (by decide +kernel)) (fun z => nomatch z) (fun _ => rfl)) (by decide)⟩
      obtain ⟨t, ty, kt⟩ := ty
      have sq : ∀ {H' : Hp}, Ex H H' → SqS K H' a xs := fun {H'} e => by
        rcases hx with h | h
        · exact .inl (sq_lst (e _ _ h))
        · exact .inr (sq_tup (e _ _ h))
      refine ⟨.ref a, a1, _, t, _, true, rfl, ha1, .cons (.ty "list") (.cons (.ty "tuple") .nil), ty, kt, true, rfl, iteF ?_⟩
      refine ⟨_, rfl, a, xs, rfl, sq Xa1, fun J G wk hG A nA => lc_fm wk (fun i => (xs[i]?).map fun x => V.bl (isNm x)) (fun H' => Ex Ga1 H') (fun H' l e => ex_mut e nA) (.refl _) (by omega) (fun H' e => hG H' (stays_ex e)) (fun i x H1 H2 acc N hi e hD la y k => ?_) (fun H1 e hD => ?_)⟩
      · obtain ⟨rfl, y⟩ := y
        have cl := (hv x (List.mem_of_getElem? y)).mono (Xa1.trans e)
        rw [y] at k
        refine ⟨rfl, _, rfl, x, rfl, cl, fun H3 X3 => ?_⟩
        exact ⟨acc, X3 _ _ hD, la, k H3 (e.trans X3) (X3 _ _ hD)⟩
      have eD : (List.range xs.length).filterMap (fun i => (xs[i]?).map fun x => V.bl (isNm x)) = (xs.map isNm).map V.bl := by
        have := range_fm (fun x => some (V.bl (isNm x))) xs
        simp only [Option.map_eq_bind]
        rw [List.map_map, ← List.filterMap_eq_map']
        exact this
      rw [eD] at hD
      have X1 := Xa1.trans e
      refine ⟨A, _, rfl, sq_lst hD, ?_⟩
      rw [show (xs.map isNm).all id = xs.all isNm by rw [List.all_map]; rfl]
      cases hm : xs.all isNm with
      | false =>
        refine ⟨false, rfl, iteT (qe ?_ H1 X1)⟩
        unfold notesR
        rw [hm]
        rfl
      | true =>
        have er : notesR xs = if (strL xs).Nodup then some (srtS (strL xs)) else none := by
          unfold notesR
          rw [hm]
          rfl
        rw [er] at q qe
        have exs := names_str hm
        obtain ⟨ws, hws⟩ : ∃ ws, ws = strL xs := ⟨_, rfl⟩
        rw [← hws] at q qe exs
        have lw : ws.length = xs.length := by rw [exs, List.length_map]
        subst exs
        clear er hws eD
        have sqH : ∀ {G : Hp}, Ex H G → SqL K G a (ws.map V.str) ∨ SqT K G a (ws.map V.str) := fun {G} e => sq e
        have lenH : ∀ {G : Hp}, Ex H G → LenV K (.ref a) G ws.length := fun {G} e => (sqH e).elim (fun z => .inl ⟨_, z, by rw [List.length_map]⟩) (fun z => .inr ⟨_, z, by rw [List.length_map]⟩)
        refine ⟨true, rfl, iteF ⟨_, rfl, a, ws, rfl, sqH X1, by omega, fun s ns => ?_⟩⟩
        have Xs := ex_new (o := SetTO P w s (dst [] ws)) ns
        have hs : upd H1 s (SetTO P w s (dst [] ws)) s = some (SetTO P w s (dst [] ws)) := upd_same
        have hdl : (dst [] ws).length < ws.length ↔ ¬ ws.Nodup := by
          constructor
          · intro h1 h2
            have := dst_full ws [] h2 nofun
            rw [List.length_nil] at this
            omega
          · intro h1
            have := dst_less ws [] fun z => h1 z.1
            rw [List.length_nil] at this
            omega
        generalize dst [] ws = ds at hs hdl Xs ⊢
        have X2 := X1.trans Xs
        refine ⟨s, _, rfl, hs, _, rfl, _, _, rfl, lenH X2, _, _, rfl, rfl, _, rfl, ?_⟩
        by_cases nd : ws.Nodup
        · rw [decide_eq_false (show ¬ ((ds.length : Nat) : Int) < ((ws.length : Nat) : Int) from fun z => hdl.mp (by omega) nd)]
          refine iteF ⟨_, rfl, a, ws, rfl, sqH X2, fun p np => ?_⟩
          have Xp := ex_new (o := .lst ((srtS ws).map V.str)) np
          refine ⟨p, _, rfl, .inl ⟨sq_lst upd_same, fun t nt => ?_⟩⟩
          have Xt := ex_new (o := .tup ((srtS ws).map V.str)) nt
          exact q _ (if_pos nd) t _ ((X2.trans Xp).trans Xt) (ex_fresh (X2.trans Xp) nt) upd_same
        · rw [decide_eq_true (show ((ds.length : Nat) : Int) < ((ws.length : Nat) : Int) from by have := hdl.mpr nd; omega)]
          exact iteT (qe (if_neg nd) _ X2)
    · refine ⟨_, rfl, rfl, _, rfl, ?_⟩
      rw [decide_eq_false n]
      refine iteF ?_
      refine ⟨_, rfl, (by decide), ?_⟩
      intro a1 na1
      have Xa1 := ex_new (o := HO.tup [V.ty "list", V.ty "tuple"]) na1
      have ha1 : upd H a1 (HO.tup [V.ty "list", V.ty "tuple"]) a1 = some (HO.tup [V.ty "list", V.ty "tuple"]) := upd_same
      generalize upd H a1 (HO.tup [V.ty "list", V.ty "tuple"]) = Ga1 at Xa1 ha1 ⊢
      exact ⟨y, a1, _, t, _, false, rfl, ha1, .cons (.ty "list") (.cons (.ty "tuple") .nil), tyX_mono Xa1 ty, kt, false, rfl, iteT (iteT (qe rfl _ Xa1))⟩
theorem ok_notes_of {P : Program} {w : World} {K : PySem.W.Frag} {mg : Str → Option Value} {base : Heap} (T : Env K mg) : Fc P w K mg base 2 (He.ga K "notes_of") [] (sp_notes_of K ) := by
  obtain ⟨fd, D, F⟩ := fb_notes_of T
  exact F.all (D.bindsN fun _ _ _ _ _ _ us hl => match us, hl with | [_], _ => rfl)
end
section
abbrev GoingC (K : PySem.W.Frag) : Addr := He.ga K "Going"
def goF (n : Nat) (kp : Addr) : List (Str × V) := [("moment", .int (n : Nat)), ("notes", .ref kp)]
/-- at a a Going of a moment and notes -/
def GoAt (K : PySem.W.Frag) (H : Hp) (a : Addr) (n : Nat) (ws : List Str) : Prop := ∃ dx kp, H a = some (.ins (GoingC K) dx (goF n kp)) ∧ H kp = some (.tup (ws.map V.str)) ∧ Nms ws ∧ ws.length ≤ 1000
theorem GoAt.mono {K : PySem.W.Frag} {H H' : Hp} {a : Addr} {n : Nat} {ws : List Str} (h : GoAt K H a n ws) (e : Ex H H') : GoAt K H' a n ws := let ⟨dx, kp, h1, h2, h3⟩ := h; ⟨dx, kp, e _ _ h1, e _ _ h2, h3⟩
end
section
def sp_Going_init (K : PySem.W.Frag) : Sp := fun vs H Q E => ∃ (a dx : Addr) (x y : V) (H0 : Hp), vs = [.ref a, x, y] ∧ H a = some (.ins (GoingC K) dx []) ∧ H0 a = none ∧ Ex H0 H ∧ Cl K H x ∧ (isM x = false → E (.ref (He.ga K "NoTime")) none H) ∧
  (∀ n : Nat, x = .int (n : Nat) → ∃ r, NtX K H0 y r ∧ (∀ ws, r = some ws → ∀ H', Ex H0 H' → GoAt K H' a n ws → Q .non H') ∧ (r = none → ∀ H', Ex H0 H' → E (.ref (He.ga K "NoCard")) none H'))
theorem fb_Going_init {P : Program} {w : World} {K : PySem.W.Frag} {mg : Str → Option Value} {base : Heap} (T : Env K mg) : ∃ fd, FunD K "__init__" "Going.__init__" (defArgs s_Going_init) (defBody s_Going_init) (defScope s_Going_init) [.non] [] (He.ma K (He.ga K "Going") "__init__") fd ∧ Fb P w K mg base 4 (He.ma K (He.ga K "Going") "__init__") fd ["self", "moment", "notes"] (sp_Going_init K) := by
  obtain ⟨fd, F⟩ := T.f_Going_init
  refine ⟨fd, F, fb_of F sc_Going_init (fun vs H Q E h => ?_) (fun cdv A outer s H vs Q E hr h => ?_)⟩
  · obtain ⟨a, dx, x, y, H0, rfl, _⟩ := h
    rfl
  · obtain ⟨a, dx, x, y, H0, rfl, ha, na0, X0, cl, qt, qn⟩ := h
    refine ⟨_, (pss_cons (ps_expr (c_call (ok_want_moment T) (hr.mono (by decide)) T.g_want_moment T.k_want_moment (takes_of rfl rfl rfl rfl) (pa_cons (pv 1) pa_nil)))
      (pss_cons (ps_fld (pv 0) (pv 1) rfl)
      (pss_one (ps_fld (pv 0) (c_call (ok_notes_of T) (hr.mono (by decide)) T.g_notes_of T.k_notes_of (takes_of rfl rfl rfl rfl) (pa_cons (pv 2) pa_nil)) rfl)))), ?_⟩
    refine ⟨_, rfl, x, rfl, cl, fun hm => ?_, qt⟩
    obtain ⟨n, rfl⟩ : ∃ n : Nat, x = .int (n : Nat) := by
      cases x with
      | int i => exact ⟨i.toNat, by rw [Int.toNat_of_nonneg (of_decide_eq_true hm)]⟩
      | _ => cases hm
    obtain ⟨r, hN, q, qe⟩ := qn n rfl
    refine ⟨_, rfl, _, rfl, _, _, _, _, rfl, ha, T.c_Going, T.a_Going_moment, (by decide), _, rfl, ?_⟩
    have O1 : Oth a H (upd H a (HO.ins (GoingC K) dx (putF "moment" (V.int (n : Nat)) []))) := (Oth.refl a H).upd
    have h1 : upd H a (HO.ins (GoingC K) dx (putF "moment" (V.int (n : Nat)) [])) a = some (.ins (GoingC K) dx [("moment", .int (n : Nat))]) := upd_same
    generalize upd H a (HO.ins (GoingC K) dx (putF "moment" (V.int (n : Nat)) [])) = H1 at O1 h1 ⊢
    have X1 : Ex H0 H1 := Oth.ex X0 na0 O1
    refine ⟨y, r, rfl, hN.mono X1, fun ws er p H2 X2 np hp => ⟨_, rfl, a, _, dx, _, rfl, X2 _ _ h1, T.c_Going, T.a_Going_notes, Nat.le_of_ble_eq_true rfl, ?_⟩, fun er H2 X2 => qe er H2 (X1.trans X2)⟩
    have pa : p ≠ a := fun z => by rw [z, h1] at np; cases np
    subst er
    exact q ws rfl _ (Oth.ex (X1.trans X2) na0 (Oth.refl a H2).upd) ⟨dx, p, upd_same, by rw [upd_ne pa]; exact hp, nt_nms hN⟩
theorem ok_Going_init {P : Program} {w : World} {K : PySem.W.Frag} {mg : Str → Option Value} {base : Heap} (T : Env K mg) : Fc P w K mg base 4 (He.ma K (He.ga K "Going") "__init__") [] (fun vs H Q E => vs.length = 3 + ([] : List Str).length ∧ sp_Going_init K  (pick [.inl 0, .inl 1, .inl 2] vs [.non]) H Q E) := by
  obtain ⟨fd, D, F⟩ := fb_Going_init T
  exact Fb.shape D F 3 [] (fun us its => pick [.inl 0, .inl 1, .inl 2] us its) (by decide) (fun r1 r2 => pick_vals _ r1 r2) (fun T kV doc pm an cdv ct us ws its h1 h2 h3 => match us, ws, its, h1, h2, h3 with | [_, _, _], [], [_], _, _, _ => ⟨_, rfl, rfl⟩)
end
section
def isN (n : Int) (x : V) : Bool := isW x && (match x with | .int i => decide (n ≤ i) | _ => false)
def sp_is_number (K : PySem.W.Frag) : Sp := fun vs H Q _ => ∃ x n, vs = [x, .int n] ∧ Cl K H x ∧ Q (.bl (isN n x)) H
theorem fb_is_number {P : Program} {w : World} {K : PySem.W.Frag} {mg : Str → Option Value} {base : Heap} (T : Env K mg) : ∃ fd, FunD K "is_number" "is_number" (defArgs s_is_number) (defBody s_is_number) (defScope s_is_number) [] [] (He.ga K "is_number") fd ∧ Fb P w K mg base 1 (He.ga K "is_number") fd ["thing", "least"] (sp_is_number K) := by
  obtain ⟨fd, F⟩ := T.f_is_number
  refine ⟨fd, F, fb_of F sc_is_number (fun vs H Q E h => ?_) (fun cdv A outer s H vs Q E hr h => ?_)⟩
  · obtain ⟨x, n, rfl, _⟩ := h
    rfl
  · obtain ⟨x, n, rfl, ⟨t, b, c, ty, h1, h2, e⟩, q⟩ := h
    refine ⟨_, (pss_one (ps_ret (pe_and (pe_callB call_isi (by rfl) T.n_isinstance (by decide +kernel) (pa_cons (pv 0) (pa_cons (pe_bltn (v := .ty "int") (by rfl) T.n_int (by decide +kernel) rfl) pa_nil))) (pe_and (pe_not (pe_callB call_isi (by rfl) T.n_isinstance (by decide +kernel) (pa_cons (pv 0) (pa_cons (pe_bltn (v := .ty "bool") (by rfl) T.n_bool (by decide +kernel) rfl) pa_nil)))) (pe_one (pe_cmpR op_ge (pv 0) (pv 1) (nomark _))))))), ?_⟩
    refine ⟨x, rfl, x, .ty "int", t, _, b, rfl, .ty "int", ty, h1, b, rfl, ?_⟩
    unfold isN at q
    rw [e] at q
    cases b with
    | false => exact q
    | true =>
      refine ⟨x, rfl, x, .ty "bool", t, _, c, rfl, .ty "bool", ty, h2, c, rfl, ?_⟩
      cases c with
      | true => exact ⟨false, rfl, q⟩
      | false =>
        refine ⟨true, rfl, iteT ?_⟩
        cases x with
        | int i => exact ⟨_, rfl, _, rfl, i, n, rfl, rfl, q⟩
        | _ => cases e
theorem ok_is_number {P : Program} {w : World} {K : PySem.W.Frag} {mg : Str → Option Value} {base : Heap} (T : Env K mg) : Fc P w K mg base 1 (He.ga K "is_number") [] (sp_is_number K ) := by
  obtain ⟨fd, D, F⟩ := fb_is_number T
  exact F.all (D.bindsN fun _ _ _ _ _ _ us hl => match us, hl with | [_, _], _ => rfl)
end
section
abbrev AtC (K : PySem.W.Frag) : Addr := He.ga K "At"
/-- at a an At of a moment -/
def AtAt (K : PySem.W.Frag) (H : Hp) (a : Addr) (n : Nat) : Prop := ∃ dx, H a = some (.ins (AtC K) dx [("moment", .int (n : Nat))])
theorem AtAt.mono {K : PySem.W.Frag} {H H' : Hp} {a : Addr} {n : Nat} (h : AtAt K H a n) (e : Ex H H') : AtAt K H' a n := let ⟨dx, h⟩ := h; ⟨dx, e _ _ h⟩
def sp_At_init (K : PySem.W.Frag) : Sp := fun vs H Q E => ∃ a dx x, vs = [.ref a, x] ∧ H a = some (.ins (AtC K) dx []) ∧ Cl K H x ∧ (isN 0 x = true → Q .non (upd H a (.ins (AtC K) dx [("moment", x)]))) ∧ (isN 0 x = false → E (.ref (He.ga K "NoPiece")) none H)
theorem fb_At_init {P : Program} {w : World} {K : PySem.W.Frag} {mg : Str → Option Value} {base : Heap} (T : Env K mg) : ∃ fd, FunD K "__init__" "At.__init__" (defArgs s_At_init) (defBody s_At_init) (defScope s_At_init) [] [] (He.ma K (He.ga K "At") "__init__") fd ∧ Fb P w K mg base 2 (He.ma K (He.ga K "At") "__init__") fd ["self", "moment"] (sp_At_init K) := by
  obtain ⟨fd, F⟩ := T.f_At_init
  refine ⟨fd, F, fb_of F sc_At_init (fun vs H Q E h => ?_) (fun cdv A outer s H vs Q E hr h => ?_)⟩
  · obtain ⟨a, dx, x, rfl, _⟩ := h
    rfl
  · obtain ⟨a, dx, x, rfl, ha, cl, q, qe⟩ := h
    refine ⟨_, (pss_cons (ps_if (pt_not (pt_val (c_call (ok_is_number T) (hr.mono (by decide)) T.g_is_number T.k_is_number (takes_of rfl rfl rfl rfl) (pa_cons (pv 1) (pa_cons pe_int pa_nil)))))
      (pss_one (ps_raise rfl (takes_of rfl rfl rfl rfl) (pmk_own PySem.F.excBase_ValueError T.x_NoPiece.x T.g_NoPiece T.x_NoPiece.kp (raises_own T.x_NoPiece.sub T.x_NoPiece.ty) rfl)))
      pss_nil)
      (pss_one (ps_fld (pv 0) (pv 1) rfl))), ?_⟩
    refine ⟨_, rfl, x, 0, rfl, cl, _, rfl, ?_⟩
    cases e : isN 0 x with
    | false => exact qe e
    | true =>
      refine iteF ?_
      refine ⟨_, rfl, _, rfl, a, _, dx, [], rfl, ha, T.c_At, T.a_At_moment, by decide, ?_⟩
      exact q e
theorem isN_nat {n m : Nat} (h : m ≤ n) : isN (m : Int) (.int (n : Nat)) = true := by
  show (true && decide ((m : Int) ≤ (n : Int))) = true
  rw [decide_eq_true (by omega)]
  rfl
theorem at_new {K : PySem.W.Frag} {H : Hp} {x dx : Addr} {n : Nat} {Q : VK} {E : XK} (nx : H x = none) (nd : H dx = none) (ne : dx ≠ x) (q : ∀ H', Ex H H' → AtAt K H' x n → Q .non H') :
    sp_At_init K [.ref x, .int (n : Nat)] (upd (upd H dx (.own x)) x (.ins (AtC K) dx [])) Q E := by
  refine ⟨x, dx, _, rfl, upd_same, cl_int _, fun _ => q _ ?_ ⟨dx, upd_same⟩, fun z => ?_⟩
  · exact ex_mut (ex_made nx nd ne) nx
  · rw [show isN 0 (.int (n : Nat)) = true from isN_nat (m := 0) (Nat.zero_le _)] at z
    cases z
theorem ok_At_init {P : Program} {w : World} {K : PySem.W.Frag} {mg : Str → Option Value} {base : Heap} (T : Env K mg) : Fc P w K mg base 2 (He.ma K (He.ga K "At") "__init__") [] (sp_At_init K ) := by
  obtain ⟨fd, D, F⟩ := fb_At_init T
  exact F.all (D.bindsN fun _ _ _ _ _ _ us hl => match us, hl with | [_, _], _ => rfl)
end
section
def sp_At_ends (K : PySem.W.Frag) : Sp := fun vs H Q _ => ∃ a n, vs = [.ref a] ∧ AtAt K H a n ∧ Q (.int (n : Nat)) H
theorem fb_At_ends {P : Program} {w : World} {K : PySem.W.Frag} {mg : Str → Option Value} {base : Heap} (T : Env K mg) : ∃ fd, FunD K "ends" "At.ends" (defArgs s_At_ends) (defBody s_At_ends) (defScope s_At_ends) [] [] (He.ma K (He.ga K "At") "ends") fd ∧ Fb P w K mg base 1 (He.ma K (He.ga K "At") "ends") fd ["self"] (sp_At_ends K) := by
  obtain ⟨fd, F⟩ := T.f_At_ends
  refine ⟨fd, F, fb_of F sc_At_ends (fun vs H Q E h => ?_) (fun cdv A outer s H vs Q E hr h => ?_)⟩
  · obtain ⟨a, n, rfl, _⟩ := h
    rfl
  · obtain ⟨a, n, rfl, ⟨dx, ha⟩, q⟩ := h
    refine ⟨_, (pss_one (ps_ret (pe_fld (pv 0) (by rfl)))), ?_⟩
    exact ⟨_, rfl, a, _, dx, _, _, rfl, ha, T.c_At, T.a_At_moment, rfl, q⟩
theorem ok_At_ends {P : Program} {w : World} {K : PySem.W.Frag} {mg : Str → Option Value} {base : Heap} (T : Env K mg) : Fc P w K mg base 1 (He.ma K (He.ga K "At") "ends") [] (sp_At_ends K ) := by
  obtain ⟨fd, D, F⟩ := fb_At_ends T
  exact F.all (D.bindsN fun _ _ _ _ _ _ us hl => match us, hl with | [_], _ => rfl)
end
section
/-- the moments of ns, over and over -/
def overN (ns : List Nat) (m s : Nat) : List Nat := (List.range m).flatMap fun t => ns.map fun n => n + t * s
theorem overN_len (ns : List Nat) (m s : Nat) : (overN ns m s).length = m * ns.length := by
  unfold overN
  induction m with
  | zero => simp
  | succ m ih =>
    rw [List.range_succ, List.flatMap_append, List.length_append, ih]
    simp
    rw [Nat.add_mul, Nat.one_mul]
theorem overN_succ (ns : List Nat) (m s : Nat) : overN ns (m + 1) s = overN ns m s ++ ns.map fun n => n + m * s := by
  unfold overN
  rw [List.range_succ, List.flatMap_append]
  simp
/-- shorts -/
inductive Tr where
  | at (n : Nat)
  | ov (ps : List Tr) (m s : Nat)
mutual
def Tr.moms : Tr → List Nat
  | .at n => [n]
  | .ov ps m s => overN (momsL ps) m s
def momsL : List Tr → List Nat
  | [] => []
  | t :: ts => t.moms ++ momsL ts
end
mutual
def Tr.nest : Tr → Nat
  | .at _ => 0
  | .ov ps _ _ => 1 + nestL ps
def nestL : List Tr → Nat
  | [] => 0
  | t :: ts => max t.nest (nestL ts)
end
theorem momsL_app (a b : List Tr) : momsL (a ++ b) = momsL a ++ momsL b := by
  induction a with
  | nil => simp [momsL]
  | cons t r ih => simp [momsL, ih]
theorem nestL_mem {t : Tr} : ∀ {ts : List Tr}, t ∈ ts → t.nest ≤ nestL ts
  | x :: r, h => by
    show _ ≤ max x.nest (nestL r)
    rcases List.mem_cons.mp h with rfl | h
    · exact Nat.le_max_left _ _
    · exact Nat.le_trans (nestL_mem h) (Nat.le_max_right _ _)
theorem nestL_max : ∀ {ts : List Tr}, ts ≠ [] → ∃ t ∈ ts, t.nest = nestL ts
  | [t], _ => ⟨t, List.mem_cons_self, by show _ = max t.nest 0; omega⟩
  | t :: x :: r, _ => by
    obtain ⟨y, hy, e⟩ := nestL_max (ts := x :: r) (by simp)
    have e2 : nestL (t :: x :: r) = max t.nest (nestL (x :: r)) := by simp [nestL]
    by_cases c : nestL (x :: r) ≤ t.nest
    · exact ⟨t, List.mem_cons_self, by omega⟩
    · exact ⟨y, List.mem_cons_of_mem _ hy, by omega⟩
theorem momsL_take {ts : List Tr} {i : Nat} {t : Tr} (h : ts[i]? = some t) : momsL (ts.take (i + 1)) = momsL (ts.take i) ++ t.moms := by
  rw [take_snoc h, momsL_app]
  simp [momsL]
theorem momsL_take_len (ts : List Tr) (i : Nat) : (momsL (ts.take i)).length ≤ (momsL ts).length := by
  conv => rhs; rw [← List.take_append_drop i ts, momsL_app, List.length_append]
  omega
mutual
/-- a short that may be made -/
def Tr.ok : Tr → Prop
  | .at _ => True
  | .ov ps m s => ps ≠ [] ∧ 2 ≤ m ∧ 1 ≤ s ∧ m * (momsL ps).length ≤ 1440 ∧ (momsL ps).getLastD 0 < s + (momsL ps).headD 0 ∧ (momsL ps).Pairwise (· < ·) ∧ okL_ ps
def okL_ : List Tr → Prop
  | [] => True
  | t :: ts => t.ok ∧ okL_ ts
end
theorem okL_mem {t : Tr} : ∀ {ts : List Tr}, okL_ ts → t ∈ ts → t.ok
  | x :: r, h, hm => by
    unfold okL_ at h
    rcases List.mem_cons.mp hm with rfl | hm
    · exact h.1
    · exact okL_mem h.2 hm
theorem pos_moms (t : Tr) (h : t.ok) : 1 ≤ t.moms.length := by
  match t, h with
  | .at n, _ =>
    unfold Tr.moms
    exact Nat.le_refl _
  | .ov (x :: r) m s, h =>
    unfold Tr.ok at h
    obtain ⟨_, h2, _, _, _, _, h7⟩ := h
    unfold Tr.moms
    rw [overN_len]
    have hx : 1 ≤ x.moms.length := pos_moms x (by unfold okL_ at h7; exact h7.1)
    have : 1 ≤ (momsL (x :: r)).length := by
      unfold momsL
      rw [List.length_append]
      omega
    exact Nat.le_trans (by decide) (Nat.mul_le_mul h2 this)
  | .ov [] m s, h =>
    unfold Tr.ok at h
    exact absurd rfl h.1
theorem len_moms : ∀ {ts : List Tr}, okL_ ts → ts.length ≤ (momsL ts).length
  | [], _ => Nat.le_refl _
  | t :: ts, h => by
    unfold okL_ at h
    have h1 := pos_moms t h.1
    have h2 := len_moms h.2
    unfold momsL
    rw [List.length_cons, List.length_append]
    omega
theorem ov_facts {ps : List Tr} {m s : Nat} (h : (Tr.ov ps m s).ok) : ps ≠ [] ∧ 2 ≤ m ∧ m ≤ 1440 ∧ m * (momsL ps).length ≤ 1440 ∧ (momsL ps).length ≤ 1440 ∧ ps.length ≤ 1440 ∧ okL_ ps := by
  unfold Tr.ok at h
  obtain ⟨h1, h2, h3, h4, _, _, h7⟩ := h
  have h8 := len_moms h7
  have h9 : 0 < ps.length := List.length_pos_iff.mpr h1
  have h10 : m ≤ m * (momsL ps).length := Nat.le_mul_of_pos_right m (by omega)
  have h11 : (momsL ps).length ≤ m * (momsL ps).length := Nat.le_mul_of_pos_left _ (by omega)
  exact ⟨h1, h2, by omega, h4, by omega, by omega, h7⟩
theorem momsL_few : ∀ {ts : List Tr}, okL_ ts → (momsL ts).length ≤ 1440 * ts.length
  | [], _ => by
    unfold momsL
    exact Nat.zero_le _
  | t :: r, h => by
    have h1 : t.moms.length ≤ 1440 := by
      have h2 := h
      unfold okL_ at h2
      cases t with
      | «at» n =>
        unfold Tr.moms
        show 1 ≤ 1440
        decide
      | ov ps m s =>
        have h3 := h2.1
        unfold Tr.ok at h3
        unfold Tr.moms
        rw [overN_len]
        exact h3.2.2.2.1
    have h2 : (momsL r).length ≤ 1440 * r.length := momsL_few (by unfold okL_ at h; exact h.2)
    unfold momsL
    rw [List.length_append, List.length_cons]
    omega
theorem ov_nest {ps : List Tr} {m s d : Nat} (h : (Tr.ov ps m s).nest ≤ d + 1) : nestL ps ≤ d := by
  unfold Tr.nest at h
  omega
theorem headD_app {a b : List Nat} (h : a ≠ []) : (a ++ b).headD 0 = a.headD 0 := by
  cases a with
  | nil => exact absurd rfl h
  | cons x r => rfl
theorem lastD_app {a b : List Nat} (h : b ≠ []) : (a ++ b).getLastD 0 = b.getLastD 0 := by
  rw [List.getLastD_eq_getLast?, List.getLastD_eq_getLast?, List.getLast?_append]
  cases hb : b.getLast? with
  | none => exact absurd (List.getLast?_eq_none_iff.mp hb) h
  | some x => rfl
theorem lastD_map {a : List Nat} (k : Nat) (h : a ≠ []) : (a.map fun n => n + k).getLastD 0 = a.getLastD 0 + k := by
  rw [List.getLastD_eq_getLast?, List.getLastD_eq_getLast?, List.getLast?_map]
  cases hb : a.getLast? with
  | none => exact absurd (List.getLast?_eq_none_iff.mp hb) h
  | some x => rfl
theorem overN_head {ns : List Nat} {s : Nat} (h : ns ≠ []) : ∀ m, 1 ≤ m → (overN ns m s).headD 0 = ns.headD 0
  | 1, _ => by
    rw [overN_succ]
    show ([] ++ ns.map fun n => n + 0 * s).headD 0 = _
    cases ns with
    | nil => exact absurd rfl h
    | cons x r => simp
  | m + 2, _ => by
    have ih := overN_head (s := s) h (m + 1) (by omega)
    have ne : overN ns (m + 1) s ≠ [] := fun z => by
      have := congrArg List.length z
      rw [overN_len] at this
      have p : 0 < ns.length := List.length_pos_iff.mpr h
      have : (m + 1) * ns.length = 0 := this
      have := Nat.mul_pos (show 0 < m + 1 by omega) p
      omega
    rw [overN_succ, headD_app ne, ih]
theorem overN_last {ns : List Nat} {m s : Nat} (h : ns ≠ []) (hm : 1 ≤ m) : (overN ns m s).getLastD 0 = ns.getLastD 0 + (m - 1) * s := by
  obtain ⟨k, rfl⟩ : ∃ k, m = k + 1 := ⟨m - 1, by omega⟩
  rw [overN_succ, lastD_app (by intro z; exact h (List.map_eq_nil_iff.mp z)), lastD_map _ h]
  rfl
theorem moms_ne {t : Tr} (h : t.ok) : t.moms ≠ [] := fun z => by
  have := pos_moms t h
  rw [z] at this
  exact absurd this (by decide)
theorem momsL_ne {ts : List Tr} (h : okL_ ts) (h0 : ts ≠ []) : momsL ts ≠ [] := fun z => by
  have h1 := len_moms h
  rw [z] at h1
  exact h0 (List.length_eq_zero_iff.mp (Nat.le_zero.mp h1))
theorem momsL_head {t : Tr} {ts : List Tr} (h : okL_ (t :: ts)) : (momsL (t :: ts)).headD 0 = t.moms.headD 0 := by
  have e : momsL (t :: ts) = t.moms ++ momsL ts := by simp [momsL]
  rw [e, headD_app (moms_ne (okL_mem h List.mem_cons_self))]
theorem momsL_last {t : Tr} {ts : List Tr} (h : okL_ (ts ++ [t])) : (momsL (ts ++ [t])).getLastD 0 = t.moms.getLastD 0 := by
  have ht : t.ok := okL_mem h (List.mem_append_right _ List.mem_cons_self)
  have e : momsL [t] = t.moms := by simp [momsL]
  rw [momsL_app, e, lastD_app (moms_ne ht)]
theorem last_ref {as : List Addr} (h : as ≠ []) : ∃ b, as[as.length - 1]? = some b ∧ atI (as.map V.ref) (-1) = some (.ref b) := by
  refine ⟨as.getLast h, ?_, ?_⟩
  · have p : 0 < as.length := List.length_pos_iff.mpr h
    rw [List.getLast_eq_getElem, List.getElem?_eq_getElem (by omega)]
  · have e := (List.dropLast_concat_getLast h).symm
    generalize as.getLast h = z at e
    rw [e, List.map_append]
    exact atI_last _ _
/-- rising: each behind the end of the one ahead -/
def risB (ts : List Tr) : Bool := (ts.zip (ts.drop 1)).all fun p => decide (p.1.moms.getLastD 0 < p.2.moms.headD 0)
theorem all_repT (n : Nat) : (List.replicate n true).all id = true := by
  induction n with
  | zero => rfl
  | succ n ih =>
    rw [List.replicate_succ, List.all_cons, ih]
    rfl
theorem lastD_mem {ns : List Nat} (h : ns ≠ []) : ns.getLastD 0 ∈ ns := by
  rw [List.getLastD_eq_getLast?, List.getLast?_eq_some_getLast h]
  exact List.getLast_mem h
theorem headD_mem {ns : List Nat} (h : ns ≠ []) : ns.headD 0 ∈ ns := by
  cases ns with
  | nil => exact absurd rfl h
  | cons x r => exact List.mem_cons_self
theorem ris_of : ∀ {ts : List Tr}, okL_ ts → (momsL ts).Pairwise (· < ·) → risB ts = true
  | [], _, _ => rfl
  | [t], _, _ => rfl
  | t :: x :: r, h, hs => by
    have hok : okL_ (x :: r) := by
      unfold okL_ at h
      exact h.2
    have e : momsL (t :: x :: r) = t.moms ++ momsL (x :: r) := by rw [momsL]
    rw [e] at hs
    obtain ⟨h1, h2, h3⟩ := List.pairwise_append.mp hs
    have ih := ris_of hok h2
    have lt := h3 _ (lastD_mem (moms_ne (okL_mem h List.mem_cons_self))) _ (headD_mem (momsL_ne hok (by simp)))
    rw [momsL_head hok] at lt
    show (decide (t.moms.getLastD 0 < x.moms.headD 0) && risB (x :: r)) = true
    rw [decide_eq_true lt, ih]
    rfl
end
section
abbrev OverC (K : PySem.W.Frag) : Addr := He.ga K "Over"
def overF (kp : Addr) (m s : Nat) : List (Str × V) := [("kept", .ref kp), ("many", .int (m : Nat)), ("step", .int (s : Nat))]
mutual
/-- at a this short -/
def ShAt (K : PySem.W.Frag) (H : Hp) : Tr → Addr → Prop
  | .at n, a => AtAt K H a n
  | .ov ps m s, a => ∃ dx kp as, H a = some (.ins (OverC K) dx (overF kp m s)) ∧ H kp = some (.tup (as.map V.ref)) ∧ ShsAt K H ps as
def ShsAt (K : PySem.W.Frag) (H : Hp) : List Tr → List Addr → Prop
  | [], as => as = []
  | t :: ts, as => ∃ a r, as = a :: r ∧ ShAt K H t a ∧ ShsAt K H ts r
end
mutual
theorem ShAt.mono {K : PySem.W.Frag} {H H' : Hp} (e : Ex H H') : ∀ {t : Tr} {a : Addr}, ShAt K H t a → ShAt K H' t a
  | .at n, a, h => by
    unfold ShAt at h ⊢
    exact AtAt.mono h e
  | .ov ps m s, a, h => by
    unfold ShAt at h ⊢
    obtain ⟨dx, kp, as, h1, h2, h3⟩ := h
    exact ⟨dx, kp, as, e _ _ h1, e _ _ h2, ShsAt.mono e h3⟩
theorem ShsAt.mono {K : PySem.W.Frag} {H H' : Hp} (e : Ex H H') : ∀ {ts : List Tr} {as : List Addr}, ShsAt K H ts as → ShsAt K H' ts as
  | [], as, h => by
    unfold ShsAt at h ⊢
    exact h
  | t :: ts, as, h => by
    unfold ShsAt at h ⊢
    obtain ⟨a, r, h1, h2, h3⟩ := h
    exact ⟨a, r, h1, ShAt.mono e h2, ShsAt.mono e h3⟩
end
theorem ShsAt.len {K : PySem.W.Frag} {H : Hp} : ∀ {ts : List Tr} {as : List Addr}, ShsAt K H ts as → as.length = ts.length
  | [], as, h => by
    unfold ShsAt at h
    rw [h]
    rfl
  | t :: ts, as, h => by
    unfold ShsAt at h
    obtain ⟨a, r, rfl, _, h3⟩ := h
    rw [List.length_cons, List.length_cons, ShsAt.len h3]
theorem ShsAt.get {K : PySem.W.Frag} {H : Hp} : ∀ {ts : List Tr} {as : List Addr} {i : Nat} {a : Addr}, ShsAt K H ts as → as[i]? = some a → ∃ t, ts[i]? = some t ∧ ShAt K H t a
  | [], as, i, a, h, hi => by
    unfold ShsAt at h
    rw [h] at hi
    cases hi
  | t :: ts, as, i, a, h, hi => by
    unfold ShsAt at h
    obtain ⟨b, r, rfl, h2, h3⟩ := h
    cases i with
    | zero =>
      cases hi
      exact ⟨t, rfl, h2⟩
    | succ i => exact ShsAt.get (i := i) h3 hi
/-- nothing in it is a list -/
theorem ShAt.ins {K : PySem.W.Frag} {H : Hp} {t : Tr} {a : Addr} (h : ShAt K H t a) : ∃ C dx fs, H a = some (.ins C dx fs) := by
  cases t with
  | «at» n =>
    unfold ShAt at h
    obtain ⟨dx, h⟩ := h
    exact ⟨_, dx, _, h⟩
  | ov ps m s =>
    unfold ShAt at h
    obtain ⟨dx, kp, as, h1, _⟩ := h
    exact ⟨_, dx, _, h1⟩
mutual
theorem ShAt.oth {K : PySem.W.Frag} {H H' : Hp} {d : Addr} (o : Oth d H H') (hd : ∀ ob, H d = some ob → (∃ xs, ob = .lst xs)) : ∀ {t : Tr} {a : Addr}, ShAt K H t a → ShAt K H' t a
  | .at n, a, h => by
    unfold ShAt at h ⊢
    obtain ⟨dx, h⟩ := h
    refine ⟨dx, o _ _ (fun z => ?_) h⟩
    obtain ⟨xs, e⟩ := hd _ (z ▸ h)
    cases e
  | .ov ps m s, a, h => by
    unfold ShAt at h ⊢
    obtain ⟨dx, kp, as, h1, h2, h3⟩ := h
    refine ⟨dx, kp, as, o _ _ (fun z => ?_) h1, o _ _ (fun z => ?_) h2, ShsAt.oth o hd h3⟩
    · obtain ⟨xs, e⟩ := hd _ (z ▸ h1)
      cases e
    · obtain ⟨xs, e⟩ := hd _ (z ▸ h2)
      cases e
theorem ShsAt.oth {K : PySem.W.Frag} {H H' : Hp} {d : Addr} (o : Oth d H H') (hd : ∀ ob, H d = some ob → (∃ xs, ob = .lst xs)) : ∀ {ts : List Tr} {as : List Addr}, ShsAt K H ts as → ShsAt K H' ts as
  | [], as, h => by
    unfold ShsAt at h ⊢
    exact h
  | t :: ts, as, h => by
    unfold ShsAt at h ⊢
    obtain ⟨a, r, h1, h2, h3⟩ := h
    exact ⟨a, r, h1, ShAt.oth o hd h2, ShsAt.oth o hd h3⟩
end
def sp_Over_moments (K : PySem.W.Frag) (d : Nat) : Sp := fun vs H Q _ => ∃ a ps m s, vs = [.ref a] ∧ ShAt K H (.ov ps m s) a ∧ (Tr.ov ps m s).nest ≤ d ∧ (Tr.ov ps m s).ok ∧ ∀ p H', Ex H H' → H p = none → H' p = some (.lst (natV (Tr.ov ps m s).moms)) → Q (.ref p) H'
def sp_Over_means_many (K : PySem.W.Frag) (d : Nat) : Sp := fun vs H Q _ => ∃ a ps m s, vs = [.ref a] ∧ ShAt K H (.ov ps m s) a ∧ (Tr.ov ps m s).nest ≤ d ∧ okL_ ps ∧ ps.length ≤ 20000 ∧ ∀ H', Ex H H' → Q (.int ((m * (momsL ps).length : Nat) : Int)) H'
def sp_Over_nested (K : PySem.W.Frag) (d : Nat) : Sp := fun vs H Q _ => ∃ a ps m s, vs = [.ref a] ∧ ShAt K H (.ov ps m s) a ∧ (Tr.ov ps m s).nest ≤ d ∧ ps ≠ [] ∧ okL_ ps ∧ ps.length ≤ 20000 ∧ ∀ H', Ex H H' → Q (.int (((Tr.ov ps m s).nest : Nat) : Int)) H'
def sp_Over_begins (K : PySem.W.Frag) (d : Nat) : Sp := fun vs H Q _ => ∃ a ps m s, vs = [.ref a] ∧ ShAt K H (.ov ps m s) a ∧ (Tr.ov ps m s).nest ≤ d ∧ (Tr.ov ps m s).ok ∧ Q (.int ((((Tr.ov ps m s).moms.headD 0 : Nat)) : Int)) H
def sp_Over_ends (K : PySem.W.Frag) (d : Nat) : Sp := fun vs H Q _ => ∃ a ps m s, vs = [.ref a] ∧ ShAt K H (.ov ps m s) a ∧ (Tr.ov ps m s).nest ≤ d ∧ (Tr.ov ps m s).ok ∧ Q (.int ((((Tr.ov ps m s).moms.getLastD 0 : Nat)) : Int)) H
theorem ShsAt.snoc {K : PySem.W.Frag} {H : Hp} {t : Tr} {a : Addr} : ∀ {ts : List Tr} {as : List Addr}, ShsAt K H ts as → ShAt K H t a → ShsAt K H (ts ++ [t]) (as ++ [a])
  | [], as, h, ha => by
    unfold ShsAt at h
    rw [h]
    show ShsAt K H [t] [a]
    unfold ShsAt
    exact ⟨a, [], rfl, ha, by unfold ShsAt; rfl⟩
  | x :: ts, as, h, ha => by
    unfold ShsAt at h
    obtain ⟨b, r, rfl, h2, h3⟩ := h
    show ShsAt K H (x :: (ts ++ [t])) (b :: (r ++ [a]))
    unfold ShsAt
    exact ⟨b, r ++ [a], rfl, h2, ShsAt.snoc h3 ha⟩
end
section
theorem fb_Over_ends {P : Program} {w : World} {K : PySem.W.Frag} {mg : Str → Option Value} {base : Heap} (T : Env K mg) {d L : Nat} (hL : 40 ≤ L) (r_Over_ends : Fc P w K mg base L (He.ma K (He.ga K "Over") "ends") [] (sp_Over_ends K d)) : ∃ fd, FunD K "ends" "Over.ends" (defArgs s_Over_ends) (defBody s_Over_ends) (defScope s_Over_ends) [] [] (He.ma K (He.ga K "Over") "ends") fd ∧ Fb P w K mg base (L + 1) (He.ma K (He.ga K "Over") "ends") fd ["self"] (sp_Over_ends K (d + 1)) := by
  obtain ⟨fd, F⟩ := T.f_Over_ends
  refine ⟨fd, F, fb_of F sc_Over_ends (fun vs H Q E h => ?_) (fun cdv A outer s H vs Q E hr h => ?_)⟩
  · obtain ⟨a, ps, m, s, rfl, _⟩ := h
    rfl
  · obtain ⟨a, ps, m, s_, rfl, hO, hn, hok, q⟩ := h
    refine ⟨_, (pss_one (ps_ret (pe_op op_add (pe_orE (c_meth0 (pe_ix ix_tup (pe_fld (pv 0) (by rfl)) (pe_un un_neg pe_int) (fun _ _ => rfl)) T.c_At T.m_At_ends (ok_At_ends T) (hr.mono (by omega)) takes0) (c_meth0 (pe_ix ix_tup (pe_fld (pv 0) (by rfl)) (pe_un un_neg pe_int) (fun _ _ => rfl)) T.c_Over T.m_Over_ends r_Over_ends (hr.mono (by omega)) takes0)) (pe_op op_mul (pe_op op_sub (pe_fld (pv 0) (by rfl)) pe_int) (pe_fld (pv 0) (by rfl)))))), ?_⟩
    have hnL := ov_nest hn
    obtain ⟨o1, o2, _, _, _, _, o7⟩ := ov_facts hok
    have nn := momsL_ne o7 o1
    unfold Tr.moms at q
    obtain ⟨dx, kp, as, ha, hk, hA⟩ := (by unfold ShAt at hO; exact hO : ∃ dx kp as, H a = some (.ins (OverC K) dx (overF kp m s_)) ∧ H kp = some (.tup (as.map V.ref)) ∧ ShsAt K H ps as)
    rw [overN_last nn (by omega)] at q
    have hm := (ov_facts hok).2.2.1
    have hl1 := hA.len
    have as0 : as ≠ [] := fun z => by
      rw [z] at hl1
      exact o1 (List.length_eq_zero_iff.mp hl1.symm)
    obtain ⟨b, gb, aL⟩ := last_ref as0
    obtain ⟨t, ht, hS⟩ := hA.get gb
    have ep : ps = ps.dropLast ++ [t] := by
      have e := (List.dropLast_concat_getLast o1).symm
      have e2 : ps.getLast o1 = t := by
        rw [List.getLast_eq_getElem]
        rw [hl1] at ht
        obtain ⟨_, e⟩ := List.getElem?_eq_some_iff.mp ht
        exact e
      rw [e2] at e
      exact e
    have htm := List.mem_of_getElem? ht
    have eL : (momsL ps).getLastD 0 = t.moms.getLastD 0 := by
      rw [ep] at o7 ⊢
      exact momsL_last o7
    rw [eL] at q
    have ok := okL_mem o7 htm
    have tn := Nat.le_trans (nestL_mem htm) hnL
    have e : ((t.moms.getLastD 0 : Nat) : Int) + (((m : Nat) : Int) - 1) * ((s_ : Nat) : Int) = ((t.moms.getLastD 0 + (m - 1) * s_ : Nat) : Int) := by
      rw [Int.natCast_add, Int.natCast_mul, Int.natCast_sub (by omega)]
      rfl
    rw [← e] at q
    cases t with
    | «at» n =>
      unfold ShAt at hS
      obtain ⟨dy, h2⟩ := id hS
      unfold Tr.moms at q
      exact .inl ⟨_, rfl, a, _, dx, _, _, rfl, ha, T.c_Over, T.a_Over_kept, rfl, _, rfl, kp, _, _, _, rfl, rfl, sq_tup hk, aL, b, dy, _, rfl, h2, rfl, b, n, rfl, hS, _, rfl, a, _, dx, _, _, rfl, ha, T.c_Over, T.a_Over_many, rfl, _, _, rfl, rfl, _, rfl, a, _, dx, _, _, rfl, ha, T.c_Over, T.a_Over_step, rfl, _, _, rfl, rfl, .inl ⟨by omega, by omega⟩, _, _, rfl, rfl, q⟩
    | ov ps' m' s' =>
      obtain ⟨dy, kp', as', h2, _⟩ := (by unfold ShAt at hS; exact hS : ∃ dx kp as, H b = some (.ins (OverC K) dx (overF kp m' s')) ∧ H kp = some (.tup (as.map V.ref)) ∧ ShsAt K H ps' as)
      exact .inr ⟨_, rfl, a, _, dx, _, _, rfl, ha, T.c_Over, T.a_Over_kept, rfl, _, rfl, kp, _, _, _, rfl, rfl, sq_tup hk, aL, b, dy, _, rfl, h2, rfl, b, ps', m', s', rfl, hS, tn, ok, _, rfl, a, _, dx, _, _, rfl, ha, T.c_Over, T.a_Over_many, rfl, _, _, rfl, rfl, _, rfl, a, _, dx, _, _, rfl, ha, T.c_Over, T.a_Over_step, rfl, _, _, rfl, rfl, .inl ⟨by omega, by omega⟩, _, _, rfl, rfl, q⟩
theorem ok_Over_ends {P : Program} {w : World} {K : PySem.W.Frag} {mg : Str → Option Value} {base : Heap} (T : Env K mg) {d L : Nat} (hL : 40 ≤ L) (r_Over_ends : Fc P w K mg base L (He.ma K (He.ga K "Over") "ends") [] (sp_Over_ends K d)) : Fc P w K mg base (L + 1) (He.ma K (He.ga K "Over") "ends") [] (sp_Over_ends K (d + 1)) := by
  obtain ⟨fd, D, F⟩ := fb_Over_ends T hL r_Over_ends
  exact F.all (D.bindsN fun _ _ _ _ _ _ us hl => match us, hl with | [_], _ => rfl)
theorem all_Over_ends {P : Program} {w : World} {K : PySem.W.Frag} {mg : Str → Option Value} {base : Heap} (T : Env K mg) : ∀ d, Fc P w K mg base (40 + 1 * d) (He.ma K (He.ga K "Over") "ends") [] (sp_Over_ends K d)
  | 0 => fc_no fun vs H Q E h => by
    obtain ⟨a, ps, m, s, _, _, h, _⟩ := h
    unfold Tr.nest at h
    omega
  | d + 1 => ok_Over_ends T (Nat.le_add_right 40 _) (all_Over_ends T d)
end
section
def sp_At_begins (K : PySem.W.Frag) : Sp := fun vs H Q _ => ∃ a n, vs = [.ref a] ∧ AtAt K H a n ∧ Q (.int (n : Nat)) H
theorem fb_At_begins {P : Program} {w : World} {K : PySem.W.Frag} {mg : Str → Option Value} {base : Heap} (T : Env K mg) : ∃ fd, FunD K "begins" "At.begins" (defArgs s_At_begins) (defBody s_At_begins) (defScope s_At_begins) [] [] (He.ma K (He.ga K "At") "begins") fd ∧ Fb P w K mg base 1 (He.ma K (He.ga K "At") "begins") fd ["self"] (sp_At_begins K) := by
  obtain ⟨fd, F⟩ := T.f_At_begins
  refine ⟨fd, F, fb_of F sc_At_begins (fun vs H Q E h => ?_) (fun cdv A outer s H vs Q E hr h => ?_)⟩
  · obtain ⟨a, n, rfl, _⟩ := h
    rfl
  · obtain ⟨a, n, rfl, ⟨dx, ha⟩, q⟩ := h
    refine ⟨_, (pss_one (ps_ret (pe_fld (pv 0) (by rfl)))), ?_⟩
    exact ⟨_, rfl, a, _, dx, _, _, rfl, ha, T.c_At, T.a_At_moment, rfl, q⟩
theorem ok_At_begins {P : Program} {w : World} {K : PySem.W.Frag} {mg : Str → Option Value} {base : Heap} (T : Env K mg) : Fc P w K mg base 1 (He.ma K (He.ga K "At") "begins") [] (sp_At_begins K ) := by
  obtain ⟨fd, D, F⟩ := fb_At_begins T
  exact F.all (D.bindsN fun _ _ _ _ _ _ us hl => match us, hl with | [_], _ => rfl)
end
section
theorem fb_Over_begins {P : Program} {w : World} {K : PySem.W.Frag} {mg : Str → Option Value} {base : Heap} (T : Env K mg) {d L : Nat} (hL : 40 ≤ L) (r_Over_begins : Fc P w K mg base L (He.ma K (He.ga K "Over") "begins") [] (sp_Over_begins K d)) : ∃ fd, FunD K "begins" "Over.begins" (defArgs s_Over_begins) (defBody s_Over_begins) (defScope s_Over_begins) [] [] (He.ma K (He.ga K "Over") "begins") fd ∧ Fb P w K mg base (L + 1) (He.ma K (He.ga K "Over") "begins") fd ["self"] (sp_Over_begins K (d + 1)) := by
  obtain ⟨fd, F⟩ := T.f_Over_begins
  refine ⟨fd, F, fb_of F sc_Over_begins (fun vs H Q E h => ?_) (fun cdv A outer s H vs Q E hr h => ?_)⟩
  · obtain ⟨a, ps, m, s, rfl, _⟩ := h
    rfl
  · obtain ⟨a, ps, m, s_, rfl, hO, hn, hok, q⟩ := h
    refine ⟨_, (pss_one (ps_ret (pe_orE (c_meth0 (pe_ix ix_tup (pe_fld (pv 0) (by rfl)) pe_int (fun _ _ => rfl)) T.c_At T.m_At_begins (ok_At_begins T) (hr.mono (by omega)) takes0) (c_meth0 (pe_ix ix_tup (pe_fld (pv 0) (by rfl)) pe_int (fun _ _ => rfl)) T.c_Over T.m_Over_begins r_Over_begins (hr.mono (by omega)) takes0)))), ?_⟩
    have hnL := ov_nest hn
    obtain ⟨o1, o2, _, _, _, _, o7⟩ := ov_facts hok
    have nn := momsL_ne o7 o1
    unfold Tr.moms at q
    obtain ⟨dx, kp, as, ha, hk, hA⟩ := (by unfold ShAt at hO; exact hO : ∃ dx kp as, H a = some (.ins (OverC K) dx (overF kp m s_)) ∧ H kp = some (.tup (as.map V.ref)) ∧ ShsAt K H ps as)
    rw [overN_head nn m (by omega)] at q
    cases ps with
    | nil => exact absurd rfl o1
    | cons t ts =>
      rw [momsL_head o7] at q
      unfold ShsAt at hA
      obtain ⟨b, r, rfl, hS, _⟩ := hA
      have aF : atI ((b :: r).map V.ref) 0 = some (.ref b) := atI_nat (j := 0) rfl
      have ok := okL_mem o7 (List.mem_cons_self (a := t) (l := ts))
      have tn := Nat.le_trans (nestL_mem (List.mem_cons_self (a := t) (l := ts))) hnL
      cases t with
      | «at» n =>
        unfold ShAt at hS
        obtain ⟨dy, h2⟩ := id hS
        exact .inl ⟨_, rfl, a, _, dx, _, _, rfl, ha, T.c_Over, T.a_Over_kept, rfl, kp, _, _, _, rfl, rfl, sq_tup hk, aF, b, dy, _, rfl, h2, rfl, b, n, rfl, hS, by unfold Tr.moms at q; exact q⟩
      | ov ps' m' s' =>
        obtain ⟨dy, kp', as', h2, _⟩ := (by unfold ShAt at hS; exact hS : ∃ dx kp as, H b = some (.ins (OverC K) dx (overF kp m' s')) ∧ H kp = some (.tup (as.map V.ref)) ∧ ShsAt K H ps' as)
        exact .inr ⟨_, rfl, a, _, dx, _, _, rfl, ha, T.c_Over, T.a_Over_kept, rfl, kp, _, _, _, rfl, rfl, sq_tup hk, aF, b, dy, _, rfl, h2, rfl, b, ps', m', s', rfl, hS, tn, ok, q⟩
theorem ok_Over_begins {P : Program} {w : World} {K : PySem.W.Frag} {mg : Str → Option Value} {base : Heap} (T : Env K mg) {d L : Nat} (hL : 40 ≤ L) (r_Over_begins : Fc P w K mg base L (He.ma K (He.ga K "Over") "begins") [] (sp_Over_begins K d)) : Fc P w K mg base (L + 1) (He.ma K (He.ga K "Over") "begins") [] (sp_Over_begins K (d + 1)) := by
  obtain ⟨fd, D, F⟩ := fb_Over_begins T hL r_Over_begins
  exact F.all (D.bindsN fun _ _ _ _ _ _ us hl => match us, hl with | [_], _ => rfl)
theorem all_Over_begins {P : Program} {w : World} {K : PySem.W.Frag} {mg : Str → Option Value} {base : Heap} (T : Env K mg) : ∀ d, Fc P w K mg base (40 + 1 * d) (He.ma K (He.ga K "Over") "begins") [] (sp_Over_begins K d)
  | 0 => fc_no fun vs H Q E h => by
    obtain ⟨a, ps, m, s, _, _, h, _⟩ := h
    unfold Tr.nest at h
    omega
  | d + 1 => ok_Over_begins T (Nat.le_add_right 40 _) (all_Over_begins T d)
end
section
theorem sh_ends {K : PySem.W.Frag} {W : WX} {ta : TE} {σ : L2.St} {H : Hp} {Q : VK} {t : Tr} {a : Addr} {d : Nat} (hS : ShAt K H t a) (hok : t.ok) (hn : t.nest ≤ d) (hta : ∀ R : VK, R (.ref a) H → ta σ H R) (q : Q (.int ((t.moms.getLastD 0 : Nat) : Int)) H) : tOrE (tMt (He.ga K "At") "ends" (sp_At_ends K) W ta tNil) (tMt (He.ga K "Over") "ends" (sp_Over_ends K d) W ta tNil) σ H Q := by
  cases t with
  | «at» n =>
    unfold ShAt at hS
    obtain ⟨dy, h2⟩ := id hS
    unfold Tr.moms at q
    exact .inl (hta _ ⟨a, dy, _, rfl, h2, rfl, a, n, rfl, hS, q⟩)
  | ov ps' m' s' =>
    obtain ⟨dy, kp', as', h2, _⟩ := (by unfold ShAt at hS; exact hS : ∃ dx kp as, H a = some (.ins (OverC K) dx (overF kp m' s')) ∧ H kp = some (.tup (as.map V.ref)) ∧ ShsAt K H ps' as)
    exact .inr (hta _ ⟨a, dy, _, rfl, h2, rfl, a, ps', m', s', rfl, hS, hn, hok, q⟩)
theorem sh_begins {K : PySem.W.Frag} {W : WX} {ta : TE} {σ : L2.St} {H : Hp} {Q : VK} {t : Tr} {a : Addr} {d : Nat} (hS : ShAt K H t a) (hok : t.ok) (hn : t.nest ≤ d) (hta : ∀ R : VK, R (.ref a) H → ta σ H R) (q : Q (.int ((t.moms.headD 0 : Nat) : Int)) H) : tOrE (tMt (He.ga K "At") "begins" (sp_At_begins K) W ta tNil) (tMt (He.ga K "Over") "begins" (sp_Over_begins K d) W ta tNil) σ H Q := by
  cases t with
  | «at» n =>
    unfold ShAt at hS
    obtain ⟨dy, h2⟩ := id hS
    unfold Tr.moms at q
    exact .inl (hta _ ⟨a, dy, _, rfl, h2, rfl, a, n, rfl, hS, q⟩)
  | ov ps' m' s' =>
    obtain ⟨dy, kp', as', h2, _⟩ := (by unfold ShAt at hS; exact hS : ∃ dx kp as, H a = some (.ins (OverC K) dx (overF kp m' s')) ∧ H kp = some (.tup (as.map V.ref)) ∧ ShsAt K H ps' as)
    exact .inr (hta _ ⟨a, dy, _, rfl, h2, rfl, a, ps', m', s', rfl, hS, hn, hok, q⟩)
def sp_all_rising (K : PySem.W.Frag) : Sp := fun vs H Q _ => ∃ (p : Addr) (as : List Addr) (ts : List Tr), vs = [.ref p] ∧ H p = some (.tup (as.map V.ref)) ∧ ShsAt K H ts as ∧ nestL ts ≤ 9 ∧ okL_ ts ∧ ts.length ≤ 20000 ∧ ∀ H', Ex H H' → Q (.bl (risB ts)) H'
theorem fb_all_rising {P : Program} {w : World} {K : PySem.W.Frag} {mg : Str → Option Value} {base : Heap} (T : Env K mg) : ∃ fd, FunD K "all_rising" "all_rising" (defArgs s_all_rising) (defBody s_all_rising) (defScope s_all_rising) [] [] (He.ga K "all_rising") fd ∧ Fb P w K mg base 60 (He.ga K "all_rising") fd ["parts"] (sp_all_rising K) := by
  obtain ⟨fd, F⟩ := T.f_all_rising
  refine ⟨fd, F, fb_of F sc_all_rising (fun vs H Q E h => ?_) (fun cdv A outer s H vs Q E hr h => ?_)⟩
  · obtain ⟨p, as, ts, rfl, _⟩ := h
    rfl
  · obtain ⟨p, as, ts, rfl, hp, hA, hn, hok, hl, q⟩ := h
    refine ⟨_, (pss_one (ps_ret (pe_callB (cr_all rfl) (by rfl) T.n_all (by decide +kernel) (pa_cons (pe_lc (own := [("one", 1), ("other", 2)]) (by rfl) sc_all_rising.nd (RZ.pi_zipA (by rfl) T.n_zip (pa_cons (pv 0) (pa_cons (pe_slice sl_tupA (pv 0) (po_some pe_int) po_none) pa_nil))) (blkOk_by (own := [("one", 1), ("other", 2)]) (N := ["parts", "one", "other"]) (sc := defScope s_all_rising) (by decide +kernel)) (fun _ _ _ _ _ => (pg_tupK K (n := 2) rfl (pgs_cons (pg_name (i := 1) sc_all_rising.nd rfl (Or.inl rfl)) (pgs_cons (pg_name (i := 2) sc_all_rising.nd rfl (Or.inl rfl)) pgs_nil)))) (fun _ _ _ _ _ => pts_nil) (fun _ _ _ _ _ => (pe_cmpR op_lt (pe_orE (c_meth0 (pv 1) T.c_At T.m_At_ends (ok_At_ends T) (hr.mono (by decide)) takes0) (c_meth0 (pv 1) T.c_Over T.m_Over_ends (all_Over_ends T 9) (hr.mono (by decide)) takes0)) (pe_orE (c_meth0 (pv 2) T.c_At T.m_At_begins (ok_At_begins T) (hr.mono (by decide)) takes0) (c_meth0 (pv 2) T.c_Over T.m_Over_begins (all_Over_begins T 9) (hr.mono (by decide)) takes0)) (nomark _)))) pa_nil)))), ?_⟩
    refine ⟨_, rfl, _, rfl, _, rfl, ?_⟩
    dsimp only [tNoPart]
    refine slA_of (sq_tup hp) fun b2 H4 X4 hb2 => ?_
    rw [cut1] at hb2
    have ed : (as.map V.ref).drop 1 = (as.drop 1).map V.ref := by rw [List.map_drop]
    rw [ed] at hb2
    have hA4 := hA.mono X4
    have hl1 := hA.len
    have hz1 : (as.zip ts).map (fun p => V.ref p.1) = as.map V.ref := by
      show (as.zip ts).map (V.ref ∘ Prod.fst) = _
      rw [← List.map_map, List.map_fst_zip (by omega)]
    have hz1d : ((as.zip ts).drop 1).map (fun p => V.ref p.1) = (as.drop 1).map V.ref := by rw [List.map_drop, List.map_drop, hz1]
    have hz2 : (as.zip ts).map Prod.snd = ts := List.map_snd_zip (by omega)
    have zl : (as.zip ts).length ≤ 20000 := by rw [List.length_zip]; omega
    have hp4 : H4 p = some (.tup ((as.zip ts).map fun p => V.ref p.1)) := by rw [hz1]; exact X4 _ _ hp
    rw [← hz1d] at hb2
    refine ⟨p, b2, (as.zip ts).map (fun p => V.ref p.1), ((as.zip ts).drop 1).map (fun p => V.ref p.1), rfl, .inr ⟨sq_tup hp4, hb2, fun D nD => lc_zip (as.zip ts) ((as.zip ts).drop 1) (fun p => V.ref p.1) (fun p => V.ref p.1) (walk_zipT rfl) (by rw [List.length_map, List.length_map]) (fun x y => some (.bl (decide (x.2.moms.getLastD 0 < y.2.moms.headD 0)))) (fun H' => Ex H4 H') (fun H' z e => ex_mut e nD) (.refl _) (by omega) (fun H' e => ⟨sq_tup (e _ _ hp4), ex_sqt e hb2⟩) (fun i x y u H5 acc N hx hy X5 nu hD la k => ?_) fun H5 X5 d5 => ?_⟩⟩
    · have hD2 := fun o => ex_new (o := o) nu _ _ hD
      have Z := X5.trans (ex_new (o := .tup [.ref x.1, .ref y.1]) nu)
      rw [List.getElem?_drop] at hy
      obtain ⟨hx1, hx2⟩ := List.getElem?_zip_eq_some.mp hx
      obtain ⟨hy1, hy2⟩ := List.getElem?_zip_eq_some.mp hy
      have gx : ShAt K H4 x.2 x.1 := by
        obtain ⟨t, ht, h⟩ := hA4.get hx1
        rw [hx2] at ht
        cases ht
        exact h
      have gy : ShAt K H4 y.2 y.1 := by
        obtain ⟨t, ht, h⟩ := hA4.get hy1
        rw [hy2] at ht
        cases ht
        exact h
      have mx := List.mem_of_getElem? hx2
      have my := List.mem_of_getElem? hy2
      refine ⟨u, _, rfl, sq_tup upd_same, rfl, _, _, rfl, _, _, rfl, rfl, rfl, ?_⟩
      refine sh_ends (gx.mono Z) (okL_mem hok mx) (Nat.le_trans (nestL_mem mx) hn) (fun R r => ⟨_, rfl, r⟩) ?_
      refine sh_begins (gy.mono Z) (okL_mem hok my) (Nat.le_trans (nestL_mem my) hn) (fun R r => ⟨_, rfl, r⟩) ?_
      refine ⟨_, _, rfl, rfl, acc, hD2 _, la, ?_⟩
      have ei : decide (((x.2.moms.getLastD 0 : Nat) : Int) < ((y.2.moms.headD 0 : Nat) : Int)) = decide (x.2.moms.getLastD 0 < y.2.moms.headD 0) := decide_eq_decide.mpr ⟨fun z => by omega, fun z => by omega⟩
      show N (upd (upd H5 u (.tup [.ref x.1, .ref y.1])) D (.lst (acc ++ [.bl (decide (((x.2.moms.getLastD 0 : Nat) : Int) < ((y.2.moms.headD 0 : Nat) : Int)))])))
      rw [ei]
      exact k _ Z (hD2 _)
    · have ef : ((as.zip ts).zip ((as.zip ts).drop 1)).filterMap (fun p => some (V.bl (decide (p.1.2.moms.getLastD 0 < p.2.2.moms.headD 0)))) = ((ts.zip (ts.drop 1)).map fun p => decide (p.1.moms.getLastD 0 < p.2.moms.headD 0)).map V.bl := by
        rw [List.filterMap_eq_map', List.map_map]
        conv => rhs; rw [← hz2, ← List.map_drop, List.zip_map, List.map_map]
        rfl
      rw [ef] at d5
      refine ⟨D, _, rfl, sq_lst d5, ?_⟩
      rw [List.all_map]
      exact q _ (X4.trans X5)
theorem ok_all_rising {P : Program} {w : World} {K : PySem.W.Frag} {mg : Str → Option Value} {base : Heap} (T : Env K mg) : Fc P w K mg base 60 (He.ga K "all_rising") [] (sp_all_rising K ) := by
  obtain ⟨fd, D, F⟩ := fb_all_rising T
  exact F.all (D.bindsN fun _ _ _ _ _ _ us hl => match us, hl with | [_], _ => rfl)
end
section
/-- at p a list or a tuple -/
def SqA (H : Hp) (p : Addr) (xs : List V) : Prop := H p = some (.lst xs) ∨ H p = some (.tup xs)
def sp_shorts_in (K : PySem.W.Frag) : Sp := fun vs H Q E => ∃ (p : Addr) (as : List Addr) (ts : List Tr), vs = [.ref p] ∧ SqA H p (as.map V.ref) ∧ ShsAt K H ts as ∧ nestL ts ≤ 9 ∧ okL_ ts ∧ ts.length ≤ 20000 ∧ (risB ts = true → ∀ t H', Ex H H' → H' t = some (.tup (as.map V.ref)) → Q (.ref t) H') ∧ (risB ts = false → ∀ H', Ex H H' → E (.ref (He.ga K "NoPiece")) none H')
theorem fb_shorts_in {P : Program} {w : World} {K : PySem.W.Frag} {mg : Str → Option Value} {base : Heap} (T : Env K mg) : ∃ fd, FunD K "shorts_in" "shorts_in" (defArgs s_shorts_in) (defBody s_shorts_in) (defScope s_shorts_in) [] [] (He.ga K "shorts_in") fd ∧ Fb P w K mg base 61 (He.ga K "shorts_in") fd ["parts"] (sp_shorts_in K) := by
  obtain ⟨fd, F⟩ := T.f_shorts_in
  refine ⟨fd, F, fb_of F sc_shorts_in (fun vs H Q E h => ?_) (fun cdv A outer s H vs Q E hr h => ?_)⟩
  · obtain ⟨p, as, ts, rfl, _⟩ := h
    rfl
  · obtain ⟨p, as, ts, rfl, hp, hA, hn, hok, hl, q, qe⟩ := h
    refine ⟨_, (pss_cons (ps_if (pt_not (pt_val (pe_callB call_isiT (by rfl) T.n_isinstance (by decide +kernel) (pa_cons (pv 0) (pa_cons (pe_tup (pa_cons (pe_bltn (v := .ty "list") (by rfl) T.n_list (by decide +kernel) rfl) (pa_cons (pe_bltn (v := .ty "tuple") (by rfl) T.n_tuple (by decide +kernel) rfl) pa_nil))) pa_nil)))))
      (pss_one (ps_raise rfl (takes_of rfl rfl rfl rfl) (pmk_own PySem.F.excBase_ValueError T.x_NoPiece.x T.g_NoPiece T.x_NoPiece.kp (raises_own T.x_NoPiece.sub T.x_NoPiece.ty) rfl)))
      pss_nil)
      (pss_cons (ps_set (i := 1) sc_shorts_in.nd rfl (Or.inl rfl) (pe_callTy call_tuple_of (by rfl) T.n_tuple (by decide +kernel) (pa_cons (pv 0) pa_nil)))
      (pss_cons (ps_if (PW.pt (pw_or (pt_not (pt_val (pe_callB (cr_all rfl) (by rfl) T.n_all (by decide +kernel) (pa_cons (pe_lc (own := [("one", 2)]) (by rfl) sc_shorts_in.nd (pi_tup (pv 1)) (blkOk_by (own := [("one", 2)]) (N := ["parts", "found", "one"]) (sc := defScope s_shorts_in) (by decide +kernel)) (fun _ _ _ _ _ => (pg_name (i := 2) sc_shorts_in.nd rfl (Or.inl rfl))) (fun _ _ _ _ _ => pts_nil) (fun _ _ _ _ _ => (pe_callB (call_isiK K) (by rfl) T.n_isinstance (by decide +kernel) (pa_cons (pv 2) (pa_cons (pe_glob (v := .ref _) (by rfl) T.g_Short rfl) pa_nil))))) pa_nil)))) (pw_or1 (pt_not (pt_val (c_call (ok_all_rising T) (hr.mono (by decide)) T.g_all_rising T.k_all_rising (takes_of rfl rfl rfl rfl) (pa_cons (pv 1) pa_nil)))))))
      (pss_one (ps_raise rfl (takes_of rfl rfl rfl rfl) (pmk_own PySem.F.excBase_ValueError T.x_NoPiece.x T.g_NoPiece T.x_NoPiece.kp (raises_own T.x_NoPiece.sub T.x_NoPiece.ty) rfl)))
      pss_nil)
      (pss_one (ps_ret (pv 1)))))), ?_⟩
    have hl1 := hA.len
    refine ⟨_, rfl, by show 2 ≤ sizeLine; decide, fun tp ntp => ?_⟩
    have X1 := ex_new (o := .tup [.ty "list", .ty "tuple"]) ntp
    have ty : ∃ t, TyX K (upd H tp (.tup [.ty "list", .ty "tuple"])) (.ref p) t ∧ PySem.W.kitAny K t [.type "list", .type "tuple"] = some true := by
      rcases hp with h | h
      · exact ⟨_, .base (.lst (X1 _ _ h)), kitAny_cons (b := true) (kit_ty (by decide +kernel)) (fun z => nomatch z) (fun _ => rfl)⟩
      · exact ⟨_, .base (.tup (X1 _ _ h)), kitAny_cons (b := false) (kit_ty (by decide +kernel)) (fun _ => kitAny_cons (b := true) (kit_ty (by decide +kernel)) (fun z => nomatch z) (fun _ => rfl)) (by decide)⟩
    obtain ⟨t, ty, kt⟩ := ty
    refine ⟨.ref p, tp, _, t, _, true, rfl, upd_same, .cons (.ty "list") (.cons (.ty "tuple") .nil), ty, kt, true, rfl, iteF ?_⟩
    generalize upd H tp (.tup [.ty "list", .ty "tuple"]) = H1 at X1 ty ⊢
    refine ⟨_, rfl, p, as.map V.ref, rfl, ?_⟩
    have rest : ∀ t2 H2, Ex H1 H2 → H2 t2 = some (.tup (as.map V.ref)) → (tSeq (tIfS (tOr (tNot (tB (tCB (rAll K) (tCons (tLc (iTup K (tVar 1)) (gName 2) tYes (tCB (rIsi K) (tCons (tVar 2) (tCons (tC (V.ref (He.ga K "Short"))) tNil))) (List.map (fun x => x.snd) [(Str.ofString "one", 2)])) tNil)))) (tNot (tB (tFc (sp_all_rising K) (fun cls d x H => E cls d H) (tCons (tVar 1) tNil))))) (fun x σ H => (fun cls d H' => E cls d H') (Value.ref (He.ga K "NoPiece")) none H) tNext) (tRet (tVar 1))) { nx := fun _ H' => Q .non H', rt := Q } [some (.ref p), some (.ref t2), none] H2 := fun t2 H2 X2 h2 => by
      have X02 := X1.trans X2
      have hA2 := hA.mono X02
      refine ⟨_, rfl, t2, rfl, ⟨_, sq_tup h2⟩, fun A nA => lc_on as V.ref L2.walk_tup (fun _ => some (.bl true)) (fun H' => Ex H2 H') (fun H' z e => ex_mut e nA) (.refl _) (by omega) (fun H' e => sq_tup (e _ _ h2)) (fun i x H3 acc N hx X3 hD la k => ?_) fun H3 X3 d3 => ?_⟩
      · obtain ⟨t, ht, hS⟩ := hA2.get hx
        have hS3 := hS.mono X3
        cases t with
        | «at» n =>
          unfold ShAt at hS3
          obtain ⟨dx, h1⟩ := hS3
          exact ⟨rfl, _, rfl, .ref x, .ref (He.ga K "Short"), _, _, true, rfl, .own _, ty_ins T.i_At T.c_At h1, T.kit_At_Short, acc, hD, la, k H3 X3 hD⟩
        | ov ps m s =>
          unfold ShAt at hS3
          obtain ⟨dx, kp, as', h1, _⟩ := hS3
          exact ⟨rfl, _, rfl, .ref x, .ref (He.ga K "Short"), _, _, true, rfl, .own _, ty_ins T.i_Over T.c_Over h1, T.kit_Over_Short, acc, hD, la, k H3 X3 hD⟩
      · have ef : as.filterMap (fun _ => some (V.bl true)) = (List.replicate as.length true).map V.bl := by
          rw [List.map_replicate, ← List.map_const', List.filterMap_eq_map']
        rw [ef] at d3
        refine ⟨A, _, rfl, sq_lst d3, ?_⟩
        rw [all_repT]
        refine ⟨true, rfl, iteF ?_⟩
        refine ⟨_, rfl, t2, as, ts, rfl, X3 _ _ h2, hA2.mono X3, hn, hok, hl, fun H4 X4 => ⟨_, rfl, ?_⟩⟩
        cases hr2 : risB ts with
        | true =>
          refine iteF ?_
          exact ⟨_, rfl, q hr2 t2 H4 (X02.trans (X3.trans X4)) ((X3.trans X4) _ _ h2)⟩
        | false => exact iteT (qe hr2 H4 (X02.trans (X3.trans X4)))
    rcases hp with h | h
    · exact .inl ⟨sq_lst (X1 _ _ h), fun t2 nt2 => rest t2 _ (ex_new nt2) upd_same⟩
    · exact .inr ⟨sq_tup (X1 _ _ h), rest p _ (.refl _) (X1 _ _ h)⟩
theorem ok_shorts_in {P : Program} {w : World} {K : PySem.W.Frag} {mg : Str → Option Value} {base : Heap} (T : Env K mg) : Fc P w K mg base 61 (He.ga K "shorts_in") [] (sp_shorts_in K ) := by
  obtain ⟨fd, D, F⟩ := fb_shorts_in T
  exact F.all (D.bindsN fun _ _ _ _ _ _ us hl => match us, hl with | [_], _ => rfl)
end
section
def sp_At_moments (K : PySem.W.Frag) : Sp := fun vs H Q _ => ∃ a n, vs = [.ref a] ∧ AtAt K H a n ∧ ∀ p, H p = none → Q (.ref p) (upd H p (.lst [.int (n : Nat)]))
theorem fb_At_moments {P : Program} {w : World} {K : PySem.W.Frag} {mg : Str → Option Value} {base : Heap} (T : Env K mg) : ∃ fd, FunD K "moments" "At.moments" (defArgs s_At_moments) (defBody s_At_moments) (defScope s_At_moments) [] [] (He.ma K (He.ga K "At") "moments") fd ∧ Fb P w K mg base 1 (He.ma K (He.ga K "At") "moments") fd ["self"] (sp_At_moments K) := by
  obtain ⟨fd, F⟩ := T.f_At_moments
  refine ⟨fd, F, fb_of F sc_At_moments (fun vs H Q E h => ?_) (fun cdv A outer s H vs Q E hr h => ?_)⟩
  · obtain ⟨a, n, rfl, _⟩ := h
    rfl
  · obtain ⟨a, n, rfl, ⟨dx, ha⟩, q⟩ := h
    refine ⟨_, (pss_one (ps_ret (pe_lst (pa_cons (pe_fld (pv 0) (by rfl)) pa_nil)))), ?_⟩
    exact ⟨_, rfl, a, _, dx, _, _, rfl, ha, T.c_At, T.a_At_moment, rfl, by show 1 ≤ sizeLine; decide, q⟩
theorem ok_At_moments {P : Program} {w : World} {K : PySem.W.Frag} {mg : Str → Option Value} {base : Heap} (T : Env K mg) : Fc P w K mg base 1 (He.ma K (He.ga K "At") "moments") [] (sp_At_moments K ) := by
  obtain ⟨fd, D, F⟩ := fb_At_moments T
  exact F.all (D.bindsN fun _ _ _ _ _ _ us hl => match us, hl with | [_], _ => rfl)
end
section
def sp_row_moments (K : PySem.W.Frag) (d : Nat) : Sp := fun vs H Q _ => ∃ (p : Addr) (as : List Addr) (ts : List Tr), vs = [.ref p] ∧ H p = some (.tup (as.map V.ref)) ∧ ShsAt K H ts as ∧ nestL ts ≤ d ∧ okL_ ts ∧ (momsL ts).length ≤ 1440 ∧ ∀ t H', Ex H H' → H t = none → H' t = some (.lst (natV (momsL ts))) → Q (.ref t) H'
theorem fb_row_moments {P : Program} {w : World} {K : PySem.W.Frag} {mg : Str → Option Value} {base : Heap} (T : Env K mg) {d L : Nat} (hL : 40 ≤ L) (r_Over_moments : Fc P w K mg base L (He.ma K (He.ga K "Over") "moments") [] (sp_Over_moments K d)) : ∃ fd, FunD K "row_moments" "row_moments" (defArgs s_row_moments) (defBody s_row_moments) (defScope s_row_moments) [] [] (He.ga K "row_moments") fd ∧ Fb P w K mg base (L + 1) (He.ga K "row_moments") fd ["parts"] (sp_row_moments K (d)) := by
  obtain ⟨fd, F⟩ := T.f_row_moments
  refine ⟨fd, F, fb_of F sc_row_moments (fun vs H Q E h => ?_) (fun cdv A outer s H vs Q E hr h => ?_)⟩
  · obtain ⟨p, as, ts, rfl, _⟩ := h
    rfl
  · obtain ⟨p, as, ts, rfl, hp, hA, hn, hok, hl, q⟩ := h
    refine ⟨_, (pss_cons (ps_set (i := 1) sc_row_moments.nd rfl (Or.inl rfl) (pe_lst pa_nil))
      (pss_cons (ps_for (passes_of rfl) rfl (pi_tup (pv 0)) (pg_name (i := 2) sc_row_moments.nd rfl (Or.inl rfl))
      (pss_one (ps_expr (pe_bm PySem.F.plainAttrs_list PySem.F.slot_list_extend PySem.F.type_list_extend mt_extend (pv 1) (pa_cons (pe_orE (c_meth0 (pv 2) T.c_At T.m_At_moments (ok_At_moments T) (hr.mono (by omega)) takes0) (c_meth0 (pv 2) T.c_Over T.m_Over_moments r_Over_moments (hr.mono (by omega)) takes0)) pa_nil)))))
      (pss_one (ps_ret (pv 1))))), ?_⟩
    refine ⟨by show 0 ≤ sizeLine; decide, fun f nf => ?_⟩
    have X0 := ex_new (o := .lst []) nf
    have hl1 := hA.len
    have pf : p ≠ f := ne_of_none hp nf
    refine ⟨_, rfl, p, rfl, ⟨_, sq_tup (X0 _ _ hp)⟩, for_on as V.ref L2.walk_tup (fun i σ H' => Oth f H H' ∧ ∃ v2, σ = [some (.ref p), some (.ref f), v2] ∧ H' f = some (.lst (natV (momsL (ts.take i))))) ⟨ex_oth X0, _, rfl, upd_same⟩ (fun i σ H' z => sq_tup (z.1 _ _ pf hp)) ?_ ?_⟩
    · rintro i a σ H2 hx ⟨O2, v2, rfl, hf⟩
      obtain ⟨t, ht, hS⟩ := hA.get hx
      have htm := List.mem_of_getElem? ht
      have X2 : Ex H H2 := fun b o e => O2 b o (ne_of_none e nf) e
      have eT := momsL_take ht
      have bT := momsL_take_len ts (i + 1)
      rw [eT, List.length_append] at bT
      have hS2 := hS.mono X2
      have fin : ∀ (u : Addr) (H3 : Hp), Ex H2 H3 → H3 u = some (.lst (natV t.moms)) → rExtend (.ref f) [.ref u] H3 (fun _ H' => Oth f H H' ∧ ∃ v2', [some (V.ref p), some (V.ref f), some (V.ref a)] = [some (.ref p), some (.ref f), v2'] ∧ H' f = some (.lst (natV (momsL (ts.take (i + 1)))))) := fun u H3 X3 hu => by
        refine ⟨f, u, _, _, rfl, rfl, X3 _ _ hf, hu, sz_le (by rw [natV_len, natV_len]; omega), (O2.trans (ex_oth X3)).upd, _, rfl, ?_⟩
        rw [upd_same, eT]
        unfold natV
        rw [List.map_append]
      refine ⟨_, rfl, .inl ⟨rfl, _, sq_lst hf⟩, ?_⟩
      cases t with
      | «at» n =>
        unfold ShAt at hS2
        obtain ⟨dx, h2⟩ := id hS2
        exact .inl ⟨_, rfl, a, dx, _, rfl, h2, rfl, a, n, rfl, hS2, fun u nu => fin u _ (ex_new nu) (by rw [upd_same]; unfold Tr.moms; rfl)⟩
      | ov ps m s =>
        obtain ⟨dx, kp, as', h2, _⟩ := (by unfold ShAt at hS2; exact hS2 : ∃ dx kp as, H2 a = some (.ins (OverC K) dx (overF kp m s)) ∧ H2 kp = some (.tup (as.map V.ref)) ∧ ShsAt K H2 ps as)
        exact .inr ⟨_, rfl, a, dx, _, rfl, h2, rfl, a, ps, m, s, rfl, hS2, Nat.le_trans (nestL_mem htm) hn, okL_mem hok htm, fun u H3 X3 nu hu => fin u H3 X3 hu⟩
    · rintro σ H2 ⟨O2, v2, rfl, hf⟩
      rw [List.take_of_length_le (by omega)] at hf
      exact ⟨_, rfl, q f H2 (fun b o e => O2 b o (ne_of_none e nf) e) nf hf⟩
theorem ok_row_moments {P : Program} {w : World} {K : PySem.W.Frag} {mg : Str → Option Value} {base : Heap} (T : Env K mg) {d L : Nat} (hL : 40 ≤ L) (r_Over_moments : Fc P w K mg base L (He.ma K (He.ga K "Over") "moments") [] (sp_Over_moments K d)) : Fc P w K mg base (L + 1) (He.ga K "row_moments") [] (sp_row_moments K (d)) := by
  obtain ⟨fd, D, F⟩ := fb_row_moments T hL r_Over_moments
  exact F.all (D.bindsN fun _ _ _ _ _ _ us hl => match us, hl with | [_], _ => rfl)
end
section
def sp_At_means_many (K : PySem.W.Frag) : Sp := fun vs H Q _ => ∃ a n, vs = [.ref a] ∧ AtAt K H a n ∧ Q (.int 1) H
theorem fb_At_means_many {P : Program} {w : World} {K : PySem.W.Frag} {mg : Str → Option Value} {base : Heap} (T : Env K mg) : ∃ fd, FunD K "means_many" "At.means_many" (defArgs s_At_means_many) (defBody s_At_means_many) (defScope s_At_means_many) [] [] (He.ma K (He.ga K "At") "means_many") fd ∧ Fb P w K mg base 1 (He.ma K (He.ga K "At") "means_many") fd ["self"] (sp_At_means_many K) := by
  obtain ⟨fd, F⟩ := T.f_At_means_many
  refine ⟨fd, F, fb_of F sc_At_means_many (fun vs H Q E h => ?_) (fun cdv A outer s H vs Q E hr h => ?_)⟩
  · obtain ⟨a, n, rfl, _⟩ := h
    rfl
  · obtain ⟨a, n, rfl, ⟨dx, ha⟩, q⟩ := h
    refine ⟨_, (pss_one (ps_ret pe_int)), ?_⟩
    exact q
theorem ok_At_means_many {P : Program} {w : World} {K : PySem.W.Frag} {mg : Str → Option Value} {base : Heap} (T : Env K mg) : Fc P w K mg base 1 (He.ma K (He.ga K "At") "means_many") [] (sp_At_means_many K ) := by
  obtain ⟨fd, D, F⟩ := fb_At_means_many T
  exact F.all (D.bindsN fun _ _ _ _ _ _ us hl => match us, hl with | [_], _ => rfl)
end
section
theorem range_opt {α : Type} (ts : List α) (f : α → V) : (List.range ts.length).filterMap (fun i => (ts[i]?).map f) = ts.map f := by
  induction ts with
  | nil => rfl
  | cons t r ih =>
    rw [List.length_cons, List.range_succ_eq_map, List.filterMap_cons, List.filterMap_map]
    show f t :: List.filterMap (fun i => (r[i]?).map f) (List.range r.length) = f t :: r.map f
    rw [ih]
theorem sum_many : ∀ ts : List Tr, (ts.map fun t => ((t.moms.length : Nat) : Int)).sum = (((momsL ts).length : Nat) : Int)
  | [] => rfl
  | t :: r => by
    rw [List.map_cons, List.sum_cons, sum_many r]
    have e : momsL (t :: r) = t.moms ++ momsL r := by simp [momsL]
    rw [e, List.length_append]
    omega
def sp_row_many (K : PySem.W.Frag) (d : Nat) : Sp := fun vs H Q _ => ∃ (p : Addr) (as : List Addr) (ts : List Tr), vs = [.ref p] ∧ H p = some (.tup (as.map V.ref)) ∧ ShsAt K H ts as ∧ nestL ts ≤ d ∧ okL_ ts ∧ ts.length ≤ 20000 ∧ ∀ H', Ex H H' → Q (.int (((momsL ts).length : Nat) : Int)) H'
theorem fb_row_many {P : Program} {w : World} {K : PySem.W.Frag} {mg : Str → Option Value} {base : Heap} (T : Env K mg) {d L : Nat} (hL : 40 ≤ L) (r_Over_means_many : Fc P w K mg base L (He.ma K (He.ga K "Over") "means_many") [] (sp_Over_means_many K d)) : ∃ fd, FunD K "row_many" "row_many" (defArgs s_row_many) (defBody s_row_many) (defScope s_row_many) [] [] (He.ga K "row_many") fd ∧ Fb P w K mg base (L + 1) (He.ga K "row_many") fd ["parts"] (sp_row_many K (d)) := by
  obtain ⟨fd, F⟩ := T.f_row_many
  refine ⟨fd, F, fb_of F sc_row_many (fun vs H Q E h => ?_) (fun cdv A outer s H vs Q E hr h => ?_)⟩
  · obtain ⟨p, as, ts, rfl, _⟩ := h
    rfl
  · obtain ⟨p, as, ts, rfl, hp, hA, hn, hok, hl, q⟩ := h
    refine ⟨_, (pss_one (ps_ret (pe_callB (cr_sum rfl) (by rfl) T.n_sum (by decide +kernel) (pa_cons (pe_lc (own := [("one", 1)]) (by rfl) sc_row_many.nd (pi_tup (pv 0)) (blkOk_by (own := [("one", 1)]) (N := ["parts", "one"]) (sc := defScope s_row_many) (by decide +kernel)) (fun _ _ _ _ _ => (pg_name (i := 1) sc_row_many.nd rfl (Or.inl rfl))) (fun _ _ _ _ _ => pts_nil) (fun _ _ _ _ _ => (pe_orE (c_meth0 (pv 1) T.c_At T.m_At_means_many (ok_At_means_many T) (hr.mono (by omega)) takes0) (c_meth0 (pv 1) T.c_Over T.m_Over_means_many r_Over_means_many (hr.mono (by omega)) takes0)))) pa_nil)))), ?_⟩
    have hl1 := hA.len
    have hl2 := len_moms hok
    refine ⟨_, rfl, p, rfl, ⟨_, sq_tup hp⟩, fun A nA => lc_fm L2.walk_tup (fun i => (ts[i]?).map fun t => .int ((t.moms.length : Nat) : Int)) (fun H' => Ex H H') (fun H' z e => ex_mut e nA) (.refl _) (by rw [List.length_map]; omega) (fun H' e => sq_tup (e _ _ hp)) (fun i x H2 H3 acc N hi e hD la y k => ?_) fun H3 X3 d3 => ?_⟩
    · obtain ⟨rfl, y⟩ := y
      rw [List.getElem?_map] at y
      obtain ⟨a, ha, rfl⟩ := Option.map_eq_some_iff.mp y
      obtain ⟨t, ht, hS⟩ := hA.get ha
      have htm := List.mem_of_getElem? ht
      have hS2 := hS.mono e
      have k2 := fun H4 (X4 : Ex H3 H4) => k H4 (e.trans X4) (X4 _ _ hD)
      rw [ht] at k2
      have ok := okL_mem hok htm
      cases t with
      | «at» n =>
        unfold ShAt at hS2
        obtain ⟨dx, h2⟩ := id hS2
        exact ⟨rfl, .inl ⟨_, rfl, a, dx, _, rfl, h2, rfl, a, n, rfl, hS2, acc, hD, la, k2 H3 (.refl _)⟩⟩
      | ov ps m s =>
        obtain ⟨dx, kp, as', h2, _⟩ := (by unfold ShAt at hS2; exact hS2 : ∃ dx kp as, H3 a = some (.ins (OverC K) dx (overF kp m s)) ∧ H3 kp = some (.tup (as.map V.ref)) ∧ ShsAt K H3 ps as)
        obtain ⟨_, _, _, _, o5', _, o7⟩ := ov_facts ok
        have o5 : ps.length ≤ 20000 := by omega
        refine ⟨rfl, .inr ⟨_, rfl, a, dx, _, rfl, h2, rfl, a, ps, m, s, rfl, hS2, Nat.le_trans (nestL_mem htm) hn, o7, o5, fun H4 X4 => ⟨acc, X4 _ _ hD, la, ?_⟩⟩⟩
        have k3 : N (upd H4 A (.lst (acc ++ [.int (((Tr.ov ps m s).moms.length : Nat) : Int)]))) := k2 H4 X4
        rw [show (Tr.ov ps m s).moms.length = m * (momsL ps).length from by unfold Tr.moms; exact overN_len _ _ _] at k3
        exact k3
    · rw [List.length_map, hl1, range_opt ts (fun t => V.int ((t.moms.length : Nat) : Int))] at d3
      have e1 : ts.map (fun t => V.int ((t.moms.length : Nat) : Int)) = (ts.map fun t => ((t.moms.length : Nat) : Int)).map V.int := by
        rw [List.map_map]
        rfl
      rw [e1] at d3
      refine ⟨A, _, rfl, sq_lst d3, ?_⟩
      rw [sum_many]
      exact q _ X3
theorem ok_row_many {P : Program} {w : World} {K : PySem.W.Frag} {mg : Str → Option Value} {base : Heap} (T : Env K mg) {d L : Nat} (hL : 40 ≤ L) (r_Over_means_many : Fc P w K mg base L (He.ma K (He.ga K "Over") "means_many") [] (sp_Over_means_many K d)) : Fc P w K mg base (L + 1) (He.ga K "row_many") [] (sp_row_many K (d)) := by
  obtain ⟨fd, D, F⟩ := fb_row_many T hL r_Over_means_many
  exact F.all (D.bindsN fun _ _ _ _ _ _ us hl => match us, hl with | [_], _ => rfl)
end
section
def sp_At_nested (K : PySem.W.Frag) : Sp := fun vs H Q _ => ∃ a n, vs = [.ref a] ∧ AtAt K H a n ∧ Q (.int 0) H
theorem fb_At_nested {P : Program} {w : World} {K : PySem.W.Frag} {mg : Str → Option Value} {base : Heap} (T : Env K mg) : ∃ fd, FunD K "nested" "At.nested" (defArgs s_At_nested) (defBody s_At_nested) (defScope s_At_nested) [] [] (He.ma K (He.ga K "At") "nested") fd ∧ Fb P w K mg base 1 (He.ma K (He.ga K "At") "nested") fd ["self"] (sp_At_nested K) := by
  obtain ⟨fd, F⟩ := T.f_At_nested
  refine ⟨fd, F, fb_of F sc_At_nested (fun vs H Q E h => ?_) (fun cdv A outer s H vs Q E hr h => ?_)⟩
  · obtain ⟨a, n, rfl, _⟩ := h
    rfl
  · obtain ⟨a, n, rfl, ⟨dx, ha⟩, q⟩ := h
    refine ⟨_, (pss_one (ps_ret pe_int)), ?_⟩
    exact q
theorem ok_At_nested {P : Program} {w : World} {K : PySem.W.Frag} {mg : Str → Option Value} {base : Heap} (T : Env K mg) : Fc P w K mg base 1 (He.ma K (He.ga K "At") "nested") [] (sp_At_nested K ) := by
  obtain ⟨fd, D, F⟩ := fb_At_nested T
  exact F.all (D.bindsN fun _ _ _ _ _ _ us hl => match us, hl with | [_], _ => rfl)
end
section
theorem fb_Over_means_many {P : Program} {w : World} {K : PySem.W.Frag} {mg : Str → Option Value} {base : Heap} (T : Env K mg) {d L : Nat} (hL : 40 ≤ L) (r_Over_means_many : Fc P w K mg base L (He.ma K (He.ga K "Over") "means_many") [] (sp_Over_means_many K d)) : ∃ fd, FunD K "means_many" "Over.means_many" (defArgs s_Over_means_many) (defBody s_Over_means_many) (defScope s_Over_means_many) [] [] (He.ma K (He.ga K "Over") "means_many") fd ∧ Fb P w K mg base (L + 2) (He.ma K (He.ga K "Over") "means_many") fd ["self"] (sp_Over_means_many K (d + 1)) := by
  obtain ⟨fd, F⟩ := T.f_Over_means_many
  refine ⟨fd, F, fb_of F sc_Over_means_many (fun vs H Q E h => ?_) (fun cdv A outer s H vs Q E hr h => ?_)⟩
  · obtain ⟨a, ps, m, s, rfl, _⟩ := h
    rfl
  · obtain ⟨a, ps, m, s_, rfl, hO, hn, hok, hl, q⟩ := h
    refine ⟨_, (pss_one (ps_ret (pe_op op_mul (pe_fld (pv 0) (by rfl)) (c_call (ok_row_many T hL r_Over_means_many) (hr.mono (by omega)) T.g_row_many T.k_row_many takes0 (pa_cons (pe_fld (pv 0) (by rfl)) pa_nil))))), ?_⟩
    have hfew := momsL_few hok
    have hnL := ov_nest hn
    obtain ⟨dx, kp, as, ha, hk, hA⟩ := (by unfold ShAt at hO; exact hO : ∃ dx kp as, H a = some (.ins (OverC K) dx (overF kp m s_)) ∧ H kp = some (.tup (as.map V.ref)) ∧ ShsAt K H ps as)
    refine ⟨_, rfl, a, _, dx, _, _, rfl, ha, T.c_Over, T.a_Over_many, rfl, _, rfl, a, _, dx, _, _, rfl, ha, T.c_Over, T.a_Over_kept, rfl, kp, as, ps, rfl, hk, hA, hnL, hok, hl, fun H1 X1 => ⟨_, _, rfl, rfl, .inr ⟨by omega, by omega⟩, ?_⟩⟩
    have e : ((m : Nat) : Int) * (((momsL ps).length : Nat) : Int) = ((m * (momsL ps).length : Nat) : Int) := by simp
    show Q (.int (((m : Nat) : Int) * (((momsL ps).length : Nat) : Int))) H1
    rw [e]
    exact q H1 X1
theorem ok_Over_means_many {P : Program} {w : World} {K : PySem.W.Frag} {mg : Str → Option Value} {base : Heap} (T : Env K mg) {d L : Nat} (hL : 40 ≤ L) (r_Over_means_many : Fc P w K mg base L (He.ma K (He.ga K "Over") "means_many") [] (sp_Over_means_many K d)) : Fc P w K mg base (L + 2) (He.ma K (He.ga K "Over") "means_many") [] (sp_Over_means_many K (d + 1)) := by
  obtain ⟨fd, D, F⟩ := fb_Over_means_many T hL r_Over_means_many
  exact F.all (D.bindsN fun _ _ _ _ _ _ us hl => match us, hl with | [_], _ => rfl)
theorem all_Over_means_many {P : Program} {w : World} {K : PySem.W.Frag} {mg : Str → Option Value} {base : Heap} (T : Env K mg) : ∀ d, Fc P w K mg base (40 + 2 * d) (He.ma K (He.ga K "Over") "means_many") [] (sp_Over_means_many K d)
  | 0 => fc_no fun vs H Q E h => by
    obtain ⟨a, ps, m, s, _, _, h, _⟩ := h
    unfold Tr.nest at h
    omega
  | d + 1 => ok_Over_means_many T (Nat.le_add_right 40 _) (all_Over_means_many T d)
end
section
theorem fb_Over_nested {P : Program} {w : World} {K : PySem.W.Frag} {mg : Str → Option Value} {base : Heap} (T : Env K mg) {d L : Nat} (hL : 40 ≤ L) (r_Over_nested : Fc P w K mg base L (He.ma K (He.ga K "Over") "nested") [] (sp_Over_nested K d)) : ∃ fd, FunD K "nested" "Over.nested" (defArgs s_Over_nested) (defBody s_Over_nested) (defScope s_Over_nested) [] [] (He.ma K (He.ga K "Over") "nested") fd ∧ Fb P w K mg base (L + 1) (He.ma K (He.ga K "Over") "nested") fd ["self"] (sp_Over_nested K (d + 1)) := by
  obtain ⟨fd, F⟩ := T.f_Over_nested
  refine ⟨fd, F, fb_of F sc_Over_nested (fun vs H Q E h => ?_) (fun cdv A outer s H vs Q E hr h => ?_)⟩
  · obtain ⟨a, ps, m, s, rfl, _⟩ := h
    rfl
  · obtain ⟨a, ps, m, s_, rfl, hO, hn, h0, hok, hl, q⟩ := h
    refine ⟨_, (pss_one (ps_ret (pe_op op_add pe_int (pe_callB (cr_max rfl) (by rfl) T.n_max (by decide +kernel) (pa_cons (pe_lc (own := [("one", 1)]) (by rfl) sc_Over_nested.nd (pi_tup (pe_fld (pv 0) (by rfl))) (blkOk_by (own := [("one", 1)]) (N := ["self", "one"]) (sc := defScope s_Over_nested) (by decide +kernel)) (fun _ _ _ _ _ => (pg_name (i := 1) sc_Over_nested.nd rfl (Or.inl rfl))) (fun _ _ _ _ _ => pts_nil) (fun _ _ _ _ _ => (pe_orE (c_meth0 (pv 1) T.c_At T.m_At_nested (ok_At_nested T) (hr.mono (by omega)) takes0) (c_meth0 (pv 1) T.c_Over T.m_Over_nested r_Over_nested (hr.mono (by omega)) takes0)))) pa_nil))))), ?_⟩
    have hnL := ov_nest hn
    obtain ⟨dx, kp, as, ha, hk, hA⟩ := (by unfold ShAt at hO; exact hO : ∃ dx kp as, H a = some (.ins (OverC K) dx (overF kp m s_)) ∧ H kp = some (.tup (as.map V.ref)) ∧ ShsAt K H ps as)
    have hl1 := hA.len
    have hl2 := len_moms hok
    refine ⟨_, rfl, a, _, dx, _, _, rfl, ha, T.c_Over, T.a_Over_kept, rfl, kp, rfl, ⟨_, sq_tup hk⟩, fun A nA => lc_fm L2.walk_tup (fun i => (ps[i]?).map fun t => .int ((t.nest : Nat) : Int)) (fun H' => Ex H H') (fun H' z e => ex_mut e nA) (.refl _) (by rw [List.length_map]; omega) (fun H' e => sq_tup (e _ _ hk)) (fun i x H2 H3 acc N hi e hD la y k => ?_) fun H3 X3 d3 => ?_⟩
    · obtain ⟨rfl, y⟩ := y
      rw [List.getElem?_map] at y
      obtain ⟨b, hb, rfl⟩ := Option.map_eq_some_iff.mp y
      obtain ⟨t, ht, hS⟩ := hA.get hb
      have htm := List.mem_of_getElem? ht
      have hS2 := hS.mono e
      have k2 := fun H4 (X4 : Ex H3 H4) => k H4 (e.trans X4) (X4 _ _ hD)
      rw [ht] at k2
      have ok := okL_mem hok htm
      cases t with
      | «at» n =>
        unfold ShAt at hS2
        obtain ⟨dy, h2⟩ := id hS2
        exact ⟨rfl, .inl ⟨_, rfl, b, dy, _, rfl, h2, rfl, b, n, rfl, hS2, acc, hD, la, k2 H3 (.refl _)⟩⟩
      | ov ps' m' s' =>
        obtain ⟨dy, kp', as', h2, _⟩ := (by unfold ShAt at hS2; exact hS2 : ∃ dx kp as, H3 b = some (.ins (OverC K) dx (overF kp m' s')) ∧ H3 kp = some (.tup (as.map V.ref)) ∧ ShsAt K H3 ps' as)
        obtain ⟨o1, _, _, _, o5', _, o7⟩ := ov_facts ok
        have o5 : ps'.length ≤ 20000 := by omega
        exact ⟨rfl, .inr ⟨_, rfl, b, dy, _, rfl, h2, rfl, b, ps', m', s', rfl, hS2, Nat.le_trans (nestL_mem htm) hnL, o1, o7, o5, fun H4 X4 => ⟨acc, X4 _ _ hD, la, k2 H4 X4⟩⟩⟩
    · rw [List.length_map, hl1, range_opt ps (fun t => V.int ((t.nest : Nat) : Int))] at d3
      have e1 : ps.map (fun t => V.int ((t.nest : Nat) : Int)) = (ps.map fun t => ((t.nest : Nat) : Int)).map V.int := by
        rw [List.map_map]
        rfl
      rw [e1] at d3
      refine ⟨A, _, rfl, sq_lst d3, by rw [List.length_map]; exact List.length_pos_iff.mpr h0, fun mx hm hall => ⟨_, _, rfl, rfl, ?_⟩⟩
      have em : mx = ((nestL ps : Nat) : Int) := by
        obtain ⟨t, ht, e⟩ := List.mem_map.mp hm
        have h1 := nestL_mem ht
        obtain ⟨t2, ht2, e2⟩ := nestL_max h0
        have h2 := hall _ (List.mem_map.mpr ⟨t2, ht2, rfl⟩)
        omega
      have e : (1 : Int) + mx = (((Tr.ov ps m s_).nest : Nat) : Int) := by
        unfold Tr.nest
        omega
      show Q (.int (1 + mx)) H3
      rw [e]
      exact q H3 X3
theorem ok_Over_nested {P : Program} {w : World} {K : PySem.W.Frag} {mg : Str → Option Value} {base : Heap} (T : Env K mg) {d L : Nat} (hL : 40 ≤ L) (r_Over_nested : Fc P w K mg base L (He.ma K (He.ga K "Over") "nested") [] (sp_Over_nested K d)) : Fc P w K mg base (L + 1) (He.ma K (He.ga K "Over") "nested") [] (sp_Over_nested K (d + 1)) := by
  obtain ⟨fd, D, F⟩ := fb_Over_nested T hL r_Over_nested
  exact F.all (D.bindsN fun _ _ _ _ _ _ us hl => match us, hl with | [_], _ => rfl)
theorem all_Over_nested {P : Program} {w : World} {K : PySem.W.Frag} {mg : Str → Option Value} {base : Heap} (T : Env K mg) : ∀ d, Fc P w K mg base (40 + 1 * d) (He.ma K (He.ga K "Over") "nested") [] (sp_Over_nested K d)
  | 0 => fc_no fun vs H Q E h => by
    obtain ⟨a, ps, m, s, _, _, h, _⟩ := h
    unfold Tr.nest at h
    omega
  | d + 1 => ok_Over_nested T (Nat.le_add_right 40 _) (all_Over_nested T d)
end
section
theorem isN_nat_of {n : Int} {x : V} (h0 : 0 ≤ n) (h : isN n x = true) : ∃ m : Nat, x = .int (m : Nat) ∧ n ≤ (m : Int) := by
  unfold isN at h
  obtain ⟨_, h2⟩ := Bool.and_eq_true_iff.mp h
  cases x with
  | int i =>
    have h3 : n ≤ i := of_decide_eq_true h2
    obtain ⟨m, rfl⟩ := Int.eq_ofNat_of_zero_le (Int.le_trans h0 h3)
    exact ⟨m, rfl, h3⟩
  | _ => cases h2
/-- whether an Over may be made -/
def ovB (ts : List Tr) (xm xs : V) : Bool := risB ts && (decide (ts ≠ []) && (isN 2 xm && (isN 1 xs && (match xm, xs with
  | .int m, .int s => decide (((momsL ts).getLastD 0 : Int) < s + ((momsL ts).headD 0 : Int)) && (decide (m * ((momsL ts).length : Int) ≤ 1440) && decide (nestL ts ≤ 7))
  | _, _ => false))))
def sp_Over_init (K : PySem.W.Frag) : Sp := fun vs H Q E => ∃ (a dx p : Addr) (as : List Addr) (ts : List Tr) (xm xs : V) (H0 : Hp), vs = [.ref a, .ref p, xm, xs] ∧ H a = some (.ins (OverC K) dx []) ∧ H0 a = none ∧ Ex H0 H ∧ SqA H0 p (as.map V.ref) ∧ ShsAt K H0 ts as ∧ nestL ts ≤ 8 ∧ okL_ ts ∧ ts.length ≤ 20000 ∧ ts.length ≤ 20000 ∧ Cl K H0 xm ∧ Cl K H0 xs ∧ (∀ m s : Nat, ovB ts xm xs = true → xm = .int (m : Nat) → xs = .int (s : Nat) → ∀ H', Oth a H H' → ShAt K H' (.ov ts m s) a → Q .non H') ∧ (ovB ts xm xs = false → ∀ H', Oth a H H' → E (.ref (He.ga K "NoPiece")) none H')
theorem fb_Over_init {P : Program} {w : World} {K : PySem.W.Frag} {mg : Str → Option Value} {base : Heap} (T : Env K mg) : ∃ fd, FunD K "__init__" "Over.__init__" (defArgs s_Over_init) (defBody s_Over_init) (defScope s_Over_init) [.int (2), .int (60)] [] (He.ma K (He.ga K "Over") "__init__") fd ∧ Fb P w K mg base 64 (He.ma K (He.ga K "Over") "__init__") fd ["self", "parts", "many", "step"] (sp_Over_init K) := by
  obtain ⟨fd, F⟩ := T.f_Over_init
  refine ⟨fd, F, fb_of F sc_Over_init (fun vs H Q E h => ?_) (fun cdv A outer s H vs Q E hr h => ?_)⟩
  · obtain ⟨a, dx, p, as, ts, xm, xs, H0, rfl, _⟩ := h
    rfl
  · obtain ⟨a, dx, p, as, ts, xm, xs, H0, rfl, ha, na0, X0, hp, hA, hn, hok, hlm, hlt, cm, cs, q, qe⟩ := h
    refine ⟨_, (pss_cons (ps_fld (pv 0) (c_call (ok_shorts_in T) (hr.mono (by decide)) T.g_shorts_in T.k_shorts_in (takes_of rfl rfl rfl rfl) (pa_cons (pv 1) pa_nil)) rfl)
      (pss_cons (ps_if (PW.pt (pw_or (pt_cmpR op_eq (pe_callB call_len (by rfl) T.n_len (by decide +kernel) (pa_cons (pe_fld (pv 0) (by rfl)) pa_nil)) pe_int (nomark _)) (pw_or (pt_not (pt_val (c_call (ok_is_number T) (hr.mono (by decide)) T.g_is_number T.k_is_number (takes_of rfl rfl rfl rfl) (pa_cons (pv 2) (pa_cons pe_int pa_nil))))) (pw_or1 (pt_not (pt_val (c_call (ok_is_number T) (hr.mono (by decide)) T.g_is_number T.k_is_number (takes_of rfl rfl rfl rfl) (pa_cons (pv 3) (pa_cons pe_int pa_nil)))))))))
      (pss_one (ps_raise rfl (takes_of rfl rfl rfl rfl) (pmk_own PySem.F.excBase_ValueError T.x_NoPiece.x T.g_NoPiece T.x_NoPiece.kp (raises_own T.x_NoPiece.sub T.x_NoPiece.ty) rfl)))
      pss_nil)
      (pss_cons (ps_if (pt_cmpR op_le (pv 3) (pe_op op_sub (pe_orE (c_meth0 (pe_ix ix_tup (pe_fld (pv 0) (by rfl)) (pe_un un_neg pe_int) (fun _ _ => rfl)) T.c_At T.m_At_ends (ok_At_ends T) (hr.mono (by decide)) (takes_of rfl rfl rfl rfl)) (c_meth0 (pe_ix ix_tup (pe_fld (pv 0) (by rfl)) (pe_un un_neg pe_int) (fun _ _ => rfl)) T.c_Over T.m_Over_ends (all_Over_ends T 9) (hr.mono (by decide)) (takes_of rfl rfl rfl rfl))) (pe_orE (c_meth0 (pe_ix ix_tup (pe_fld (pv 0) (by rfl)) pe_int (fun _ _ => rfl)) T.c_At T.m_At_begins (ok_At_begins T) (hr.mono (by decide)) (takes_of rfl rfl rfl rfl)) (c_meth0 (pe_ix ix_tup (pe_fld (pv 0) (by rfl)) pe_int (fun _ _ => rfl)) T.c_Over T.m_Over_begins (all_Over_begins T 9) (hr.mono (by decide)) (takes_of rfl rfl rfl rfl)))) (nomark _))
      (pss_one (ps_raise rfl (takes_of rfl rfl rfl rfl) (pmk_own PySem.F.excBase_ValueError T.x_NoPiece.x T.g_NoPiece T.x_NoPiece.kp (raises_own T.x_NoPiece.sub T.x_NoPiece.ty) rfl)))
      pss_nil)
      (pss_cons (ps_fld (pv 0) (pv 2) rfl)
      (pss_cons (ps_fld (pv 0) (pv 3) rfl)
      (pss_one (ps_if (PW.pt (pw_or (pt_cmpR op_gt (c_meth0 (pv 0) T.c_Over T.m_Over_means_many (all_Over_means_many T 9) (hr.mono (by decide)) (takes_of rfl rfl rfl rfl)) (pe_k T.v_MOST_MOMENTS) (nomark _)) (pw_or1 (pt_cmpR op_gt (c_meth0 (pv 0) T.c_Over T.m_Over_nested (all_Over_nested T 9) (hr.mono (by decide)) (takes_of rfl rfl rfl rfl)) (pe_k T.v_MOST_NESTED) (nomark _)))))
      (pss_one (ps_raise rfl (takes_of rfl rfl rfl rfl) (pmk_own PySem.F.excBase_ValueError T.x_NoPiece.x T.g_NoPiece T.x_NoPiece.kp (raises_own T.x_NoPiece.sub T.x_NoPiece.ty) rfl)))
      pss_nil))))))), ?_⟩
    have hl1 := hA.len
    have hpH : SqA H p (as.map V.ref) := hp.imp (fun h => X0 _ _ h) (fun h => X0 _ _ h)
    refine ⟨_, rfl, p, as, ts, rfl, hpH, hA.mono X0, by omega, hok, hlt, fun hr2 t H1 X1 ht => ?_, fun hr2 H1 X1 => qe (by unfold ovB; rw [hr2]; rfl) H1 (ex_oth X1)⟩
    refine ⟨_, rfl, a, _, dx, [], rfl, X1 _ _ ha, T.c_Over, T.a_Over_kept, by decide, ?_⟩
    have ta : t ≠ a := fun z => by rw [z, X1 _ _ ha] at ht; cases ht
    have O1 : Oth a H (upd H1 a (.ins (OverC K) dx (putF "kept" (.ref t) []))) := (ex_oth X1).upd
    have h2 : upd H1 a (.ins (OverC K) dx (putF "kept" (.ref t) [])) a = some (.ins (OverC K) dx [("kept", .ref t)]) := upd_same
    have ht2 : upd H1 a (.ins (OverC K) dx (putF "kept" (.ref t) [])) t = some (.tup (as.map V.ref)) := by rw [upd_ne ta]; exact ht
    generalize upd H1 a (.ins (OverC K) dx (putF "kept" (.ref t) [])) = H2 at O1 h2 ht2 ⊢
    have X02 : Ex H0 H2 := Oth.ex X0 na0 O1
    have hA2 : ShsAt K H2 ts as := hA.mono X02
    refine ⟨_, rfl, a, _, dx, _, _, rfl, h2, T.c_Over, T.a_Over_kept, rfl, _, as.length, rfl, .inr ⟨_, sq_tup ht2, (List.length_map _).symm⟩, rfl, _, rfl, ?_⟩
    by_cases h0 : ts = []
    · rw [decide_eq_true (show V.int ((as.length : Nat) : Int) = V.int 0 by rw [hl1, h0]; rfl)]
      refine iteT ?_
      refine qe ?_ H2 O1
      unfold ovB
      rw [hr2, decide_eq_false (fun z => z h0)]
      rfl
    have pos : 0 < ts.length := List.length_pos_iff.mpr h0
    rw [decide_eq_false (show ¬ V.int ((as.length : Nat) : Int) = V.int 0 from fun z => by injection z with z; omega)]
    refine iteF ?_
    refine ⟨_, rfl, xm, 2, rfl, cm.mono X02, _, rfl, ?_⟩
    cases hm2 : isN 2 xm with
    | false =>
      refine iteT ?_
      refine qe ?_ H2 O1
      unfold ovB
      rw [hr2, decide_eq_true h0, hm2]
      rfl
    | true =>
    refine iteF ?_
    refine ⟨_, rfl, xs, 1, rfl, cs.mono X02, _, rfl, ?_⟩
    cases hs2 : isN 1 xs with
    | false =>
      refine iteT ?_
      refine qe ?_ H2 O1
      unfold ovB
      rw [hr2, decide_eq_true h0, hm2, hs2]
      rfl
    | true =>
    refine iteF ?_
    obtain ⟨m, rfl, hm⟩ := isN_nat_of (by decide) hm2
    obtain ⟨s_, rfl, hs1⟩ := isN_nat_of (by decide) hs2
    have eB : ovB ts (.int (m : Nat)) (.int (s_ : Nat)) = (decide (((momsL ts).getLastD 0 : Int) < ((s_ : Nat) : Int) + ((momsL ts).headD 0 : Int)) && (decide (((m : Nat) : Int) * ((momsL ts).length : Int) ≤ 1440) && decide (nestL ts ≤ 7))) := by
      unfold ovB
      rw [hr2, decide_eq_true h0, hm2, hs2]
      rfl
    have nn := momsL_ne hok h0
    obtain ⟨zf, rf, tf, rt, eas, ets, hSf⟩ : ∃ z r t u, as = z :: r ∧ ts = t :: u ∧ ShAt K H2 t z := by
      cases ts with
      | nil => exact absurd rfl h0
      | cons t u =>
        unfold ShsAt at hA2
        obtain ⟨z, r, e, h1, _⟩ := hA2
        exact ⟨z, r, t, u, e, rfl, h1⟩
    have as0 : as ≠ [] := fun z => by rw [z] at eas; cases eas
    obtain ⟨zl, gl, aL⟩ := last_ref as0
    obtain ⟨tl, htl, hSl⟩ := hA2.get gl
    have ep : ts = ts.dropLast ++ [tl] := by
      have e := (List.dropLast_concat_getLast h0).symm
      have e2 : ts.getLast h0 = tl := by
        rw [List.getLast_eq_getElem]
        rw [hl1] at htl
        obtain ⟨_, e⟩ := List.getElem?_eq_some_iff.mp htl
        exact e
      rw [e2] at e
      exact e
    have eL : (momsL ts).getLastD 0 = tl.moms.getLastD 0 := by
      have o7 := hok
      rw [ep] at o7 ⊢
      exact momsL_last o7
    have eF : (momsL ts).headD 0 = tf.moms.headD 0 := by
      have o7 := hok
      rw [ets] at o7 ⊢
      exact momsL_head o7
    have mf : tf ∈ ts := by rw [ets]; exact List.mem_cons_self
    have ml := List.mem_of_getElem? htl
    have aF : atI (as.map V.ref) 0 = some (.ref zf) := by rw [eas]; exact atI_nat (j := 0) rfl
    refine ⟨_, rfl, ?_⟩
    refine sh_ends hSl (okL_mem hok ml) (Nat.le_trans (nestL_mem ml) (by omega)) (fun R r => ⟨_, rfl, a, _, dx, _, _, rfl, h2, T.c_Over, T.a_Over_kept, rfl, _, rfl, t, _, _, _, rfl, rfl, sq_tup ht2, aL, r⟩) ?_
    refine sh_begins hSf (okL_mem hok mf) (Nat.le_trans (nestL_mem mf) (by omega)) (fun R r => ⟨_, rfl, a, _, dx, _, _, rfl, h2, T.c_Over, T.a_Over_kept, rfl, t, _, _, _, rfl, rfl, sq_tup ht2, aF, r⟩) ?_
    refine ⟨_, _, rfl, rfl, _, _, rfl, rfl, _, rfl, ?_⟩
    rw [← eL, ← eF]
    by_cases c1 : ((momsL ts).getLastD 0 : Int) < ((s_ : Nat) : Int) + ((momsL ts).headD 0 : Int)
    · rw [decide_eq_false (show ¬ ((s_ : Nat) : Int) ≤ (((momsL ts).getLastD 0 : Nat) : Int) - (((momsL ts).headD 0 : Nat) : Int) by omega)]
      refine iteF ?_
      refine ⟨_, rfl, _, rfl, a, _, dx, _, rfl, h2, T.c_Over, T.a_Over_many, Nat.le_of_ble_eq_true rfl, ?_⟩
      refine ⟨_, rfl, _, rfl, a, _, dx, _, rfl, upd_same, T.c_Over, T.a_Over_step, Nat.le_of_ble_eq_true rfl, ?_⟩
      rw [upd_upd]
      rw [show putF "step" (V.int (s_ : Nat)) (putF "many" (V.int (m : Nat)) [("kept", V.ref t)]) = overF t m s_ from rfl]
      have O3 : Oth a H (upd H2 a (.ins (OverC K) dx (overF t m s_))) := O1.upd
      have X03 : Ex H0 (upd H2 a (.ins (OverC K) dx (overF t m s_))) := Oth.ex X0 na0 O3
      have h3 : upd H2 a (.ins (OverC K) dx (overF t m s_)) a = some (.ins (OverC K) dx (overF t m s_)) := upd_same
      have hO : ShAt K (upd H2 a (.ins (OverC K) dx (overF t m s_))) (.ov ts m s_) a := by
        unfold ShAt
        exact ⟨dx, t, as, h3, by rw [upd_ne ta]; exact ht2, hA.mono X03⟩
      generalize upd H2 a (.ins (OverC K) dx (overF t m s_)) = H3 at O3 X03 hO h3 ⊢
      have hn9 : (Tr.ov ts m s_).nest ≤ 9 := by
        unfold Tr.nest
        omega
      refine ⟨_, rfl, a, dx, _, rfl, h3, rfl, a, ts, m, s_, rfl, hO, hn9, hok, hlm, fun H4 X4 => ⟨_, _, rfl, rfl, _, rfl, ?_⟩⟩
      have em : ((m * (momsL ts).length : Nat) : Int) = ((m : Nat) : Int) * ((momsL ts).length : Int) := by simp
      by_cases c2 : ((m : Nat) : Int) * ((momsL ts).length : Int) ≤ 1440
      · rw [decide_eq_false (show ¬ (1440 : Int) < ((m * (momsL ts).length : Nat) : Int) by omega)]
        refine iteF ?_
        refine ⟨_, rfl, a, dx, _, rfl, X4 _ _ h3, rfl, a, ts, m, s_, rfl, hO.mono X4, hn9, h0, hok, hlm, fun H5 X5 => ⟨_, _, rfl, rfl, _, rfl, ?_⟩⟩
        have O5 := O3.trans (ex_oth (X4.trans X5))
        by_cases c3 : nestL ts ≤ 7
        · rw [decide_eq_false (show ¬ (8 : Int) < (((Tr.ov ts m s_).nest : Nat) : Int) by unfold Tr.nest; omega)]
          refine iteF ?_
          exact q m s_ (by rw [eB, decide_eq_true c1, decide_eq_true c2, decide_eq_true c3]; rfl) rfl rfl H5 O5 (hO.mono (X4.trans X5))
        · rw [decide_eq_true (show (8 : Int) < (((Tr.ov ts m s_).nest : Nat) : Int) by unfold Tr.nest; omega)]
          refine iteT ?_
          exact qe (by rw [eB, decide_eq_false c3, Bool.and_false, Bool.and_false]) H5 O5
      · rw [decide_eq_true (show (1440 : Int) < ((m * (momsL ts).length : Nat) : Int) by omega)]
        exact iteT (qe (by rw [eB, decide_eq_false c2, Bool.false_and, Bool.and_false]) H4 (O3.trans (ex_oth X4)))
    · rw [decide_eq_true (show ((s_ : Nat) : Int) ≤ (((momsL ts).getLastD 0 : Nat) : Int) - (((momsL ts).headD 0 : Nat) : Int) by omega)]
      refine iteT ?_
      exact qe (by rw [eB, decide_eq_false c1]; rfl) H2 O1
theorem ovB_of {ts : List Tr} {m s : Nat} (h : (Tr.ov ts m s).ok) (hn : (Tr.ov ts m s).nest ≤ 8) : ovB ts (.int (m : Nat)) (.int (s : Nat)) = true := by
  unfold Tr.ok at h
  obtain ⟨h1, h2, h3, h4, h5, h6, h7⟩ := h
  unfold Tr.nest at hn
  have e4 : ((m : Nat) : Int) * ((momsL ts).length : Int) ≤ 1440 := by
    have : ((m * (momsL ts).length : Nat) : Int) ≤ 1440 := by omega
    rw [Int.natCast_mul] at this
    exact this
  unfold ovB
  rw [ris_of h7 h6, decide_eq_true h1, show isN 2 (.int (m : Nat)) = true from isN_nat (m := 2) h2, show isN 1 (.int (s : Nat)) = true from isN_nat (m := 1) h3]
  show (decide _ && (decide _ && decide _)) = true
  rw [decide_eq_true (by omega), decide_eq_true e4, decide_eq_true (by omega)]
  rfl
theorem over_newT {K : PySem.W.Frag} {H : Hp} {x dx p : Addr} {as : List Addr} {ts : List Tr} {m s : Nat} {Q : VK} {E : XK} (nx : H x = none) (nd : H dx = none) (ne : dx ≠ x) (hp : SqA H p (as.map V.ref)) (hA : ShsAt K H ts as) (hok : (Tr.ov ts m s).ok) (hn : (Tr.ov ts m s).nest ≤ 8) (q : ∀ H', Ex H H' → ShAt K H' (.ov ts m s) x → Q .non H') :
    sp_Over_init K [.ref x, .ref p, .int (m : Nat), .int (s : Nat)] (upd (upd H dx (.own x)) x (.ins (OverC K) dx [])) Q E := by
  have X1 := ex_made (o1 := .own x) (o2 := .ins (OverC K) dx []) nx nd ne
  have hb := ovB_of hok hn
  obtain ⟨o1, m2, hm, hml, hl2, hpl, hokL⟩ := ov_facts hok
  unfold Tr.nest at hn
  refine ⟨x, dx, p, as, ts, _, _, H, rfl, upd_same, nx, X1, hp, hA, by omega, hokL, by omega, by omega, cl_int _, cl_int _, fun m' s' _ em es H' k d => ?_, fun z => by rw [hb] at z; cases z⟩
  have e1 : m = m' := by injection em with em; omega
  have e2 : s = s' := by injection es with es; omega
  subst e1 e2
  exact q H' (fun b o e => k b o (ne_of_none e nx) (X1 _ _ e)) d
theorem ok_Over_init_2 {P : Program} {w : World} {K : PySem.W.Frag} {mg : Str → Option Value} {base : Heap} (T : Env K mg) : Fc P w K mg base 64 (He.ma K (He.ga K "Over") "__init__") [] (fun vs H Q E => vs.length = 2 + ([] : List Str).length ∧ sp_Over_init K  (pick [.inl 0, .inl 1, .inr 0, .inr 1] vs [.int (2), .int (60)]) H Q E) := by
  obtain ⟨fd, D, F⟩ := fb_Over_init T
  exact Fb.shape D F 2 [] (fun us its => pick [.inl 0, .inl 1, .inr 0, .inr 1] us its) (by decide) (fun r1 r2 => pick_vals _ r1 r2) (fun T kV doc pm an cdv ct us ws its h1 h2 h3 => match us, ws, its, h1, h2, h3 with | [_, _], [], [_, _], _, _, _ => ⟨_, rfl, rfl⟩)
theorem ok_Over_init {P : Program} {w : World} {K : PySem.W.Frag} {mg : Str → Option Value} {base : Heap} (T : Env K mg) : Fc P w K mg base 64 (He.ma K (He.ga K "Over") "__init__") [] (fun vs H Q E => vs.length = 4 + ([] : List Str).length ∧ sp_Over_init K  (pick [.inl 0, .inl 1, .inl 2, .inl 3] vs [.int (2), .int (60)]) H Q E) := by
  obtain ⟨fd, D, F⟩ := fb_Over_init T
  exact Fb.shape D F 4 [] (fun us its => pick [.inl 0, .inl 1, .inl 2, .inl 3] us its) (by decide) (fun r1 r2 => pick_vals _ r1 r2) (fun T kV doc pm an cdv ct us ws its h1 h2 h3 => match us, ws, its, h1, h2, h3 with | [_, _, _, _], [], [_, _], _, _, _ => ⟨_, rfl, rfl⟩)
end
section
theorem fb_Over_moments {P : Program} {w : World} {K : PySem.W.Frag} {mg : Str → Option Value} {base : Heap} (T : Env K mg) {d L : Nat} (hL : 40 ≤ L) (r_Over_moments : Fc P w K mg base L (He.ma K (He.ga K "Over") "moments") [] (sp_Over_moments K d)) : ∃ fd, FunD K "moments" "Over.moments" (defArgs s_Over_moments) (defBody s_Over_moments) (defScope s_Over_moments) [] [] (He.ma K (He.ga K "Over") "moments") fd ∧ Fb P w K mg base (L + 2) (He.ma K (He.ga K "Over") "moments") fd ["self"] (sp_Over_moments K (d + 1)) := by
  obtain ⟨fd, F⟩ := T.f_Over_moments
  refine ⟨fd, F, fb_of F sc_Over_moments (fun vs H Q E h => ?_) (fun cdv A outer s H vs Q E hr h => ?_)⟩
  · obtain ⟨a, ps, m, s, rfl, _⟩ := h
    rfl
  · obtain ⟨a, ps, m, s_, rfl, hO, hn, hok, q⟩ := h
    refine ⟨_, (pss_cons (ps_set (i := 1) sc_Over_moments.nd rfl (Or.inl rfl) (c_call (ok_row_moments T hL r_Over_moments) (hr.mono (by omega)) T.g_row_moments T.k_row_moments takes0 (pa_cons (pe_fld (pv 0) (by rfl)) pa_nil)))
      (pss_cons (ps_set (i := 2) sc_Over_moments.nd rfl (Or.inl rfl) (pe_lst pa_nil))
      (pss_cons (ps_for (passes_of rfl) rfl (pi_range1 (by rfl) T.n_range (pa_cons (pe_fld (pv 0) (by rfl)) pa_nil)) (pg_name (i := 3) sc_Over_moments.nd rfl (Or.inr rfl))
      (pss_one (ps_expr (pe_bm PySem.F.plainAttrs_list PySem.F.slot_list_extend PySem.F.type_list_extend mt_extend (pv 2) (pa_cons (pe_lc (own := [("moment", 4)]) (by rfl) sc_Over_moments.nd (pi_list (pv 1)) (blkOk_by (own := [("moment", 4)]) (N := ["self", "own", "found", "time", "moment"]) (sc := defScope s_Over_moments) (by decide +kernel)) (fun _ _ _ _ _ => (pg_name (i := 4) sc_Over_moments.nd rfl (Or.inl rfl))) (fun _ _ _ _ _ => pts_nil) (fun _ _ _ _ _ => (pe_op op_add (pv 4) (pe_op op_mul (pv 3) (pe_fldK K (pv 0) (by rfl)))))) pa_nil)))))
      (pss_one (ps_ret (pv 2)))))), ?_⟩
    obtain ⟨_, m2, hm, hml, hl, hpl, hokL⟩ := ov_facts hok
    have hnL := ov_nest hn
    unfold Tr.moms at q
    unfold ShAt at hO
    obtain ⟨dx, kp, as, ha, hk, hA⟩ := hO
    generalize hns : momsL ps = ns at *
    refine ⟨_, rfl, a, _, dx, _, _, rfl, ha, T.c_Over, T.a_Over_kept, rfl, kp, as, ps, rfl, hk, hA, hnL, hokL, by rw [hns]; exact hl, fun w H1 X1 nw hw => ?_⟩
    rw [hns] at hw
    refine ⟨by show 0 ≤ sizeLine; decide, fun f nf => ?_⟩
    have nf0 := ex_fresh X1 nf
    have X2 := X1.trans (ex_new (o := .lst []) nf)
    have wf : w ≠ f := ne_of_none hw nf
    have af : a ≠ f := ne_of_none ha nf0
    have ha2 := X2 _ _ ha
    have hw2 := ex_new (o := .lst []) nf _ _ hw
    have hf2 : upd H1 f (.lst []) f = some (.lst []) := upd_same
    generalize upd H1 f (.lst []) = H2 at X2 ha2 hw2 hf2 ⊢
    refine ⟨_, rfl, a, _, dx, _, _, rfl, ha2, T.c_Over, T.a_Over_many, rfl, _, rfl, by omega, by omega, for_range (fun i σ H' => Oth f H2 H' ∧ ∃ v3 v4, σ = [some (.ref a), some (.ref w), some (.ref f), v3, v4] ∧ H' f = some (.lst (natV (overN ns i s_)))) ⟨Oth.refl _ _, _, _, rfl, hf2⟩ ?_ ?_⟩
    · rintro i σ H3 hi ⟨O3, v3, v4, rfl, hf3⟩
      have hi2 : i < m := by omega
      have hw3 := O3 _ _ wf hw2
      have ha3 := O3 _ _ af ha2
      have ll : (overN ns i s_).length = i * ns.length := overN_len ns i s_
      have l2 : i * ns.length ≤ m * ns.length := Nat.mul_le_mul_right _ (by omega)
      refine ⟨_, rfl, .inl ⟨rfl, _, sq_lst hf3⟩, _, rfl, w, rfl, ⟨_, sq_lst hw3⟩, fun A nA => lc_on ns (fun n : Nat => V.int n) L2.walk_list (fun n => some (.int ((n + i * s_ : Nat) : Int))) (fun H' => Ex H3 H') (fun H' z e => ex_mut e nA) (.refl _) (by omega) (fun H' e => sq_lst (e _ _ hw3)) (fun j n H4 acc N hn X4 hD la k => ?_) fun H4 X4 d4 => ?_⟩
      · refine ⟨rfl, _, rfl, _, rfl, _, rfl, a, _, dx, _, _, rfl, X4 _ _ ha3, T.c_Over, T.a_Over_step, rfl, _, _, rfl, rfl, .inl ⟨by omega, by omega⟩, _, _, rfl, rfl, acc, hD, la, ?_⟩
        have e : ((n : Nat) : Int) + (0 + ((i : Nat) : Int)) * ((s_ : Nat) : Int) = ((n + i * s_ : Nat) : Int) := by simp
        show N (upd H4 A (.lst (acc ++ [.int (((n : Nat) : Int) + (0 + ((i : Nat) : Int)) * ((s_ : Nat) : Int))])))
        rw [e]
        exact k H4 X4 hD
      · have ed : ns.filterMap (fun n => some (V.int ((n + i * s_ : Nat) : Int))) = natV (ns.map fun n => n + i * s_) := by
          unfold natV
          rw [List.filterMap_eq_map', List.map_map]
          rfl
        rw [ed] at d4
        refine ⟨f, A, _, _, rfl, rfl, X4 _ _ hf3, d4, sz_le (by rw [natV_len, natV_len, List.length_map, ll]; omega), (O3.trans (ex_oth X4)).upd, _, _, rfl, ?_⟩
        rw [upd_same, overN_succ]
        unfold natV
        rw [List.map_append]
    · rintro σ H3 ⟨O3, v3, v4, rfl, hf3⟩
      rw [show ((m : Nat) : Int).toNat = m by omega] at hf3
      exact ⟨_, rfl, q f H3 (Oth.ex X2 nf0 O3) nf0 hf3⟩
theorem ok_Over_moments {P : Program} {w : World} {K : PySem.W.Frag} {mg : Str → Option Value} {base : Heap} (T : Env K mg) {d L : Nat} (hL : 40 ≤ L) (r_Over_moments : Fc P w K mg base L (He.ma K (He.ga K "Over") "moments") [] (sp_Over_moments K d)) : Fc P w K mg base (L + 2) (He.ma K (He.ga K "Over") "moments") [] (sp_Over_moments K (d + 1)) := by
  obtain ⟨fd, D, F⟩ := fb_Over_moments T hL r_Over_moments
  exact F.all (D.bindsN fun _ _ _ _ _ _ us hl => match us, hl with | [_], _ => rfl)
theorem all_Over_moments {P : Program} {w : World} {K : PySem.W.Frag} {mg : Str → Option Value} {base : Heap} (T : Env K mg) : ∀ d, Fc P w K mg base (40 + 2 * d) (He.ma K (He.ga K "Over") "moments") [] (sp_Over_moments K d)
  | 0 => fc_no fun vs H Q E h => by
    obtain ⟨a, ps, m, s, _, _, h, _⟩ := h
    unfold Tr.nest at h
    omega
  | d + 1 => ok_Over_moments T (Nat.le_add_right 40 _) (all_Over_moments T d)
end
section
abbrev SpreadC (K : PySem.W.Frag) : Addr := He.ga K "Spread"
def sprF (kp hd : Addr) : List (Str × V) := [("kept", .ref kp), ("held", .ref hd)]
/-- at a a spread of these shorts -/
def SprAt (K : PySem.W.Frag) (H : Hp) (a : Addr) (ts : List Tr) : Prop := ∃ dx kp hd as, H a = some (.ins (SpreadC K) dx (sprF kp hd)) ∧ H kp = some (.tup (as.map V.ref)) ∧ H hd = some (.lst (natV (momsL ts))) ∧ ShsAt K H ts as
theorem SprAt.mono {K : PySem.W.Frag} {H H' : Hp} {a : Addr} {ts : List Tr} (h : SprAt K H a ts) (e : Ex H H') : SprAt K H' a ts := let ⟨dx, kp, hd, as, h1, h2, h3, h4⟩ := h; ⟨dx, kp, hd, as, e _ _ h1, e _ _ h2, e _ _ h3, h4.mono e⟩
theorem sprF_inj {a b c d : Addr} (h : sprF a b = sprF c d) : a = c ∧ b = d := by
  unfold sprF at h
  simpa using h
theorem ins_inj {C dx dy : Addr} {fs gs : List (Str × V)} (h : some (HO.ins C dx fs) = some (HO.ins C dy gs)) : dx = dy ∧ fs = gs := by
  cases h
  exact ⟨rfl, rfl⟩
/-- the list that a spread holds stands at a place that N tells -/
def HeldN (K : PySem.W.Frag) (N : Addr → Prop) (H : Hp) (a : Addr) : Prop := ∀ dx kp hd, H a = some (.ins (SpreadC K) dx (sprF kp hd)) → N hd
theorem HeldN.ex {K : PySem.W.Frag} {N : Addr → Prop} {H H' : Hp} {a : Addr} {ts : List Tr} (h : HeldN K N H a) (s : SprAt K H a ts) (e : ∀ o, H a = some o → H' a = some o) : HeldN K N H' a := fun dx kp hd z => by
  obtain ⟨dx2, kp2, hd2, as2, h2, _⟩ := s
  obtain ⟨_, e5⟩ := ins_inj ((e _ h2).symm.trans z)
  obtain ⟨e6, e7⟩ := sprF_inj e5
  rw [← e7]
  exact h _ _ _ h2
def sprB (ts : List Tr) : Bool := risB ts && decide ((momsL ts).length ≤ 1440)
def sp_Spread_init (K : PySem.W.Frag) : Sp := fun vs H Q E => ∃ (a dx p : Addr) (as : List Addr) (ts : List Tr) (H0 : Hp), vs = [.ref a, .ref p] ∧ H a = some (.ins (SpreadC K) dx []) ∧ H0 a = none ∧ Ex H0 H ∧ SqA H0 p (as.map V.ref) ∧ ShsAt K H0 ts as ∧ nestL ts ≤ 8 ∧ okL_ ts ∧ ts.length ≤ 20000 ∧ ts.length ≤ 20000 ∧ (sprB ts = true → ∀ H', Oth a H H' → SprAt K H' a ts → HeldN K (fun b => H0 b = none) H' a → Q .non H') ∧ (sprB ts = false → ∀ H', Oth a H H' → E (.ref (He.ga K "NoPiece")) none H')
theorem fb_Spread_init {P : Program} {w : World} {K : PySem.W.Frag} {mg : Str → Option Value} {base : Heap} (T : Env K mg) : ∃ fd, FunD K "__init__" "Spread.__init__" (defArgs s_Spread_init) (defBody s_Spread_init) (defScope s_Spread_init) [] [] (He.ma K (He.ga K "Spread") "__init__") fd ∧ Fb P w K mg base 64 (He.ma K (He.ga K "Spread") "__init__") fd ["self", "parts"] (sp_Spread_init K) := by
  obtain ⟨fd, F⟩ := T.f_Spread_init
  refine ⟨fd, F, fb_of F sc_Spread_init (fun vs H Q E h => ?_) (fun cdv A outer s H vs Q E hr h => ?_)⟩
  · obtain ⟨a, dx, p, as, ts, H0, rfl, _⟩ := h
    rfl
  · obtain ⟨a, dx, p, as, ts, H0, rfl, ha, na0, X0, hp, hA, hn, hok, hlm, hlt, q, qe⟩ := h
    refine ⟨_, (pss_cons (ps_fld (pv 0) (c_call (ok_shorts_in T) (hr.mono (by decide)) T.g_shorts_in T.k_shorts_in (takes_of rfl rfl rfl rfl) (pa_cons (pv 1) pa_nil)) rfl)
      (pss_cons (ps_if (pt_cmpR op_gt (c_call (ok_row_many T (Nat.le_add_right 40 _) (all_Over_means_many T 9)) (hr.mono (by decide)) T.g_row_many T.k_row_many (takes_of rfl rfl rfl rfl) (pa_cons (pe_fld (pv 0) (by rfl)) pa_nil)) (pe_k T.v_MOST_MOMENTS) (nomark _))
      (pss_one (ps_raise rfl (takes_of rfl rfl rfl rfl) (pmk_own PySem.F.excBase_ValueError T.x_NoPiece.x T.g_NoPiece T.x_NoPiece.kp (raises_own T.x_NoPiece.sub T.x_NoPiece.ty) rfl)))
      pss_nil)
      (pss_one (ps_fld (pv 0) (c_call (ok_row_moments T (Nat.le_add_right 40 _) (all_Over_moments T 9)) (hr.mono (by decide)) T.g_row_moments T.k_row_moments (takes_of rfl rfl rfl rfl) (pa_cons (pe_fld (pv 0) (by rfl)) pa_nil)) rfl)))), ?_⟩
    have hpH : SqA H p (as.map V.ref) := hp.imp (fun h => X0 _ _ h) (fun h => X0 _ _ h)
    refine ⟨_, rfl, p, as, ts, rfl, hpH, hA.mono X0, by omega, hok, hlt, fun hr2 t H1 X1 ht => ?_, fun hr2 H1 X1 => qe (by unfold sprB; rw [hr2]; rfl) H1 (ex_oth X1)⟩
    refine ⟨_, rfl, a, _, dx, [], rfl, X1 _ _ ha, T.c_Spread, T.a_Spread_kept, by decide, ?_⟩
    have ta : t ≠ a := fun z => by rw [z, X1 _ _ ha] at ht; cases ht
    have O1 : Oth a H (upd H1 a (.ins (SpreadC K) dx (putF "kept" (.ref t) []))) := (ex_oth X1).upd
    have h2 : upd H1 a (.ins (SpreadC K) dx (putF "kept" (.ref t) [])) a = some (.ins (SpreadC K) dx [("kept", .ref t)]) := upd_same
    have ht2 : upd H1 a (.ins (SpreadC K) dx (putF "kept" (.ref t) [])) t = some (.tup (as.map V.ref)) := by rw [upd_ne ta]; exact ht
    generalize upd H1 a (.ins (SpreadC K) dx (putF "kept" (.ref t) [])) = H2 at O1 h2 ht2 ⊢
    have X02 : Ex H0 H2 := Oth.ex X0 na0 O1
    have hA2 : ShsAt K H2 ts as := hA.mono X02
    refine ⟨_, rfl, a, _, dx, _, _, rfl, h2, T.c_Spread, T.a_Spread_kept, rfl, t, as, ts, rfl, ht2, hA2, by omega, hok, hlm, fun H3 X3 => ⟨_, _, rfl, rfl, _, rfl, ?_⟩⟩
    by_cases c : (momsL ts).length ≤ 1440
    · rw [decide_eq_false (show ¬ (1440 : Int) < (((momsL ts).length : Nat) : Int) by omega)]
      refine iteF ?_
      refine ⟨_, rfl, a, _, dx, _, _, rfl, X3 _ _ h2, T.c_Spread, T.a_Spread_kept, rfl, t, as, ts, rfl, X3 _ _ ht2, hA2.mono X3, by omega, hok, c, fun hd H4 X4 nhd hhd => ?_⟩
      have X34 := X3.trans X4
      have hda : hd ≠ a := fun z => by rw [z, X34 _ _ h2] at hhd; cases hhd
      refine ⟨_, rfl, a, _, dx, _, rfl, X34 _ _ h2, T.c_Spread, T.a_Spread_held, Nat.le_of_ble_eq_true rfl, ?_⟩
      have O4 : Oth a H (upd H4 a (.ins (SpreadC K) dx (sprF t hd))) := (O1.trans (ex_oth X34)).upd
      refine q (by unfold sprB; rw [hr2, decide_eq_true c]; rfl) _ O4 ⟨dx, t, hd, as, upd_same, by rw [upd_ne ta]; exact X34 _ _ ht2, by rw [upd_ne hda]; exact hhd, hA.mono (Oth.ex X0 na0 O4)⟩ fun dx' kp' hd' e => ?_
      rw [upd_same] at e
      rw [← (sprF_inj (ins_inj e).2).2]
      exact ex_fresh (X02.trans X3) nhd
    · rw [decide_eq_true (show (1440 : Int) < (((momsL ts).length : Nat) : Int) by omega)]
      exact iteT (qe (by unfold sprB; rw [decide_eq_false c, Bool.and_false]) H3 (O1.trans (ex_oth X3)))
theorem spread_new {K : PySem.W.Frag} {H : Hp} {x dx p : Addr} {as : List Addr} {ts : List Tr} {Q : VK} {E : XK} (nx : H x = none) (nd : H dx = none) (ne : dx ≠ x) (hp : SqA H p (as.map V.ref)) (hA : ShsAt K H ts as) (hn : nestL ts ≤ 8) (hok : okL_ ts) (hb : sprB ts = true) (q : ∀ H', Ex H H' → SprAt K H' x ts → Q .non H') :
    sp_Spread_init K [.ref x, .ref p] (upd (upd H dx (.own x)) x (.ins (SpreadC K) dx [])) Q E := by
  have X1 := ex_made (o1 := .own x) (o2 := .ins (SpreadC K) dx []) nx nd ne
  have hl : (momsL ts).length ≤ 1440 := of_decide_eq_true (Bool.and_eq_true_iff.mp hb).2
  have h2 := len_moms hok
  refine ⟨x, dx, p, as, ts, H, rfl, upd_same, nx, X1, hp, hA, hn, hok, by omega, by omega, fun _ H' k d _ => ?_, fun z => by rw [hb] at z; cases z⟩
  exact q H' (fun b o e => k b o (ne_of_none e nx) (X1 _ _ e)) d
theorem spread_newH {K : PySem.W.Frag} {H : Hp} {x dx p : Addr} {as : List Addr} {ts : List Tr} {Q : VK} {E : XK} (nx : H x = none) (nd : H dx = none) (ne : dx ≠ x) (hp : SqA H p (as.map V.ref)) (hA : ShsAt K H ts as) (hn : nestL ts ≤ 8) (hok : okL_ ts) (hb : sprB ts = true) (q : ∀ H', Ex H H' → SprAt K H' x ts → HeldN K (fun b => H b = none) H' x → Q .non H') :
    sp_Spread_init K [.ref x, .ref p] (upd (upd H dx (.own x)) x (.ins (SpreadC K) dx [])) Q E := by
  have X1 := ex_made (o1 := .own x) (o2 := .ins (SpreadC K) dx []) nx nd ne
  have hl : (momsL ts).length ≤ 1440 := of_decide_eq_true (Bool.and_eq_true_iff.mp hb).2
  have h2 := len_moms hok
  refine ⟨x, dx, p, as, ts, H, rfl, upd_same, nx, X1, hp, hA, hn, hok, by omega, by omega, fun _ H' k d e => ?_, fun z => by rw [hb] at z; cases z⟩
  exact q H' (fun b o e => k b o (ne_of_none e nx) (X1 _ _ e)) d e
theorem ok_Spread_init {P : Program} {w : World} {K : PySem.W.Frag} {mg : Str → Option Value} {base : Heap} (T : Env K mg) : Fc P w K mg base 64 (He.ma K (He.ga K "Spread") "__init__") [] (sp_Spread_init K ) := by
  obtain ⟨fd, D, F⟩ := fb_Spread_init T
  exact F.all (D.bindsN fun _ _ _ _ _ _ us hl => match us, hl with | [_, _], _ => rfl)
end
section
def sp_Spread_moments (K : PySem.W.Frag) : Sp := fun vs H Q _ => ∃ a ts, vs = [.ref a] ∧ SprAt K H a ts ∧ ∀ p, H p = none → Q (.ref p) (upd H p (.lst (natV (momsL ts))))
theorem fb_Spread_moments {P : Program} {w : World} {K : PySem.W.Frag} {mg : Str → Option Value} {base : Heap} (T : Env K mg) : ∃ fd, FunD K "moments" "Spread.moments" (defArgs s_Spread_moments) (defBody s_Spread_moments) (defScope s_Spread_moments) [] [] (He.ma K (He.ga K "Spread") "moments") fd ∧ Fb P w K mg base 1 (He.ma K (He.ga K "Spread") "moments") fd ["self"] (sp_Spread_moments K) := by
  obtain ⟨fd, F⟩ := T.f_Spread_moments
  refine ⟨fd, F, fb_of F sc_Spread_moments (fun vs H Q E h => ?_) (fun cdv A outer s H vs Q E hr h => ?_)⟩
  · obtain ⟨a, ts, rfl, _⟩ := h
    rfl
  · obtain ⟨a, ts, rfl, hO, q⟩ := h
    refine ⟨_, (pss_one (ps_ret (pe_callTy call_list_of (by rfl) T.n_list (by decide +kernel) (pa_cons (pe_fld (pv 0) (by rfl)) pa_nil)))), ?_⟩
    obtain ⟨dx, kp, hd, as, ha, hk, hh, hA⟩ := id hO
    exact ⟨_, rfl, a, _, dx, _, _, rfl, ha, T.c_Spread, T.a_Spread_held, rfl, hd, _, rfl, .inl (sq_lst hh), q⟩
theorem ok_Spread_moments {P : Program} {w : World} {K : PySem.W.Frag} {mg : Str → Option Value} {base : Heap} (T : Env K mg) : Fc P w K mg base 1 (He.ma K (He.ga K "Spread") "moments") [] (sp_Spread_moments K ) := by
  obtain ⟨fd, D, F⟩ := fb_Spread_moments T
  exact F.all (D.bindsN fun _ _ _ _ _ _ us hl => match us, hl with | [_], _ => rfl)
end
section
def sp_want (K : PySem.W.Frag) : Sp := fun vs H Q E => ∃ (b : Bool) (z : Str), vs = [.bl b, .str z] ∧ (b = true → Q .non H) ∧ (b = false → E (.ref (He.ga K "NoCard")) none H)
theorem fb_want {P : Program} {w : World} {K : PySem.W.Frag} {mg : Str → Option Value} {base : Heap} (T : Env K mg) : ∃ fd, FunD K "want" "want" (defArgs s_want) (defBody s_want) (defScope s_want) [] [] (He.ga K "want") fd ∧ Fb P w K mg base 1 (He.ga K "want") fd ["truth", "words"] (sp_want K) := by
  obtain ⟨fd, F⟩ := T.f_want
  refine ⟨fd, F, fb_of F sc_want (fun vs H Q E h => ?_) (fun cdv A outer s H vs Q E hr h => ?_)⟩
  · obtain ⟨b, z, rfl, _⟩ := h
    rfl
  · obtain ⟨b, z, rfl, q, qe⟩ := h
    refine ⟨_, (pss_one (ps_if (pt_not (pt_val (pv 0)))
      (pss_one (ps_raise rfl (takes_of rfl rfl rfl rfl) (pmk_ret rfl (pe_exc1 PySem.F.excBase_ValueError T.x_NoCard.x T.g_NoCard T.x_NoCard.kp rfl (pv 1)))))
      pss_nil)), ?_⟩
    refine ⟨_, rfl, b, rfl, ?_⟩
    cases b with
    | true => exact iteF (q rfl)
    | false =>
      refine iteT ⟨_, rfl, fun a na => ⟨a, _, rfl, upd_same, fr0_none na, raises_own T.x_NoCard.sub T.x_NoCard.ty, ?_⟩⟩
      rw [delH_new na]
      exact qe rfl
theorem ok_want {P : Program} {w : World} {K : PySem.W.Frag} {mg : Str → Option Value} {base : Heap} (T : Env K mg) : Fc P w K mg base 1 (He.ga K "want") [] (sp_want K ) := by
  obtain ⟨fd, D, F⟩ := fb_want T
  exact F.all (D.bindsN fun _ _ _ _ _ _ us hl => match us, hl with | [_, _], _ => rfl)
end
section
inductive CardD where
  | once (ts : List Tr) (ws : List Str)
  | every (D : DaysD) (ts : List Tr) (ws : List Str)
  | join (cs : List CardD)
  | less (c d : CardD)
  | swap (c : CardD) (D : DaysD) (d : CardD)
  | later (c : CardD) (m : Nat)
  | noted (c : CardD) (z : Str)
  | as_ (z : Str)
def CardD.inner : CardD → List CardD
  | .join cs => cs
  | .less c d => [c, d]
  | .swap c _ d => [c, d]
  | .later c _ => [c]
  | .noted c _ => [c]
  | _ => []
mutual
/-- how many cards it has in it -/
def CardD.wt : CardD → Nat
  | .join cs => 1 + wtL cs
  | .less c d => 1 + (c.wt + d.wt)
  | .swap c _ d => 1 + (c.wt + d.wt)
  | .later c _ => 1 + c.wt
  | .noted c _ => 1 + c.wt
  | .once _ _ => 1
  | .every _ _ _ => 1
  | .as_ _ => 1
def wtL : List CardD → Nat
  | [] => 0
  | c :: cs => c.wt + wtL cs
end
theorem CardD.wt_eq (c : CardD) : c.wt = 1 + wtL c.inner := by
  cases c <;> simp [CardD.wt, CardD.inner, wtL]
theorem CardD.wt_pos (c : CardD) : 1 ≤ c.wt := by
  rw [c.wt_eq]
  omega
theorem wtL_len : ∀ cs : List CardD, cs.length ≤ wtL cs
  | [] => Nat.le_refl _
  | c :: cs => by
    show cs.length + 1 ≤ c.wt + wtL cs
    have := wtL_len cs
    have := c.wt_pos
    omega
mutual
/-- the name of the first As -/
def CardD.fst : CardD → Option Str
  | .as_ z => some z
  | .join cs => fstL cs
  | .less c d => (match c.fst with | some z => some z | none => d.fst)
  | .swap c _ d => (match c.fst with | some z => some z | none => d.fst)
  | .later c _ => c.fst
  | .noted c _ => c.fst
  | .once _ _ => none
  | .every _ _ _ => none
def fstL : List CardD → Option Str
  | [] => none
  | c :: cs => (match c.fst with | some z => some z | none => fstL cs)
end
def CardD.isAs : CardD → Bool
  | .as_ _ => true
  | _ => false
/-- the moments of a spread as a dict's keys -/
def ownK (ms : List Nat) : List (Key × V) := ms.map fun (n : Nat) => (Sum.inl (n : Int), V.bl true)
theorem ownK_get (n : Nat) : ∀ ms : List Nat, valV (ownK ms) (Sum.inl (n : Int)) = if n ∈ ms then some (V.bl true) else none
  | [] => rfl
  | m :: ms => by
    show valV ((Sum.inl ((m : Nat) : Int), V.bl true) :: ownK ms) _ = _
    by_cases h : m = n
    · subst h
      rw [valV_pos rfl, if_pos List.mem_cons_self]
    · rw [valV_neg (fun z => h (by injection z with z; omega)), ownK_get n ms]
      by_cases c : n ∈ ms
      · rw [if_pos c, if_pos (List.mem_cons_of_mem _ c)]
      · rw [if_neg c, if_neg fun z => (List.mem_cons.mp z).elim (fun e => h e.symm) c]
theorem ownK_merge : ∀ (ms xs : List Nat), (xs ++ ms).Nodup → mergeK (ownK xs) (ownK ms) = ownK (xs ++ ms)
  | [], xs, _ => by
    rw [List.append_nil]
    rfl
  | m :: ms, xs, h => by
    show mergeK (putK (ownK xs) (Sum.inl ((m : Nat) : Int)) (V.bl true)) (ownK ms) = _
    have hm : m ∉ xs := fun z => (List.nodup_append.mp h).2.2 m z m List.mem_cons_self rfl
    rw [putK_new _ (by rw [ownK_get, if_neg hm])]
    have e : ownK xs ++ [(Sum.inl ((m : Nat) : Int), V.bl true)] = ownK (xs ++ [m]) := by
      unfold ownK
      rw [List.map_append]
      rfl
    rw [e, ownK_merge ms (xs ++ [m]) (by rw [List.append_assoc]; exact h), List.append_assoc]
    rfl
end
section
abbrev CardC (K : PySem.W.Frag) : Addr := He.ga K "Card"
def cdF (h : Addr) (w : Nat) (fs : List (Str × V)) : List (Str × V) := ("held", .ref h) :: ("weight", .int (w : Nat)) :: fs
mutual
/-- at a this card -/
def CardAt (K : PySem.W.Frag) (H : Hp) : CardD → Addr → Prop
  | .once ts ws, a => ∃ dx h s nt ow, H a = some (.ins (He.ga K "Once") dx (cdF h 1 [("spread", .ref s), ("notes", .ref nt), ("own", .ref ow)])) ∧ H h = some (.lst []) ∧ SprAt K H s ts ∧ H nt = some (.tup (ws.map V.str)) ∧ H ow = some (.dK (ownK (momsL ts)))
  | .every D ts ws, a => ∃ dx h r s nt ow, H a = some (.ins (He.ga K "Every") dx (cdF h 1 [("days", .ref r), ("spread", .ref s), ("notes", .ref nt), ("own", .ref ow)])) ∧ H h = some (.lst []) ∧ DaysAt K H r D ∧ SprAt K H s ts ∧ H nt = some (.tup (ws.map V.str)) ∧ H ow = some (.dK (ownK (momsL ts)))
  | .join cs, a => ∃ dx h as, H a = some (.ins (He.ga K "Join") dx (cdF h (1 + wtL cs) [])) ∧ H h = some (.lst (as.map V.ref)) ∧ CardsAt K H cs as
  | .less c d, a => ∃ dx h b e, H a = some (.ins (He.ga K "Less") dx (cdF h (1 + (c.wt + d.wt)) [])) ∧ H h = some (.lst [.ref b, .ref e]) ∧ CardAt K H c b ∧ CardAt K H d e
  | .swap c D d, a => ∃ dx h b e r, H a = some (.ins (He.ga K "Swap") dx (cdF h (1 + (c.wt + d.wt)) [("days", .ref r)])) ∧ H h = some (.lst [.ref b, .ref e]) ∧ CardAt K H c b ∧ CardAt K H d e ∧ DaysAt K H r D
  | .later c m, a => ∃ dx h b, H a = some (.ins (He.ga K "Later") dx (cdF h (1 + c.wt) [("minutes", .int (m : Nat))])) ∧ H h = some (.lst [.ref b]) ∧ CardAt K H c b
  | .noted c z, a => ∃ dx h b, H a = some (.ins (He.ga K "Noted") dx (cdF h (1 + c.wt) [("note", .str z)])) ∧ H h = some (.lst [.ref b]) ∧ CardAt K H c b
  | .as_ z, a => ∃ dx h, H a = some (.ins (He.ga K "As") dx (cdF h 1 [("name", .str z)])) ∧ H h = some (.lst [])
def CardsAt (K : PySem.W.Frag) (H : Hp) : List CardD → List Addr → Prop
  | [], as => as = []
  | c :: cs, as => ∃ a r, as = a :: r ∧ CardAt K H c a ∧ CardsAt K H cs r
end
mutual
theorem CardAt.mono {K : PySem.W.Frag} {H H' : Hp} (e : Ex H H') : ∀ {c : CardD} {a : Addr}, CardAt K H c a → CardAt K H' c a
  | .once ts ws, a, h => by
    unfold CardAt at h ⊢
    obtain ⟨dx, hd, s, nt, ow, h1, h2, h3, h4, h5⟩ := h
    exact ⟨dx, hd, s, nt, ow, e _ _ h1, e _ _ h2, h3.mono e, e _ _ h4, e _ _ h5⟩
  | .every D ts ws, a, h => by
    unfold CardAt at h ⊢
    obtain ⟨dx, hd, r, s, nt, ow, h1, h2, h0, h3, h4, h5⟩ := h
    exact ⟨dx, hd, r, s, nt, ow, e _ _ h1, e _ _ h2, h0.mono e, h3.mono e, e _ _ h4, e _ _ h5⟩
  | .join cs, a, h => by
    unfold CardAt at h ⊢
    obtain ⟨dx, hd, as, h1, h2, h3⟩ := h
    exact ⟨dx, hd, as, e _ _ h1, e _ _ h2, CardsAt.mono e h3⟩
  | .less c d, a, h => by
    unfold CardAt at h ⊢
    obtain ⟨dx, hd, b, x, h1, h2, h3, h4⟩ := h
    exact ⟨dx, hd, b, x, e _ _ h1, e _ _ h2, CardAt.mono e h3, CardAt.mono e h4⟩
  | .swap c D d, a, h => by
    unfold CardAt at h ⊢
    obtain ⟨dx, hd, b, x, r, h1, h2, h3, h4, h5⟩ := h
    exact ⟨dx, hd, b, x, r, e _ _ h1, e _ _ h2, CardAt.mono e h3, CardAt.mono e h4, h5.mono e⟩
  | .later c m, a, h => by
    unfold CardAt at h ⊢
    obtain ⟨dx, hd, b, h1, h2, h3⟩ := h
    exact ⟨dx, hd, b, e _ _ h1, e _ _ h2, CardAt.mono e h3⟩
  | .noted c z, a, h => by
    unfold CardAt at h ⊢
    obtain ⟨dx, hd, b, h1, h2, h3⟩ := h
    exact ⟨dx, hd, b, e _ _ h1, e _ _ h2, CardAt.mono e h3⟩
  | .as_ z, a, h => by
    unfold CardAt at h ⊢
    obtain ⟨dx, hd, h1, h2⟩ := h
    exact ⟨dx, hd, e _ _ h1, e _ _ h2⟩
theorem CardsAt.mono {K : PySem.W.Frag} {H H' : Hp} (e : Ex H H') : ∀ {cs : List CardD} {as : List Addr}, CardsAt K H cs as → CardsAt K H' cs as
  | [], as, h => by
    unfold CardsAt at h ⊢
    exact h
  | c :: cs, as, h => by
    unfold CardsAt at h ⊢
    obtain ⟨a, r, h1, h2, h3⟩ := h
    exact ⟨a, r, h1, CardAt.mono e h2, CardsAt.mono e h3⟩
end
theorem CardsAt.one {K : PySem.W.Frag} {H : Hp} {c : CardD} {a : Addr} (h : CardAt K H c a) : CardsAt K H [c] [a] := by
  unfold CardsAt
  exact ⟨a, [], rfl, h, by unfold CardsAt; rfl⟩
theorem CardsAt.cons {K : PySem.W.Frag} {H : Hp} {c : CardD} {a : Addr} {cs : List CardD} {as : List Addr} (h : CardAt K H c a) (t : CardsAt K H cs as) : CardsAt K H (c :: cs) (a :: as) := by
  unfold CardsAt
  exact ⟨a, as, rfl, h, t⟩
theorem CardsAt.len {K : PySem.W.Frag} {H : Hp} : ∀ {cs : List CardD} {as : List Addr}, CardsAt K H cs as → as.length = cs.length
  | [], as, h => by
    unfold CardsAt at h
    rw [h]
    rfl
  | c :: cs, as, h => by
    unfold CardsAt at h
    obtain ⟨a, r, rfl, _, h3⟩ := h
    rw [List.length_cons, List.length_cons, h3.len]
theorem CardsAt.get {K : PySem.W.Frag} {H : Hp} : ∀ {cs : List CardD} {as : List Addr} {i : Nat} {a : Addr}, CardsAt K H cs as → as[i]? = some a → ∃ c, cs[i]? = some c ∧ CardAt K H c a
  | [], as, i, a, h, e => by
    unfold CardsAt at h
    rw [h] at e
    cases e
  | c :: cs, as, i, a, h, e => by
    unfold CardsAt at h
    obtain ⟨b, r, rfl, h2, h3⟩ := h
    cases i with
    | zero =>
      cases e
      exact ⟨c, rfl, h2⟩
    | succ i => exact h3.get e
/-- what the head says of a card's class -/
structure CdC (K : PySem.W.Frag) (C : Addr) (b : Bool) : Prop where
  cls : Cls K C
  ins : InsC K C
  held : NoAttr K C "held"
  weight : NoAttr K C "weight"
  inner : Meth K C "inner" (He.ma K (CardC K) "inner")
  isCard : PySem.W.kitOne K (.ref C) (.ref (CardC K)) = some true
  isAs : PySem.W.kitOne K (.ref C) (.ref (He.ga K "As")) = some b
def cdCls (K : PySem.W.Frag) : CardD → Addr
  | .once _ _ => He.ga K "Once"
  | .every _ _ _ => He.ga K "Every"
  | .join _ => He.ga K "Join"
  | .less _ _ => He.ga K "Less"
  | .swap _ _ _ => He.ga K "Swap"
  | .later _ _ => He.ga K "Later"
  | .noted _ _ => He.ga K "Noted"
  | .as_ _ => He.ga K "As"
theorem card_gen {K : PySem.W.Frag} {mg : Str → Option Value} (T : Env K mg) {H : Hp} {a : Addr} : ∀ {c : CardD}, CardAt K H c a → ∃ dx hd as fs, H a = some (.ins (cdCls K c) dx (cdF hd c.wt fs)) ∧ H hd = some (.lst (as.map V.ref)) ∧ CardsAt K H c.inner as ∧ CdC K (cdCls K c) c.isAs ∧
    (cdF hd c.wt fs).lookup (Str.ofString "inner") = none ∧ (cdF hd c.wt fs).lookup (Str.ofString "notes_at") = none ∧ (cdF hd c.wt fs).lookup (Str.ofString "moments_within") = none ∧ (cdF hd c.wt fs).lookup (Str.ofString "size") = none
  | .once ts ws, h => by
    unfold CardAt at h
    obtain ⟨dx, hd, s, nt, ow, h1, h2, h3, h4, h5⟩ := h
    exact ⟨dx, hd, [], _, h1, h2, by unfold CardsAt; rfl, ⟨T.c_Once, T.i_Once, T.a_Once_held, T.a_Once_weight, T.e_Once_inner ▸ T.m_Once_inner, T.kit_Once_Card, T.kit_Once_As⟩, rfl, rfl, rfl, rfl⟩
  | .every D ts ws, h => by
    unfold CardAt at h
    obtain ⟨dx, hd, r, s, nt, ow, h1, h2, h0, h3, h4, h5⟩ := h
    exact ⟨dx, hd, [], _, h1, h2, by unfold CardsAt; rfl, ⟨T.c_Every, T.i_Every, T.a_Every_held, T.a_Every_weight, T.e_Every_inner ▸ T.m_Every_inner, T.kit_Every_Card, T.kit_Every_As⟩, rfl, rfl, rfl, rfl⟩
  | .join cs, h => by
    unfold CardAt at h
    obtain ⟨dx, hd, as, h1, h2, h3⟩ := h
    exact ⟨dx, hd, as, _, h1, h2, h3, ⟨T.c_Join, T.i_Join, T.a_Join_held, T.a_Join_weight, T.e_Join_inner ▸ T.m_Join_inner, T.kit_Join_Card, T.kit_Join_As⟩, rfl, rfl, rfl, rfl⟩
  | .less c d, h => by
    unfold CardAt at h
    obtain ⟨dx, hd, b, e, h1, h2, h3, h4⟩ := h
    exact ⟨dx, hd, [b, e], _, h1, h2, by unfold CardsAt; exact ⟨b, [e], rfl, h3, by unfold CardsAt; exact ⟨e, [], rfl, h4, by unfold CardsAt; rfl⟩⟩, ⟨T.c_Less, T.i_Less, T.a_Less_held, T.a_Less_weight, T.e_Less_inner ▸ T.m_Less_inner, T.kit_Less_Card, T.kit_Less_As⟩, rfl, rfl, rfl, rfl⟩
  | .swap c D d, h => by
    unfold CardAt at h
    obtain ⟨dx, hd, b, e, r, h1, h2, h3, h4, h5⟩ := h
    exact ⟨dx, hd, [b, e], _, h1, h2, by unfold CardsAt; exact ⟨b, [e], rfl, h3, by unfold CardsAt; exact ⟨e, [], rfl, h4, by unfold CardsAt; rfl⟩⟩, ⟨T.c_Swap, T.i_Swap, T.a_Swap_held, T.a_Swap_weight, T.e_Swap_inner ▸ T.m_Swap_inner, T.kit_Swap_Card, T.kit_Swap_As⟩, rfl, rfl, rfl, rfl⟩
  | .later c m, h => by
    unfold CardAt at h
    obtain ⟨dx, hd, b, h1, h2, h3⟩ := h
    exact ⟨dx, hd, [b], _, h1, h2, by unfold CardsAt; exact ⟨b, [], rfl, h3, by unfold CardsAt; rfl⟩, ⟨T.c_Later, T.i_Later, T.a_Later_held, T.a_Later_weight, T.e_Later_inner ▸ T.m_Later_inner, T.kit_Later_Card, T.kit_Later_As⟩, rfl, rfl, rfl, rfl⟩
  | .noted c z, h => by
    unfold CardAt at h
    obtain ⟨dx, hd, b, h1, h2, h3⟩ := h
    exact ⟨dx, hd, [b], _, h1, h2, by unfold CardsAt; exact ⟨b, [], rfl, h3, by unfold CardsAt; rfl⟩, ⟨T.c_Noted, T.i_Noted, T.a_Noted_held, T.a_Noted_weight, T.e_Noted_inner ▸ T.m_Noted_inner, T.kit_Noted_Card, T.kit_Noted_As⟩, rfl, rfl, rfl, rfl⟩
  | .as_ z, h => by
    unfold CardAt at h
    obtain ⟨dx, hd, h1, h2⟩ := h
    exact ⟨dx, hd, [], _, h1, h2, by unfold CardsAt; rfl, ⟨T.c_As, T.i_As, T.a_As_held, T.a_As_weight, T.e_As_inner ▸ T.m_As_inner, T.kit_As_Card, T.kit_As_As⟩, rfl, rfl, rfl, rfl⟩
/-- the list that a card holds stands at a place that N tells, its spread is x -/
def CdN (N : Addr → Prop) (x : V) (H : Hp) (a : Addr) : Prop := ∀ C dx hd w fs, H a = some (.ins C dx (cdF hd w fs)) → N hd ∧ fs.lookup (Str.ofString "spread") = some x
theorem cdN_of {N : Addr → Prop} {x : V} {H : Hp} {a C dx hd : Addr} {w : Nat} {fs : List (Str × V)} (h : H a = some (.ins C dx (cdF hd w fs))) (n : N hd) (l : fs.lookup (Str.ofString "spread") = some x) : CdN N x H a := fun C' dx' hd' w' fs' e => by
  rw [h] at e
  unfold cdF at e
  simp only [Option.some.injEq, HO.ins.injEq, List.cons.injEq, Prod.mk.injEq, V.ref.injEq, true_and] at e
  obtain ⟨_, _, e1, _, e2⟩ := e
  rw [← e1, ← e2]
  exact ⟨n, l⟩
mutual
/-- what is known of a card's parts -/
def CardD.ok : CardD → Prop
  | .once ts ws => Nms ws ∧ ws.Nodup ∧ ws.length ≤ 16 ∧ (momsL ts).length ≤ 1440
  | .every D ts ws => D.ok ∧ Nms ws ∧ ws.Nodup ∧ ws.length ≤ 16 ∧ (momsL ts).length ≤ 1440
  | .join cs => okCs cs ∧ wtL cs < 60 ∧ cs ≠ []
  | .less c d => c.ok ∧ d.ok
  | .swap c D d => c.ok ∧ D.ok ∧ d.ok
  | .later c m => c.ok ∧ m ≤ 10080
  | .noted c z => c.ok ∧ nmN z.cps.toList = true ∧ c.wt < 60
  | .as_ z => nmN z.cps.toList = true
def okCs : List CardD → Prop
  | [] => True
  | c :: cs => c.ok ∧ okCs cs
end
/-- the notes of a going, or None -/
def NtAt (H : Hp) (x : V) : Option (List Str) → Prop
  | none => x = .non
  | some ws => ∃ p, x = .ref p ∧ H p = some (.tup (ws.map V.str))
theorem NtAt.mono {H H' : Hp} {x : V} {r : Option (List Str)} (h : NtAt H x r) (e : Ex H H') : NtAt H' x r := by
  cases r with
  | none => exact h
  | some ws =>
    obtain ⟨p, h1, h2⟩ := h
    exact ⟨p, h1, e _ _ h2⟩
end
section
/-- a thing of which is told whether it is a card -/
def CdIs (K : PySem.W.Frag) (H : Hp) (x : V) (b : Bool) : Prop := ∃ t, TyX K H x t ∧ PySem.W.kitOne K t (.ref (CardC K)) = some b
theorem CdIs.mono {K : PySem.W.Frag} {H H' : Hp} {x : V} {b : Bool} (h : CdIs K H x b) (e : Ex H H') : CdIs K H' x b := let ⟨t, ty, k⟩ := h; ⟨t, tyX_mono e ty, k⟩
theorem wtL_sum : ∀ cs : List CardD, (cs.map fun c => ((c.wt : Nat) : Int)).sum = ((wtL cs : Nat) : Int)
  | [] => rfl
  | c :: cs => by
    rw [List.map_cons, List.sum_cons, wtL_sum cs]
    show _ = ((c.wt + wtL cs : Nat) : Int)
    omega
/-- what Card's __init__ makes of the instance at a -/
def sp_Card_init (K : PySem.W.Frag) : Sp := fun vs H Q E => ∃ (a C dx p : Addr) (xs : List V) (H0 : Hp) (bf : Nat → Bool), vs = [.ref a, .ref p] ∧ H a = some (.ins C dx []) ∧ H0 a = none ∧ Ex H0 H ∧ Cls K C ∧ NoAttr K C "held" ∧ NoAttr K C "weight" ∧ SqA H p xs ∧ xs.length ≤ 1000 ∧ (∀ i v, xs[i]? = some v → CdIs K H0 v (bf i)) ∧
  ((List.range xs.length).all bf = false → ∀ H', Ex H H' → E (.ref (He.ga K "NoCard")) none H') ∧
  ((List.range xs.length).all bf = true → ∃ (as : List Addr) (cs : List CardD), xs = as.map V.ref ∧ CardsAt K H0 cs as ∧
    (wtL cs < 60 → ∀ hd H', Oth a H H' → H0 hd = none → H' hd = some (.lst xs) → H' a = some (.ins C dx (cdF hd (1 + wtL cs) [])) → Q .non H') ∧
    (60 ≤ wtL cs → ∀ H', Oth a H H' → E (.ref (He.ga K "NoCard")) none H'))
theorem fb_Card_init {P : Program} {w : World} {K : PySem.W.Frag} {mg : Str → Option Value} {base : Heap} (T : Env K mg) : ∃ fd, FunD K "__init__" "Card.__init__" (defArgs s_Card_init) (defBody s_Card_init) (defScope s_Card_init) [] [] (He.ma K (He.ga K "Card") "__init__") fd ∧ Fb P w K mg base 2 (He.ma K (He.ga K "Card") "__init__") fd ["self", "held"] (sp_Card_init K) := by
  obtain ⟨fd, F⟩ := T.f_Card_init
  refine ⟨fd, F, fb_of F sc_Card_init (fun vs H Q E h => ?_) (fun cdv A outer s H vs Q E hr h => ?_)⟩
  · obtain ⟨a, C, dx, p, xs, H0, bf, rfl, _⟩ := h
    rfl
  · obtain ⟨a, C, dx, p, xs, H0, bf, rfl, ha, na0, X0, hC, aH, aW, hp, lx, hv, qb, qg⟩ := h
    refine ⟨_, (pss_cons (ps_expr (c_call (ok_want T) (hr.mono (by decide)) T.g_want T.k_want (takes_of rfl rfl rfl rfl) (pa_cons (pe_callB (cr_all rfl) (by rfl) T.n_all (by decide +kernel) (pa_cons (pe_lc (own := [("one", 2)]) (by rfl) sc_Card_init.nd (pi_seqB (pv 1) K) (blkOk_by (own := [("one", 2)]) (N := ["self", "held", "one"]) (sc := defScope s_Card_init) (by decide +kernel)) (fun _ _ _ _ _ => (pg_name (i := 2) sc_Card_init.nd rfl (Or.inl rfl))) (fun _ _ _ _ _ => pts_nil) (fun _ _ _ _ _ => (pe_callB (call_isiK K) (by rfl) T.n_isinstance (by decide +kernel) (pa_cons (pv 2) (pa_cons (pe_glob (v := .ref _) (by rfl) T.g_Card rfl) pa_nil))))) pa_nil)) (pa_cons pe_str pa_nil))))
      (pss_cons (ps_fld (pv 0) (pe_callTy call_list_of (by rfl) T.n_list (by decide +kernel) (pa_cons (pv 1) pa_nil)) rfl)
      (pss_cons (ps_fld (pv 0) (pe_op op_add pe_int (pe_callB (cr_sum rfl) (by rfl) T.n_sum (by decide +kernel) (pa_cons (pe_lc (own := [("one", 2)]) (by rfl) sc_Card_init.nd (pi_seqB (pv 1) K) (blkOk_by (own := [("one", 2)]) (N := ["self", "held", "one"]) (sc := defScope s_Card_init) (by decide +kernel)) (fun _ _ _ _ _ => (pg_name (i := 2) sc_Card_init.nd rfl (Or.inl rfl))) (fun _ _ _ _ _ => pts_nil) (fun _ _ _ _ _ => (pe_fldK K (pv 2) (by rfl)))) pa_nil))) rfl)
      (pss_one (ps_expr (c_call (ok_want T) (hr.mono (by decide)) T.g_want T.k_want (takes_of rfl rfl rfl rfl) (pa_cons (pe_cmpR op_le (pe_fld (pv 0) (by rfl)) (pe_k T.v_MOST_CARDS) (nomark _)) (pa_cons pe_str pa_nil)))))))), ?_⟩
    have sq : ∀ {H' : Hp}, Ex H H' → SqS K H' p xs := fun {H'} e => hp.elim (fun h => .inl (sq_lst (e _ _ h))) (fun h => .inr (sq_tup (e _ _ h)))
    refine ⟨_, rfl, p, xs, rfl, sq (.refl _), fun J G wk hG A nA => lc_fm wk (fun i => some (V.bl (bf i))) (fun H' => Ex H H') (fun H' l e => ex_mut e nA) (.refl _) (by omega) (fun H' e => hG H' (stays_ex e)) (fun i x H1 H2 acc N hi e hD la y k => ?_) (fun H1 e hD => ?_)⟩
    · obtain ⟨rfl, y⟩ := y
      obtain ⟨t, ty, kt⟩ := (hv i x y).mono (X0.trans e)
      exact ⟨rfl, _, rfl, x, _, t, _, bf i, rfl, .own _, ty, kt, acc, hD, la, k _ e hD⟩
    have eD : (List.range xs.length).filterMap (fun i => some (V.bl (bf i))) = ((List.range xs.length).map bf).map V.bl := by
      rw [List.map_map, ← List.filterMap_eq_map']
      rfl
    rw [eD] at hD
    refine ⟨A, _, rfl, sq_lst hD, ?_⟩
    rw [show ((List.range xs.length).map bf).all id = (List.range xs.length).all bf by rw [List.all_map]; rfl]
    refine ⟨_, _, rfl, fun hb => ?_, fun hb => qb hb H1 e⟩
    obtain ⟨as, cs, exs, hA, q, qe⟩ := qg hb
    refine ⟨_, rfl, p, xs, rfl, sq e, fun hd nd => ?_⟩
    refine ⟨_, rfl, a, C, dx, [], rfl, (ex_new nd _ _ (e _ _ ha)), hC, aH, by decide, ?_⟩
    have fh0 : H0 hd = none := ex_fresh (X0.trans e) nd
    have ha1 := e _ _ ha
    have dh : hd ≠ a := (ne_of_none ha1 nd).symm
    have O1 : Oth a H (upd (upd H1 hd (.lst xs)) a (.ins C dx (putF "held" (.ref hd) []))) := (ex_oth (e.trans (ex_new nd))).upd
    have h2 : upd (upd H1 hd (.lst xs)) a (.ins C dx (putF "held" (.ref hd) [])) a = some (.ins C dx [("held", .ref hd)]) := upd_same
    have hh2 : upd (upd H1 hd (.lst xs)) a (.ins C dx (putF "held" (.ref hd) [])) hd = some (.lst xs) := by rw [upd_ne dh]; exact upd_same
    generalize upd (upd H1 hd (.lst xs)) a (.ins C dx (putF "held" (.ref hd) [])) = H2 at O1 h2 hh2 ⊢
    have X02 : Ex H0 H2 := Oth.ex X0 na0 O1
    have pa : p ≠ a := fun z => by
      rcases hp with h | h
      · rw [z, ha] at h
        cases h
      · rw [z, ha] at h
        cases h
    have sq2 : ∀ {H' : Hp}, Ex H2 H' → SqS K H' p xs := fun {H'} e => hp.elim (fun h => .inl (sq_lst (e _ _ (O1 _ _ pa h)))) (fun h => .inr (sq_tup (e _ _ (O1 _ _ pa h))))
    have hA2 := hA.mono X02
    have lc := hA.len
    have ll : xs.length = cs.length := by rw [exs, List.length_map, lc]
    refine ⟨_, rfl, p, xs, rfl, sq2 (.refl _), fun J G wk hG A2 nA2 => lc_fm wk (fun i => (cs[i]?).bind fun c => some (V.int ((c.wt : Nat) : Int))) (fun H' => Ex H2 H') (fun H' l e => ex_mut e nA2) (.refl _) (by omega) (fun H' e => hG H' (stays_ex e)) (fun i x H1 H2 acc N hi e hD la y k => ?_) (fun H3 e3 hD3 => ?_)⟩
    · obtain ⟨rfl, y⟩ := y
      rw [exs, List.getElem?_map] at y
      obtain ⟨b, eb, rfl⟩ := Option.map_eq_some_iff.mp y
      obtain ⟨c, ec, hc⟩ := hA2.get eb
      obtain ⟨dy, hy, ys, fs, g1, _, _, g4, _⟩ := card_gen T (hc.mono e)
      rw [ec] at k
      exact ⟨rfl, _, rfl, b, _, dy, _, _, rfl, g1, g4.cls, g4.weight, rfl, acc, hD, la, k _ e hD⟩
    rw [ll, range_fm, List.filterMap_eq_map'] at hD3
    have eM : cs.map (fun c => V.int ((c.wt : Nat) : Int)) = (cs.map fun c => ((c.wt : Nat) : Int)).map V.int := by
      rw [List.map_map]
      rfl
    rw [eM] at hD3
    refine ⟨A2, _, rfl, sq_lst hD3, ?_⟩
    rw [wtL_sum]
    refine ⟨_, _, rfl, rfl, ?_⟩
    have ha3 := e3 _ _ h2
    refine ⟨_, rfl, a, C, dx, _, rfl, ha3, hC, aW, by show 1 < 1000; decide, ?_⟩
    have O4 : Oth a H (upd H3 a (.ins C dx (putF "weight" ((fun i j : Int => V.int (i + j)) 1 ((wtL cs : Nat) : Int)) [("held", .ref hd)]))) := (O1.trans (ex_oth e3)).upd
    have h4 : upd H3 a (.ins C dx (putF "weight" ((fun i j : Int => V.int (i + j)) 1 ((wtL cs : Nat) : Int)) [("held", .ref hd)])) a = some (.ins C dx (cdF hd (1 + wtL cs) [])) := upd_same.trans (by
      show some (HO.ins C dx [("held", V.ref hd), ("weight", V.int (1 + ((wtL cs : Nat) : Int)))]) = _
      rw [show (1 : Int) + ((wtL cs : Nat) : Int) = ((1 + wtL cs : Nat) : Int) by omega]
      rfl)
    have hh4 : upd H3 a (.ins C dx (putF "weight" ((fun i j : Int => V.int (i + j)) 1 ((wtL cs : Nat) : Int)) [("held", .ref hd)])) hd = some (.lst xs) := by rw [upd_ne dh]; exact e3 _ _ hh2
    generalize upd H3 a (.ins C dx (putF "weight" ((fun i j : Int => V.int (i + j)) 1 ((wtL cs : Nat) : Int)) [("held", .ref hd)])) = H4 at O4 h4 hh4 ⊢
    refine ⟨_, rfl, a, C, dx, _, _, rfl, h4, hC, aW, rfl, _, _, rfl, rfl, _, _, rfl, fun hb => ?_, fun hb => ?_⟩
    · have h60 := of_decide_eq_true hb
      exact q (by omega) hd H4 O4 fh0 hh4 h4
    · have h60 := of_decide_eq_false hb
      exact qe (by omega) H4 O4
theorem ok_Card_init {P : Program} {w : World} {K : PySem.W.Frag} {mg : Str → Option Value} {base : Heap} (T : Env K mg) : Fc P w K mg base 2 (He.ma K (He.ga K "Card") "__init__") [] (sp_Card_init K ) := by
  obtain ⟨fd, D, F⟩ := fb_Card_init T
  exact F.all (D.bindsN fun _ _ _ _ _ _ us hl => match us, hl with | [_, _], _ => rfl)
end
section
def sp_Card_size (K : PySem.W.Frag) : Sp := fun vs H Q _ => ∃ (a C dx hd : Addr) (fs : List (Str × V)) (w : Nat), vs = [.ref a] ∧ H a = some (.ins C dx (cdF hd w fs)) ∧ Cls K C ∧ NoAttr K C "weight" ∧ Q (.int (w : Nat)) H
theorem fb_Card_size {P : Program} {w : World} {K : PySem.W.Frag} {mg : Str → Option Value} {base : Heap} (T : Env K mg) : ∃ fd, FunD K "size" "Card.size" (defArgs s_Card_size) (defBody s_Card_size) (defScope s_Card_size) [] [] (He.ma K (He.ga K "Card") "size") fd ∧ Fb P w K mg base 1 (He.ma K (He.ga K "Card") "size") fd ["self"] (sp_Card_size K) := by
  obtain ⟨fd, F⟩ := T.f_Card_size
  refine ⟨fd, F, fb_of F sc_Card_size (fun vs H Q E h => ?_) (fun cdv A outer s H vs Q E hr h => ?_)⟩
  · obtain ⟨a, C, dx, hd, fs, w, rfl, _⟩ := h
    rfl
  · obtain ⟨a, C, dx, hd, fs, w, rfl, ha, c, na, q⟩ := h
    refine ⟨_, (pss_one (ps_ret (pe_fld (pv 0) (by rfl)))), ?_⟩
    exact ⟨_, rfl, a, C, dx, _, _, rfl, ha, c, na, rfl, q⟩
theorem ok_Card_size {P : Program} {w : World} {K : PySem.W.Frag} {mg : Str → Option Value} {base : Heap} (T : Env K mg) : Fc P w K mg base 1 (He.ma K (He.ga K "Card") "size") [] (sp_Card_size K ) := by
  obtain ⟨fd, D, F⟩ := fb_Card_size T
  exact F.all (D.bindsN fun _ _ _ _ _ _ us hl => match us, hl with | [_], _ => rfl)
end
section
/-- tuples of moments and True -/
def Prs (G : Hp) (ps : List Addr) (ms : List Nat) : Prop := Paired (fun (p : Addr) (n : Nat) => G p = some (.tup [.int (n : Nat), .bl true])) ps ms
theorem prs_imp {G G' : Hp} (k : ∀ b o, (∀ ys, o ≠ .lst ys) → G b = some o → G' b = some o) {ps : List Addr} {ms : List Nat} (h : Prs G ps ms) : Prs G' ps ms := by
  unfold Prs at h ⊢
  induction h with
  | nil => exact .nil
  | cons h1 _ ih => exact .cons (k _ _ nofun h1) ih
theorem prs_len {G : Hp} {ps : List Addr} {ms : List Nat} (h : Prs G ps ms) : ps.length = ms.length := Paired.length h
theorem prs_own {K : PySem.W.Frag} {G : Hp} {ps : List Addr} {ms : List Nat} (h : Prs G ps ms) : Paired (fun (p : Addr) (kv : Key × V) => SqT K G p [kV kv.1, kv.2]) ps (ownK ms) := by
  unfold Prs at h
  induction h with
  | nil => exact .nil
  | cons h1 _ ih => exact .cons (sq_tup h1) ih
theorem lc_own {J : It} {Gd Qd : Hp → Prop} {G0 : Hp} {D : Addr} {ns : List Nat} {g : TG} {tt : TT} {te : TE} {vs : List Nat} {σ : L2.St} (nD : G0 D = none) (w : L2.Walk J (natV ns).length Gd (L2.YAt (natV ns))) (hG : ∀ H, Ex G0 H → Gd H) (hn : ns.length ≤ 2000)
    (hs : ∀ (n : Nat) (H : Hp) (acc : List V) (N : Hp → Prop), Ex G0 H → H D = some (.lst acc) → acc.length < sizeLine → (∀ x H4, Ex H H4 → H4 D = some (.lst acc) → H4 x = some (.tup [.int (n : Nat), .bl true]) → N (upd H4 D (.lst (acc ++ [.ref x])))) → L3.Turn g tt te vs σ D (.int (n : Nat)) H N)
    (hd : ∀ ps H, Ex G0 H → H D = some (.lst (ps.map V.ref)) → Prs H ps ns → Qd H) :
    ∃ W : Nat → Nat → Hp → Prop, (∃ m, W 0 m (upd G0 D (.lst []))) ∧ ∀ i m H, W i m H →
      (J.stop i H ∧ Qd H) ∨ (J.go i H ∧ ∃ Nx : Hp → Prop, (∀ H', Nx H' → ∃ m', m' < m ∧ W (i + 1) m' H') ∧ ∀ x H', J.yld i H x H' → L3.Turn g tt te vs σ D x H' Nx) := by
  refine lc_any w (fun i acc G => Ex G0 G ∧ (G D = none ∨ ∃ xs, G D = some (.lst xs)) ∧ ∃ ps, acc = ps.map V.ref ∧ Prs G ps (ns.take i)) (fun i acc G z e => ?_) ⟨.refl _, .inl nD, [], rfl, .nil⟩ (by rw [natV_len]; omega) (fun i acc G e => ?_) (fun i acc G e => hG _ e.1) (fun i x G G' acc N hi e hA la y k _ => ?_) (fun acc G e hA => ?_)
  · obtain ⟨e1, e2, ps, e3, e4⟩ := e
    refine ⟨ex_mut e1 nD, .inr ⟨z, upd_same⟩, ps, e3, prs_imp (fun b o ho hb => ?_) e4⟩
    rw [upd_ne (fun zb => by
      rw [zb] at hb
      rcases e2 with h2 | ⟨xs, h2⟩
      · rw [h2] at hb
        cases hb
      · rw [h2] at hb
        cases hb
        exact ho _ rfl)]
    exact hb
  · obtain ⟨_, _, ps, rfl, h1⟩ := e
    rw [List.length_map, prs_len h1, List.length_take]
    omega
  · obtain ⟨rfl, y⟩ := y
    obtain ⟨XG, _, ps, rfl, h1⟩ := e
    rw [natV_len] at hi
    have gi : ns[i]? = some ns[i] := List.getElem?_eq_getElem hi
    obtain rfl : x = .int ((ns[i] : Nat) : Int) := by
      unfold natV at y
      rw [List.getElem?_map, gi] at y
      exact (Option.some.inj y).symm
    refine hs _ _ _ _ XG hA la fun x H4 X4 hD4 hx => k _ H4 hD4 ⟨XG.trans X4, .inr ⟨_, hD4⟩, ps ++ [x], by rw [List.map_append]; rfl, ?_⟩
    rw [take_snoc gi]
    exact Paired.snoc (prs_imp (fun b o _ hb => X4 _ _ hb) h1) hx
  · obtain ⟨XG, _, ps, rfl, h1⟩ := e
    rw [natV_len, List.take_length] at h1
    exact hd ps G XG hA h1
end
section
/-- a Spread, or not -/
def SpIs (K : PySem.W.Frag) (H : Hp) (x : V) : Option (List Tr) → Prop
  | some ts => ∃ s, x = .ref s ∧ SprAt K H s ts ∧ (momsL ts).Nodup ∧ (momsL ts).length ≤ 1440
  | none => ∃ t, TyX K H x t ∧ PySem.W.kitOne K t (.ref (SpreadC K)) = some false
theorem SpIs.mono {K : PySem.W.Frag} {H H' : Hp} {x : V} {r : Option (List Tr)} (h : SpIs K H x r) (e : Ex H H') : SpIs K H' x r := by
  cases r with
  | none =>
    obtain ⟨t, ty, k⟩ := h
    exact ⟨t, tyX_mono e ty, k⟩
  | some ts =>
    obtain ⟨s, h1, h2, h3⟩ := h
    exact ⟨s, h1, h2.mono e, h3⟩
def sp_Once_init (K : PySem.W.Frag) : Sp := fun vs H Q E => ∃ (a dx : Addr) (x y : V) (H0 : Hp) (rs : Option (List Tr)) (rn : Option (List Str)), vs = [.ref a, x, y] ∧ H a = some (.ins (He.ga K "Once") dx []) ∧ H0 a = none ∧ Ex H0 H ∧ SpIs K H0 x rs ∧ (∀ ts, rs = some ts → NtX K H0 y rn) ∧
  (∀ ts ws, rs = some ts → rn = some ws → ∀ H', Oth a H H' → CardAt K H' (.once ts ws) a → CdN (fun b => H0 b = none) x H' a → Q .non H') ∧ (rs = none → ∀ H', Ex H H' → E (.ref (He.ga K "NoCard")) none H') ∧ (∀ ts, rs = some ts → rn = none → ∀ H', Oth a H H' → E (.ref (He.ga K "NoCard")) none H')
theorem fb_Once_init {P : Program} {w : World} {K : PySem.W.Frag} {mg : Str → Option Value} {base : Heap} (T : Env K mg) : ∃ fd, FunD K "__init__" "Once.__init__" (defArgs s_Once_init) (defBody s_Once_init) (defScope s_Once_init) [.non] [] (He.ma K (He.ga K "Once") "__init__") fd ∧ Fb P w K mg base 3 (He.ma K (He.ga K "Once") "__init__") fd ["self", "spread", "notes"] (sp_Once_init K) := by
  obtain ⟨fd, F⟩ := T.f_Once_init
  refine ⟨fd, F, fb_of F sc_Once_init (fun vs H Q E h => ?_) (fun cdv A outer s H vs Q E hr h => ?_)⟩
  · obtain ⟨a, dx, x, y, H0, rs, rn, rfl, _⟩ := h
    rfl
  · obtain ⟨a, dx, x, y, H0, rs, rn, rfl, ha, na0, X0, hS, hN, q, qe, qn⟩ := h
    refine ⟨_, (pss_cons (ps_expr (c_call (ok_want T) (hr.mono (by decide)) T.g_want T.k_want (takes_of rfl rfl rfl rfl) (pa_cons (pe_callB call_isi (by rfl) T.n_isinstance (by decide +kernel) (pa_cons (pv 1) (pa_cons (pe_glob (v := .ref _) (by rfl) T.g_Spread rfl) pa_nil))) (pa_cons pe_str pa_nil))))
      (pss_cons (ps_expr (c_clsm T.cm_Card (ok_Card_init T) (hr.mono (by decide)) T.g_Card (takes_of rfl rfl rfl rfl) (pa_cons (pv 0) (pa_cons (pe_lst pa_nil) pa_nil))))
      (pss_cons (ps_fld (pv 0) (pv 1) rfl)
      (pss_cons (ps_fld (pv 0) (c_call (ok_notes_of T) (hr.mono (by decide)) T.g_notes_of T.k_notes_of (takes_of rfl rfl rfl rfl) (pa_cons (pv 2) pa_nil)) rfl)
      (pss_one (ps_fld (pv 0) (pe_callTy (call_dictP rfl) (by rfl) T.n_dict (by decide +kernel) (pa_cons (pe_lc (own := [("moment", 3)]) (by rfl) sc_Once_init.nd (pi_list (c_meth0 (pv 1) T.c_Spread T.m_Spread_moments (ok_Spread_moments T) (hr.mono (by decide)) (takes_of rfl rfl rfl rfl))) (blkOk_by (own := [("moment", 3)]) (N := ["self", "spread", "notes", "moment"]) (sc := defScope s_Once_init) (by decide +kernel)) (fun _ _ _ _ _ => (pg_name (i := 3) sc_Once_init.nd rfl (Or.inl rfl))) (fun _ _ _ _ _ => pts_nil) (fun _ _ _ _ _ => (pe_tup (pa_cons (pv 3) (pa_cons pe_bl pa_nil))))) pa_nil)) rfl)))))), ?_⟩
    have hS1 := hS.mono X0
    obtain ⟨t, b, ty, kt, hb⟩ : ∃ t b, TyX K H x t ∧ PySem.W.kitOne K t (.ref (SpreadC K)) = some b ∧ (b = true → rs.isSome = true) ∧ (b = false → rs = none) := by
      cases rs with
      | none =>
        obtain ⟨t, ty, k⟩ := hS1
        exact ⟨t, false, ty, k, nofun, fun _ => rfl⟩
      | some ts =>
        obtain ⟨s, rfl, ⟨dx2, kp2, hd2, as2, h2, _⟩, _⟩ := hS1
        exact ⟨_, true, ty_ins T.i_Spread T.c_Spread h2, T.kit_Spread_Spread, fun _ => rfl, nofun⟩
    refine ⟨_, rfl, x, _, t, _, b, rfl, .own _, ty, kt, b, _, rfl, fun eb => ?_, fun eb => qe (hb.2 eb) H (.refl _)⟩
    obtain ⟨ts, rfl⟩ := Option.isSome_iff_exists.mp (hb.1 eb)
    obtain ⟨s, rfl, hs, hnd, hms⟩ := hS1
    clear hb kt ty
    refine ⟨_, rfl, by show 0 ≤ sizeLine; decide, fun p np => ?_⟩
    have Xp := ex_new (o := HO.lst []) np
    have hp : upd H p (.lst []) p = some (.lst []) := upd_same
    have ha1 := Xp _ _ ha
    generalize upd H p (.lst []) = H1 at Xp hp ha1 ⊢
    refine ⟨a, _, dx, p, [], H0, fun _ => true, rfl, ha1, na0, X0.trans Xp, T.c_Once, T.a_Once_held, T.a_Once_weight, .inl hp, by decide, nofun, nofun, fun _ => ⟨[], [], rfl, by unfold CardsAt; rfl, fun _ hd H2 O2 nh hh h2 => ?_, nofun⟩⟩
    refine ⟨_, rfl, _, rfl, a, _, dx, _, rfl, h2, T.c_Once, T.a_Once_spread, by show 2 < 1000; decide, ?_⟩
    have e3 : putF "spread" (.ref s) (cdF hd (1 + wtL []) []) = cdF hd 1 [("spread", .ref s)] := rfl
    rw [e3]
    have O3 : Oth a H (upd H2 a (.ins (He.ga K "Once") dx (cdF hd 1 [("spread", .ref s)]))) := ((ex_oth Xp).trans O2).upd
    have h3 : upd H2 a (.ins (He.ga K "Once") dx (cdF hd 1 [("spread", .ref s)])) a = some (.ins (He.ga K "Once") dx (cdF hd 1 [("spread", .ref s)])) := upd_same
    have dh : hd ≠ a := fun z => by rw [z, h2] at hh; cases hh
    have hh3 : upd H2 a (.ins (He.ga K "Once") dx (cdF hd 1 [("spread", .ref s)])) hd = some (.lst []) := by rw [upd_ne dh]; exact hh
    generalize upd H2 a (.ins (He.ga K "Once") dx (cdF hd 1 [("spread", .ref s)])) = H3 at O3 h3 hh3 ⊢
    have X03 : Ex H0 H3 := Oth.ex X0 na0 O3
    refine ⟨_, rfl, y, rn, rfl, (hN ts rfl).mono X03, fun ws e nt H4 X4 nnt hnt => ?_, fun e H4 X4 => qn ts rfl e H4 (O3.trans (ex_oth X4))⟩
    subst e
    have h4 := X4 _ _ h3
    have ta : nt ≠ a := fun z => by rw [z, h4] at hnt; cases hnt
    refine ⟨_, rfl, a, _, dx, _, rfl, h4, T.c_Once, T.a_Once_notes, by show 3 < 1000; decide, ?_⟩
    have e5 : putF "notes" (.ref nt) (cdF hd 1 [("spread", .ref s)]) = cdF hd 1 [("spread", .ref s), ("notes", .ref nt)] := rfl
    rw [e5]
    have O5 : Oth a H (upd H4 a (.ins (He.ga K "Once") dx (cdF hd 1 [("spread", .ref s), ("notes", .ref nt)]))) := (O3.trans (ex_oth X4)).upd
    have h5 : upd H4 a (.ins (He.ga K "Once") dx (cdF hd 1 [("spread", .ref s), ("notes", .ref nt)])) a = some (.ins (He.ga K "Once") dx (cdF hd 1 [("spread", .ref s), ("notes", .ref nt)])) := upd_same
    have hh5 : upd H4 a (.ins (He.ga K "Once") dx (cdF hd 1 [("spread", .ref s), ("notes", .ref nt)])) hd = some (.lst []) := by rw [upd_ne dh]; exact X4 _ _ hh3
    have hn5 : upd H4 a (.ins (He.ga K "Once") dx (cdF hd 1 [("spread", .ref s), ("notes", .ref nt)])) nt = some (.tup (ws.map V.str)) := by rw [upd_ne ta]; exact hnt
    generalize upd H4 a (.ins (He.ga K "Once") dx (cdF hd 1 [("spread", .ref s), ("notes", .ref nt)])) = H5 at O5 h5 hh5 hn5 ⊢
    have X05 : Ex H0 H5 := Oth.ex X0 na0 O5
    obtain ⟨s', es, hs0, _, _⟩ := hS
    cases es
    have hs5 := hs0.mono X05
    obtain ⟨dx2, kp2, hd2, as2, g2, _⟩ := id hs5
    refine ⟨_, rfl, s, dx2, _, rfl, g2, rfl, s, ts, rfl, hs5, fun ml nml => ?_⟩
    have Xm := ex_new (o := HO.lst (natV (momsL ts))) nml
    have hm : upd H5 ml (HO.lst (natV (momsL ts))) ml = some (HO.lst (natV (momsL ts))) := upd_same
    generalize upd H5 ml (HO.lst (natV (momsL ts))) = H6 at Xm hm ⊢
    refine ⟨ml, rfl, ⟨_, sq_lst hm⟩, fun D nD => lc_own nD L2.walk_list (fun G e => sq_lst (e _ _ hm)) (by omega) (fun n G acc N XG hD la k => ?_) (fun ps H7 X7 hD7 hP => ?_)⟩
    · refine ⟨rfl, _, rfl, by show 2 ≤ sizeLine; decide, fun x nx => ?_⟩
      have Xx := ex_new (o := HO.tup [V.int (n : Nat), V.bl true]) nx
      exact ⟨acc, Xx _ _ hD, la, k x _ Xx (Xx _ _ hD) upd_same⟩
    refine ⟨D, ps, ownK (momsL ts), rfl, sq_lst hD7, prs_own hP, fun ow now => ?_⟩
    rw [show mergeK [] (ownK (momsL ts)) = ownK (momsL ts) from ownK_merge (momsL ts) [] hnd]
    have Xo := ex_new (o := HO.dK (ownK (momsL ts))) now
    have ho : upd H7 ow (HO.dK (ownK (momsL ts))) ow = some (HO.dK (ownK (momsL ts))) := upd_same
    generalize upd H7 ow (HO.dK (ownK (momsL ts))) = H8 at Xo ho ⊢
    have X58 := (Xm.trans X7).trans Xo
    have h8 := X58 _ _ h5
    have oa : ow ≠ a := fun z => by rw [z, h8] at ho; cases ho
    refine ⟨_, rfl, a, _, dx, _, rfl, h8, T.c_Once, T.a_Once_own, by show 4 < 1000; decide, ?_⟩
    have O9 : Oth a H (upd H8 a (.ins (He.ga K "Once") dx (putF "own" (.ref ow) (cdF hd 1 [("spread", .ref s), ("notes", .ref nt)])))) := (O5.trans (ex_oth X58)).upd
    refine q ts ws rfl rfl _ O9 ?_ (cdN_of (w := 1) upd_same nh rfl)
    have X09 := Oth.ex X0 na0 O9
    unfold CardAt
    exact ⟨dx, hd, s, nt, ow, upd_same, by rw [upd_ne dh]; exact X58 _ _ hh5, hs0.mono X09, by rw [upd_ne ta]; exact X58 _ _ hn5, by rw [upd_ne oa]; exact ho⟩
theorem once_new {K : PySem.W.Frag} {H : Hp} {x dx s : Addr} {y : V} {ts : List Tr} {ws : List Str} {Q : VK} {E : XK} (nx : H x = none) (nd : H dx = none) (ne : dx ≠ x) (hs : SprAt K H s ts) (hm : (momsL ts).Pairwise (· < ·)) (hl : (momsL ts).length ≤ 1440) (hN : NtX K H y (some ws)) (q : ∀ H', Ex H H' → CardAt K H' (.once ts ws) x → CdN (fun b => H b = none) (.ref s) H' x → Q .non H') :
    sp_Once_init K [.ref x, .ref s, y] (upd (upd H dx (.own x)) x (.ins (He.ga K "Once") dx [])) Q E := by
  have X1 := ex_made (o1 := .own x) (o2 := .ins (He.ga K "Once") dx []) nx nd ne
  exact ⟨x, dx, _, y, H, some ts, some ws, rfl, upd_same, nx, X1, ⟨s, rfl, hs, hm.imp fun {a b} z => Nat.ne_of_lt z, hl⟩, fun _ _ => hN, fun ts' ws' e1 e2 H' O hA hN => by cases e1; cases e2; exact q H' (Oth.ex X1 nx O) hA hN, nofun, fun _ _ => nofun⟩
theorem ok_Once_init {P : Program} {w : World} {K : PySem.W.Frag} {mg : Str → Option Value} {base : Heap} (T : Env K mg) : Fc P w K mg base 3 (He.ma K (He.ga K "Once") "__init__") [] (fun vs H Q E => vs.length = 3 + ([] : List Str).length ∧ sp_Once_init K  (pick [.inl 0, .inl 1, .inl 2] vs [.non]) H Q E) := by
  obtain ⟨fd, D, F⟩ := fb_Once_init T
  exact Fb.shape D F 3 [] (fun us its => pick [.inl 0, .inl 1, .inl 2] us its) (by decide) (fun r1 r2 => pick_vals _ r1 r2) (fun T kV doc pm an cdv ct us ws its h1 h2 h3 => match us, ws, its, h1, h2, h3 with | [_, _, _], [], [_], _, _, _ => ⟨_, rfl, rfl⟩)
end
section
/-- Days, or not -/
def DyIs (K : PySem.W.Frag) (H : Hp) (x : V) : Option DaysD → Prop
  | some D => ∃ r, x = .ref r ∧ DaysAt K H r D ∧ D.ok
  | none => ∃ t, TyX K H x t ∧ PySem.W.kitOne K t (.ref (DaysC K)) = some false
theorem DyIs.mono {K : PySem.W.Frag} {H H' : Hp} {x : V} {r : Option DaysD} (h : DyIs K H x r) (e : Ex H H') : DyIs K H' x r := by
  cases r with
  | none =>
    obtain ⟨t, ty, k⟩ := h
    exact ⟨t, tyX_mono e ty, k⟩
  | some D =>
    obtain ⟨s, h1, h2, h3⟩ := h
    exact ⟨s, h1, h2.mono e, h3⟩
def sp_Every_init (K : PySem.W.Frag) : Sp := fun vs H Q E => ∃ (a dx : Addr) (x1 x2 y : V) (H0 : Hp) (rd : Option DaysD) (rs : Option (List Tr)) (rn : Option (List Str)), vs = [.ref a, x1, x2, y] ∧ H a = some (.ins (He.ga K "Every") dx []) ∧ H0 a = none ∧ Ex H0 H ∧ DyIs K H0 x1 rd ∧ (rd.isSome = true → SpIs K H0 x2 rs) ∧ (rd.isSome = true → rs.isSome = true → NtX K H0 y rn) ∧
  (∀ D ts ws, rd = some D → rs = some ts → rn = some ws → (∀ n ∈ momsL ts, n < 1440) → ∀ H', Oth a H H' → CardAt K H' (.every D ts ws) a → CdN (fun b => H0 b = none) x2 H' a → Q .non H') ∧
  ((rd = none ∨ rs = none ∨ rn = none ∨ ∀ ts, rs = some ts → ∃ n ∈ momsL ts, ¬ n < 1440) → ∀ H', Oth a H H' → E (.ref (He.ga K "NoCard")) none H')
theorem fb_Every_init {P : Program} {w : World} {K : PySem.W.Frag} {mg : Str → Option Value} {base : Heap} (T : Env K mg) : ∃ fd, FunD K "__init__" "Every.__init__" (defArgs s_Every_init) (defBody s_Every_init) (defScope s_Every_init) [.non] [] (He.ma K (He.ga K "Every") "__init__") fd ∧ Fb P w K mg base 3 (He.ma K (He.ga K "Every") "__init__") fd ["self", "days", "spread", "notes"] (sp_Every_init K) := by
  obtain ⟨fd, F⟩ := T.f_Every_init
  refine ⟨fd, F, fb_of F sc_Every_init (fun vs H Q E h => ?_) (fun cdv A outer s H vs Q E hr h => ?_)⟩
  · obtain ⟨a, dx, x1, x2, y, H0, rd, rs, rn, rfl, _⟩ := h
    rfl
  · obtain ⟨a, dx, x1, x2, y, H0, rd, rs, rn, rfl, ha, na0, X0, hD, hS, hN, q, qe⟩ := h
    refine ⟨_, (pss_cons (ps_expr (c_call (ok_want T) (hr.mono (by decide)) T.g_want T.k_want (takes_of rfl rfl rfl rfl) (pa_cons (pe_and (pe_callB call_isi (by rfl) T.n_isinstance (by decide +kernel) (pa_cons (pv 1) (pa_cons (pe_glob (v := .ref _) (by rfl) T.g_Days rfl) pa_nil))) (pe_one (pe_callB call_isi (by rfl) T.n_isinstance (by decide +kernel) (pa_cons (pv 2) (pa_cons (pe_glob (v := .ref _) (by rfl) T.g_Spread rfl) pa_nil))))) (pa_cons pe_str pa_nil))))
      (pss_cons (ps_expr (c_clsm T.cm_Card (ok_Card_init T) (hr.mono (by decide)) T.g_Card (takes_of rfl rfl rfl rfl) (pa_cons (pv 0) (pa_cons (pe_lst pa_nil) pa_nil))))
      (pss_cons (ps_fld (pv 0) (pv 1) rfl)
      (pss_cons (ps_fld (pv 0) (pv 2) rfl)
      (pss_cons (ps_fld (pv 0) (c_call (ok_notes_of T) (hr.mono (by decide)) T.g_notes_of T.k_notes_of (takes_of rfl rfl rfl rfl) (pa_cons (pv 3) pa_nil)) rfl)
      (pss_cons (ps_fld (pv 0) (pe_callTy (call_dictP rfl) (by rfl) T.n_dict (by decide +kernel) (pa_cons (pe_lc (own := [("moment", 4)]) (by rfl) sc_Every_init.nd (pi_list (c_meth0 (pv 2) T.c_Spread T.m_Spread_moments (ok_Spread_moments T) (hr.mono (by decide)) (takes_of rfl rfl rfl rfl))) (blkOk_by (own := [("moment", 4)]) (N := ["self", "days", "spread", "notes", "moment", "minute"]) (sc := defScope s_Every_init) (by decide +kernel)) (fun _ _ _ _ _ => (pg_name (i := 4) sc_Every_init.nd rfl (Or.inl rfl))) (fun _ _ _ _ _ => pts_nil) (fun _ _ _ _ _ => (pe_tup (pa_cons (pv 4) (pa_cons pe_bl pa_nil))))) pa_nil)) rfl)
      (pss_one (ps_expr (c_call (ok_want T) (hr.mono (by decide)) T.g_want T.k_want (takes_of rfl rfl rfl rfl) (pa_cons (pe_callB (cr_all rfl) (by rfl) T.n_all (by decide +kernel) (pa_cons (pe_lc (own := [("minute", 5)]) (by rfl) sc_Every_init.nd (pi_list (pe_callTy (call_listD rfl) (by rfl) T.n_list (by decide +kernel) (pa_cons (pe_fld (pv 0) (by rfl)) pa_nil))) (blkOk_by (own := [("minute", 5)]) (N := ["self", "days", "spread", "notes", "moment", "minute"]) (sc := defScope s_Every_init) (by decide +kernel)) (fun _ _ _ _ _ => (pg_name (i := 5) sc_Every_init.nd rfl (Or.inl rfl))) (fun _ _ _ _ _ => pts_nil) (fun _ _ _ _ _ => (pe_cmpR op_lt (pv 5) (pe_k T.v_DAY) (nomark _)))) pa_nil)) (pa_cons pe_str pa_nil))))))))))), ?_⟩
    obtain ⟨t1, b1, ty1, kt1, hb1, hf1⟩ : ∃ t b, TyX K H x1 t ∧ PySem.W.kitOne K t (.ref (DaysC K)) = some b ∧ (b = true → rd.isSome = true) ∧ (b = false → rd = none) := by
      have hD1 := hD.mono X0
      cases rd with
      | none =>
        obtain ⟨t, ty, k⟩ := hD1
        exact ⟨t, false, ty, k, nofun, fun _ => rfl⟩
      | some D =>
        obtain ⟨s, rfl, ⟨dx2, r2, po2, pa2, h2, _⟩, _⟩ := hD1
        exact ⟨_, true, ty_ins T.i_Days T.c_Days h2, T.kit_Days_Days, fun _ => rfl, nofun⟩
    refine ⟨_, rfl, x1, _, t1, _, b1, rfl, .own _, ty1, kt1, ?_⟩
    refine ⟨b1, rfl, ?_⟩
    cases b1 with
    | false => exact iteF ⟨_, _, rfl, nofun, fun _ => qe (.inl (hf1 rfl)) H (Oth.refl _ _)⟩
    | true =>
    refine iteT ?_
    have sD := hb1 rfl
    clear hb1 hf1 kt1 ty1
    replace hS := hS sD
    have hS1 := hS.mono X0
    obtain ⟨t2, b2, ty2, kt2, hb2, hf2⟩ : ∃ t b, TyX K H x2 t ∧ PySem.W.kitOne K t (.ref (SpreadC K)) = some b ∧ (b = true → rs.isSome = true) ∧ (b = false → rs = none) := by
      cases rs with
      | none =>
        obtain ⟨t, ty, k⟩ := hS1
        exact ⟨t, false, ty, k, nofun, fun _ => rfl⟩
      | some ts =>
        obtain ⟨s, rfl, ⟨dx2, kp2, hd2, as2, h2, _⟩, _⟩ := hS1
        exact ⟨_, true, ty_ins T.i_Spread T.c_Spread h2, T.kit_Spread_Spread, fun _ => rfl, nofun⟩
    refine ⟨_, rfl, x2, _, t2, _, b2, rfl, .own _, ty2, kt2, b2, _, rfl, fun eb => ?_, fun eb => qe (.inr (.inl (hf2 eb))) H (Oth.refl _ _)⟩
    have sS := hb2 eb
    replace hN := hN sD sS
    clear hb2 hf2 kt2 ty2 hS1
    obtain ⟨D, rfl⟩ := Option.isSome_iff_exists.mp sD
    obtain ⟨ts, rfl⟩ := Option.isSome_iff_exists.mp sS
    obtain ⟨r, rfl, hr0, hDk⟩ := hD
    obtain ⟨s, rfl, hs0, hnd, hms⟩ := hS
    refine ⟨_, rfl, by show 0 ≤ sizeLine; decide, fun p np => ?_⟩
    have Xp := ex_new (o := HO.lst []) np
    have hp : upd H p (.lst []) p = some (.lst []) := upd_same
    have ha1 := Xp _ _ ha
    generalize upd H p (.lst []) = H1 at Xp hp ha1 ⊢
    refine ⟨a, _, dx, p, [], H0, fun _ => true, rfl, ha1, na0, X0.trans Xp, T.c_Every, T.a_Every_held, T.a_Every_weight, .inl hp, by decide, nofun, nofun, fun _ => ⟨[], [], rfl, by unfold CardsAt; rfl, fun _ hd H2 O2 nh hh h2 => ?_, nofun⟩⟩
    have dh : hd ≠ a := fun z => by rw [z, h2] at hh; cases hh
    refine ⟨_, rfl, _, rfl, a, _, dx, _, rfl, h2, T.c_Every, T.a_Every_days, by show 2 < 1000; decide, ?_⟩
    rw [show putF "days" (.ref r) (cdF hd (1 + wtL []) []) = cdF hd 1 [("days", .ref r)] from rfl]
    have O3 : Oth a H (upd H2 a (.ins (He.ga K "Every") dx (cdF hd 1 [("days", .ref r)]))) := ((ex_oth Xp).trans O2).upd
    have h3 : upd H2 a (.ins (He.ga K "Every") dx (cdF hd 1 [("days", .ref r)])) a = some (.ins (He.ga K "Every") dx (cdF hd 1 [("days", .ref r)])) := upd_same
    have hh3 : upd H2 a (.ins (He.ga K "Every") dx (cdF hd 1 [("days", .ref r)])) hd = some (.lst []) := by rw [upd_ne dh]; exact hh
    generalize upd H2 a (.ins (He.ga K "Every") dx (cdF hd 1 [("days", .ref r)])) = H3 at O3 h3 hh3 ⊢
    refine ⟨_, rfl, _, rfl, a, _, dx, _, rfl, h3, T.c_Every, T.a_Every_spread, by show 3 < 1000; decide, ?_⟩
    rw [show putF "spread" (.ref s) (cdF hd 1 [("days", .ref r)]) = cdF hd 1 [("days", .ref r), ("spread", .ref s)] from rfl]
    have O4 : Oth a H (upd H3 a (.ins (He.ga K "Every") dx (cdF hd 1 [("days", .ref r), ("spread", .ref s)]))) := O3.upd
    have h4 : upd H3 a (.ins (He.ga K "Every") dx (cdF hd 1 [("days", .ref r), ("spread", .ref s)])) a = some (.ins (He.ga K "Every") dx (cdF hd 1 [("days", .ref r), ("spread", .ref s)])) := upd_same
    have hh4 : upd H3 a (.ins (He.ga K "Every") dx (cdF hd 1 [("days", .ref r), ("spread", .ref s)])) hd = some (.lst []) := by rw [upd_ne dh]; exact hh3
    generalize upd H3 a (.ins (He.ga K "Every") dx (cdF hd 1 [("days", .ref r), ("spread", .ref s)])) = H4 at O4 h4 hh4 ⊢
    have X04 : Ex H0 H4 := Oth.ex X0 na0 O4
    refine ⟨_, rfl, y, rn, rfl, hN.mono X04, fun ws e nt H5 X5 nnt hnt => ?_, fun e H5 X5 => qe (.inr (.inr (.inl e))) H5 (O4.trans (ex_oth X5))⟩
    subst e
    have h5 := X5 _ _ h4
    have ta : nt ≠ a := fun z => by rw [z, h5] at hnt; cases hnt
    refine ⟨_, rfl, a, _, dx, _, rfl, h5, T.c_Every, T.a_Every_notes, by show 4 < 1000; decide, ?_⟩
    rw [show putF "notes" (.ref nt) (cdF hd 1 [("days", .ref r), ("spread", .ref s)]) = cdF hd 1 [("days", .ref r), ("spread", .ref s), ("notes", .ref nt)] from rfl]
    have O6 : Oth a H (upd H5 a (.ins (He.ga K "Every") dx (cdF hd 1 [("days", .ref r), ("spread", .ref s), ("notes", .ref nt)]))) := (O4.trans (ex_oth X5)).upd
    have h6 : upd H5 a (.ins (He.ga K "Every") dx (cdF hd 1 [("days", .ref r), ("spread", .ref s), ("notes", .ref nt)])) a = some (.ins (He.ga K "Every") dx (cdF hd 1 [("days", .ref r), ("spread", .ref s), ("notes", .ref nt)])) := upd_same
    have hh6 : upd H5 a (.ins (He.ga K "Every") dx (cdF hd 1 [("days", .ref r), ("spread", .ref s), ("notes", .ref nt)])) hd = some (.lst []) := by rw [upd_ne dh]; exact X5 _ _ hh4
    have hn6 : upd H5 a (.ins (He.ga K "Every") dx (cdF hd 1 [("days", .ref r), ("spread", .ref s), ("notes", .ref nt)])) nt = some (.tup (ws.map V.str)) := by rw [upd_ne ta]; exact hnt
    generalize upd H5 a (.ins (He.ga K "Every") dx (cdF hd 1 [("days", .ref r), ("spread", .ref s), ("notes", .ref nt)])) = H6 at O6 h6 hh6 hn6 ⊢
    have X06 : Ex H0 H6 := Oth.ex X0 na0 O6
    have hs6 := hs0.mono X06
    obtain ⟨dx2, kp2, hd2, as2, g2, _⟩ := id hs6
    refine ⟨_, rfl, s, dx2, _, rfl, g2, rfl, s, ts, rfl, hs6, fun ml nml => ?_⟩
    have Xm := ex_new (o := HO.lst (natV (momsL ts))) nml
    have hm : upd H6 ml (HO.lst (natV (momsL ts))) ml = some (HO.lst (natV (momsL ts))) := upd_same
    generalize upd H6 ml (HO.lst (natV (momsL ts))) = H7 at Xm hm ⊢
    refine ⟨ml, rfl, ⟨_, sq_lst hm⟩, fun D1 nD => lc_own nD L2.walk_list (fun G e => sq_lst (e _ _ hm)) (by omega) (fun n G acc N XG hD la k => ?_) (fun ps H8 X8 hD8 hP => ?_)⟩
    · refine ⟨rfl, _, rfl, by show 2 ≤ sizeLine; decide, fun x nx => ?_⟩
      have Xx := ex_new (o := HO.tup [V.int (n : Nat), V.bl true]) nx
      exact ⟨acc, Xx _ _ hD, la, k x _ Xx (Xx _ _ hD) upd_same⟩
    refine ⟨D1, ps, ownK (momsL ts), rfl, sq_lst hD8, prs_own hP, fun ow now => ?_⟩
    rw [show mergeK [] (ownK (momsL ts)) = ownK (momsL ts) from ownK_merge (momsL ts) [] hnd]
    have Xo := ex_new (o := HO.dK (ownK (momsL ts))) now
    have ho : upd H8 ow (HO.dK (ownK (momsL ts))) ow = some (HO.dK (ownK (momsL ts))) := upd_same
    generalize upd H8 ow (HO.dK (ownK (momsL ts))) = H9 at Xo ho ⊢
    have X69 := (Xm.trans X8).trans Xo
    have h9 := X69 _ _ h6
    have oa : ow ≠ a := fun z => by rw [z, h9] at ho; cases ho
    refine ⟨_, rfl, a, _, dx, _, rfl, h9, T.c_Every, T.a_Every_own, by show 5 < 1000; decide, ?_⟩
    rw [show putF "own" (.ref ow) (cdF hd 1 [("days", .ref r), ("spread", .ref s), ("notes", .ref nt)]) = cdF hd 1 [("days", .ref r), ("spread", .ref s), ("notes", .ref nt), ("own", .ref ow)] from rfl]
    have O10 : Oth a H (upd H9 a (.ins (He.ga K "Every") dx (cdF hd 1 [("days", .ref r), ("spread", .ref s), ("notes", .ref nt), ("own", .ref ow)]))) := (O6.trans (ex_oth X69)).upd
    have hA : CardAt K (upd H9 a (.ins (He.ga K "Every") dx (cdF hd 1 [("days", .ref r), ("spread", .ref s), ("notes", .ref nt), ("own", .ref ow)]))) (.every D ts ws) a := by
      have X09 := Oth.ex X0 na0 O10
      unfold CardAt
      exact ⟨dx, hd, r, s, nt, ow, upd_same, by rw [upd_ne dh]; exact X69 _ _ hh6, hr0.mono X09, hs0.mono X09, by rw [upd_ne ta]; exact X69 _ _ hn6, by rw [upd_ne oa]; exact ho⟩
    have h10 : upd H9 a (.ins (He.ga K "Every") dx (cdF hd 1 [("days", .ref r), ("spread", .ref s), ("notes", .ref nt), ("own", .ref ow)])) a = some (.ins (He.ga K "Every") dx (cdF hd 1 [("days", .ref r), ("spread", .ref s), ("notes", .ref nt), ("own", .ref ow)])) := upd_same
    have ho10 : upd H9 a (.ins (He.ga K "Every") dx (cdF hd 1 [("days", .ref r), ("spread", .ref s), ("notes", .ref nt), ("own", .ref ow)])) ow = some (.dK (ownK (momsL ts))) := by rw [upd_ne oa]; exact ho
    generalize upd H9 a (.ins (He.ga K "Every") dx (cdF hd 1 [("days", .ref r), ("spread", .ref s), ("notes", .ref nt), ("own", .ref ow)])) = H10 at hA O10 h10 ho10 ⊢
    refine ⟨_, rfl, a, _, dx, _, _, rfl, h10, T.c_Every, T.a_Every_own, rfl, ow, _, rfl, .inl ho10, fun kl nk => ?_⟩
    have ek : (ownK (momsL ts)).map (fun kv => kV kv.1) = natV (momsL ts) := by
      unfold ownK natV
      rw [List.map_map]
      rfl
    rw [ek]
    have Xk := ex_new (o := HO.lst (natV (momsL ts))) nk
    have hk : upd H10 kl (HO.lst (natV (momsL ts))) kl = some (HO.lst (natV (momsL ts))) := upd_same
    generalize upd H10 kl (HO.lst (natV (momsL ts))) = H11 at Xk hk ⊢
    refine ⟨kl, rfl, ⟨_, sq_lst hk⟩, fun A2 nA2 => lc_on (momsL ts) (fun n : Nat => V.int n) L2.walk_list (fun n => some (.bl (decide (n < 1440)))) (fun H' => Ex H11 H') (fun H' z e => ex_mut e nA2) (.refl _) (by omega) (fun H' e => sq_lst (e _ _ hk)) (fun j n H4 acc N hn X4 hD la k => ?_) fun H12 X12 d12 => ?_⟩
    · refine ⟨rfl, _, rfl, _, _, rfl, rfl, acc, hD, la, ?_⟩
      show N (upd H4 A2 (HO.lst (acc ++ [V.bl (decide (((n : Nat) : Int) < 1440))])))
      rw [show decide (((n : Nat) : Int) < 1440) = decide (n < 1440) from decide_eq_decide.mpr (by omega)]
      exact k H4 X4 hD
    have ed : (momsL ts).filterMap (fun n => some (V.bl (decide (n < 1440)))) = ((momsL ts).map fun n => decide (n < 1440)).map V.bl := by
      rw [List.filterMap_eq_map', List.map_map]
      rfl
    rw [ed] at d12
    have X1012 := Xk.trans X12
    refine ⟨A2, _, rfl, sq_lst d12, _, _, rfl, fun hb => ?_, fun hb => ?_⟩
    · rw [List.all_map] at hb
      exact q D ts ws rfl rfl rfl (fun n hn => of_decide_eq_true (List.all_eq_true.mp hb n hn)) H12 (O10.trans (ex_oth X1012)) (hA.mono X1012) (cdN_of (w := 1) (X1012 _ _ h10) nh rfl)
    · rw [List.all_map] at hb
      refine qe (.inr (.inr (.inr fun ts' e => ?_))) H12 (O10.trans (ex_oth X1012))
      cases e
      obtain ⟨n, hn, hb'⟩ := List.all_eq_false.mp hb
      exact ⟨n, hn, fun h => hb' (decide_eq_true h)⟩
theorem every_new {K : PySem.W.Frag} {H : Hp} {x dx r s : Addr} {y : V} {D : DaysD} {ts : List Tr} {ws : List Str} {Q : VK} {E : XK} (nx : H x = none) (nd : H dx = none) (ne : dx ≠ x) (hr : DaysAt K H r D) (hD : D.ok) (hs : SprAt K H s ts) (hm : (momsL ts).Pairwise (· < ·)) (hl : (momsL ts).length ≤ 1440) (hb : ∀ n ∈ momsL ts, n < 1440) (hN : NtX K H y (some ws)) (q : ∀ H', Ex H H' → CardAt K H' (.every D ts ws) x → CdN (fun b => H b = none) (.ref s) H' x → Q .non H') :
    sp_Every_init K [.ref x, .ref r, .ref s, y] (upd (upd H dx (.own x)) x (.ins (He.ga K "Every") dx [])) Q E := by
  have X1 := ex_made (o1 := .own x) (o2 := .ins (He.ga K "Every") dx []) nx nd ne
  refine ⟨x, dx, _, _, y, H, some D, some ts, some ws, rfl, upd_same, nx, X1, ⟨r, rfl, hr, hD⟩, fun _ => ⟨s, rfl, hs, hm.imp fun {a b} z => Nat.ne_of_lt z, hl⟩, fun _ _ => hN, fun D' ts' ws' e0 e1 e2 _ H' O hA hN => by cases e0; cases e1; cases e2; exact q H' (Oth.ex X1 nx O) hA hN, fun h => ?_⟩
  rcases h with h | h | h | h
  · cases h
  · cases h
  · cases h
  · obtain ⟨n, hn, h⟩ := h ts rfl
    exact absurd (hb n hn) h
theorem ok_Every_init {P : Program} {w : World} {K : PySem.W.Frag} {mg : Str → Option Value} {base : Heap} (T : Env K mg) : Fc P w K mg base 3 (He.ma K (He.ga K "Every") "__init__") [] (fun vs H Q E => vs.length = 4 + ([] : List Str).length ∧ sp_Every_init K  (pick [.inl 0, .inl 1, .inl 2, .inl 3] vs [.non]) H Q E) := by
  obtain ⟨fd, D, F⟩ := fb_Every_init T
  exact Fb.shape D F 4 [] (fun us its => pick [.inl 0, .inl 1, .inl 2, .inl 3] us its) (by decide) (fun r1 r2 => pick_vals _ r1 r2) (fun T kV doc pm an cdv ct us ws its h1 h2 h3 => match us, ws, its, h1, h2, h3 with | [_, _, _, _], [], [_], _, _, _ => ⟨_, rfl, rfl⟩)
end
section
/-- a card, or none -/
def CdX (K : PySem.W.Frag) (H : Hp) (x : V) : Option CardD → Prop
  | some c => ∃ a, x = .ref a ∧ CardAt K H c a
  | none => ∃ t, TyX K H x t ∧ PySem.W.kitOne K t (.ref (CardC K)) = some false
def CdXs (K : PySem.W.Frag) (H : Hp) : List V → List (Option CardD) → Prop := Paired (CdX K H)
theorem CdX.mono {K : PySem.W.Frag} {H H' : Hp} {x : V} {r : Option CardD} (h : CdX K H x r) (e : Ex H H') : CdX K H' x r := by
  cases r with
  | none =>
    obtain ⟨t, ty, k⟩ := h
    exact ⟨t, tyX_mono e ty, k⟩
  | some c =>
    obtain ⟨a, rfl, h⟩ := h
    exact ⟨a, rfl, h.mono e⟩
theorem CdX.is {K : PySem.W.Frag} {mg : Str → Option Value} (T : Env K mg) {H : Hp} {x : V} {r : Option CardD} (h : CdX K H x r) : CdIs K H x r.isSome := by
  cases r with
  | none => exact h
  | some c =>
    obtain ⟨a, rfl, h⟩ := h
    obtain ⟨dx, hd, as, fs, h1, _, _, cc, _⟩ := card_gen T h
    exact ⟨_, ty_ins cc.ins cc.cls h1, cc.isCard⟩
/-- all of them -/
def allO {α : Type} : List (Option α) → Option (List α)
  | [] => some []
  | none :: _ => none
  | some x :: r => (allO r).map (x :: ·)
theorem CdXs.get {K : PySem.W.Frag} {H : Hp} : ∀ {xs : List V} {rs : List (Option CardD)} {i : Nat} {v : V}, Paired (CdX K H) xs rs → xs[i]? = some v → CdX K H v (rs.getD i none)
  | _, _, 0, v, .cons h1 h2, e => by
    cases e
    exact h1
  | _, _, i + 1, v, .cons (l₁ := l) (l₂ := m) h1 h2, e => CdXs.get (xs := l) (rs := m) (i := i) h2 e
  | _, _, i, v, .nil, e => by cases e
theorem CdXs.mono {K : PySem.W.Frag} {H H' : Hp} (e : Ex H H') : ∀ {xs : List V} {rs : List (Option CardD)}, Paired (CdX K H) xs rs → Paired (CdX K H') xs rs
  | _, _, .nil => .nil
  | _, _, .cons h1 h2 => .cons (h1.mono e) (CdXs.mono e h2)
theorem CdXs.all {K : PySem.W.Frag} {H : Hp} : ∀ {xs : List V} {rs : List (Option CardD)} {cs : List CardD}, Paired (CdX K H) xs rs → allO rs = some cs → ∃ as : List Addr, xs = as.map V.ref ∧ CardsAt K H cs as
  | _, _, cs, .nil, e => by
    cases e
    exact ⟨[], rfl, by unfold CardsAt; rfl⟩
  | _, _, cs, .cons (b := y) h1 h2, e => by
    cases y with
    | none => cases e
    | some c =>
      obtain ⟨cs', e', rfl⟩ := Option.map_eq_some_iff.mp e
      obtain ⟨a, rfl, hc⟩ := h1
      obtain ⟨as, rfl, hs⟩ := CdXs.all h2 e'
      exact ⟨a :: as, rfl, by unfold CardsAt; exact ⟨a, as, rfl, hc, hs⟩⟩
theorem CdXs.of {K : PySem.W.Frag} {H : Hp} : ∀ {cs : List CardD} {as : List Addr}, CardsAt K H cs as → Paired (CdX K H) (as.map V.ref) (cs.map some)
  | [], as, h => by
    unfold CardsAt at h
    rw [h]
    exact .nil
  | c :: cs, as, h => by
    unfold CardsAt at h
    obtain ⟨a, r, rfl, h1, h2⟩ := h
    exact .cons ⟨a, rfl, h1⟩ (CdXs.of h2)
theorem allO_some {α : Type} : ∀ cs : List α, allO (cs.map some) = some cs
  | [] => rfl
  | c :: cs => by
    show (allO (cs.map some)).map (c :: ·) = _
    rw [allO_some cs]
    rfl
theorem allO_isSome {α : Type} : ∀ rs : List (Option α), (allO rs).isSome = (List.range rs.length).all fun i => (rs.getD i none).isSome
  | [] => rfl
  | r :: rs => by
    rw [List.length_cons, List.range_succ_eq_map, List.all_cons, List.all_map]
    cases r with
    | none => rfl
    | some x =>
      show ((allO rs).map (x :: ·)).isSome = _
      rw [Option.isSome_map, allO_isSome rs]
      rfl
theorem card_init_ok {K : PySem.W.Frag} {mg : Str → Option Value} (T : Env K mg) {H H0 : Hp} {a C dx p : Addr} {xs : List V} {rs : List (Option CardD)} {Q : VK} {E : XK} (ha : H a = some (.ins C dx [])) (na : H0 a = none) (X0 : Ex H0 H) (cC : Cls K C) (aH : NoAttr K C "held") (aW : NoAttr K C "weight") (hp : SqA H p xs) (l : xs.length ≤ 1000) (hx : CdXs K H0 xs rs)
    (q : ∀ cs as, allO rs = some cs → wtL cs < 60 → xs = as.map V.ref → CardsAt K H0 cs as → ∀ hd H', Oth a H H' → H0 hd = none → H' hd = some (.lst xs) → H' a = some (.ins C dx (cdF hd (1 + wtL cs) [])) → Q .non H')
    (qe : (∀ cs, allO rs = some cs → 60 ≤ wtL cs) → ∀ H', Oth a H H' → E (.ref (He.ga K "NoCard")) none H') : sp_Card_init K [.ref a, .ref p] H Q E := by
  have ll : xs.length = rs.length := Paired.length hx
  refine ⟨a, C, dx, p, xs, H0, fun i => (rs.getD i none).isSome, rfl, ha, na, X0, cC, aH, aW, hp, l, fun i v e => (CdXs.get hx e).is T, fun h => ?_, fun h => ?_⟩
  · rw [ll, ← allO_isSome] at h
    exact fun H' X => qe (fun cs e => by rw [e] at h; cases h) H' (ex_oth X)
  · rw [ll, ← allO_isSome] at h
    obtain ⟨cs, e⟩ := Option.isSome_iff_exists.mp h
    obtain ⟨as, ex, hA⟩ := CdXs.all hx e
    exact ⟨as, cs, ex, hA, fun hw hd H' O n h1 h2 => q cs as e hw ex hA hd H' O n h1 h2, fun hw H' O => qe (fun cs' e' => by rw [e] at e'; cases e'; exact hw) H' O⟩
end
section
/-- what Join makes of a thing: the cards in the list, or none -/
def JnX (K : PySem.W.Frag) (H : Hp) (x : V) (r : Option (List CardD)) : Prop := (∃ p xs rs, x = .ref p ∧ SqA H p xs ∧ xs.length ≤ 1000 ∧ CdXs K H xs rs ∧ r = allO rs) ∨ (∃ t, TyX K H x t ∧ PySem.W.kitAny K t [.type "list", .type "tuple"] = some false ∧ r = none)
def sp_Join_init (K : PySem.W.Frag) : Sp := fun vs H Q E => ∃ (a dx : Addr) (x : V) (H0 : Hp) (r : Option (List CardD)), vs = [.ref a, x] ∧ H a = some (.ins (He.ga K "Join") dx []) ∧ H0 a = none ∧ Ex H0 H ∧ JnX K H0 x r ∧
  (∀ cs, r = some cs → cs ≠ [] → wtL cs < 60 → ∀ p as hd H', x = .ref p → SqA H0 p (as.map V.ref) → CardsAt K H0 cs as → Oth a H H' → H0 hd = none → H' hd = some (.lst (as.map V.ref)) → H' a = some (.ins (He.ga K "Join") dx (cdF hd (1 + wtL cs) [])) → Q .non H') ∧
  ((∀ cs, r = some cs → cs = [] ∨ 60 ≤ wtL cs) → ∀ H', Oth a H H' → E (.ref (He.ga K "NoCard")) none H')
theorem fb_Join_init {P : Program} {w : World} {K : PySem.W.Frag} {mg : Str → Option Value} {base : Heap} (T : Env K mg) : ∃ fd, FunD K "__init__" "Join.__init__" (defArgs s_Join_init) (defBody s_Join_init) (defScope s_Join_init) [] [] (He.ma K (He.ga K "Join") "__init__") fd ∧ Fb P w K mg base 3 (He.ma K (He.ga K "Join") "__init__") fd ["self", "parts"] (sp_Join_init K) := by
  obtain ⟨fd, F⟩ := T.f_Join_init
  refine ⟨fd, F, fb_of F sc_Join_init (fun vs H Q E h => ?_) (fun cdv A outer s H vs Q E hr h => ?_)⟩
  · obtain ⟨a, dx, x, H0, r, rfl, _⟩ := h
    rfl
  · obtain ⟨a, dx, x, H0, r, rfl, ha, na0, X0, hJ, q, qe⟩ := h
    refine ⟨_, (pss_cons (ps_expr (c_call (ok_want T) (hr.mono (by decide)) T.g_want T.k_want (takes_of rfl rfl rfl rfl) (pa_cons (pe_and (pe_callB call_isiT (by rfl) T.n_isinstance (by decide +kernel) (pa_cons (pv 1) (pa_cons (pe_tup (pa_cons (pe_bltn (v := .ty "list") (by rfl) T.n_list (by decide +kernel) rfl) (pa_cons (pe_bltn (v := .ty "tuple") (by rfl) T.n_tuple (by decide +kernel) rfl) pa_nil))) pa_nil))) (pe_one (pe_cmpR op_gt (pe_callB call_len (by rfl) T.n_len (by decide +kernel) (pa_cons (pv 1) pa_nil)) pe_int (nomark _)))) (pa_cons pe_str pa_nil))))
      (pss_one (ps_expr (c_clsm T.cm_Card (ok_Card_init T) (hr.mono (by decide)) T.g_Card (takes_of rfl rfl rfl rfl) (pa_cons (pv 0) (pa_cons (pv 1) pa_nil)))))), ?_⟩
    refine ⟨_, rfl, (by decide), ?_⟩
    intro a1 na1
    have Xa1 := ex_new (o := HO.tup [V.ty "list", V.ty "tuple"]) na1
    have ha1 : upd H a1 (HO.tup [V.ty "list", V.ty "tuple"]) a1 = some (HO.tup [V.ty "list", V.ty "tuple"]) := upd_same
    generalize upd H a1 (HO.tup [V.ty "list", V.ty "tuple"]) = Ga1 at Xa1 ha1 ⊢
    rcases hJ with ⟨p, xs, rs, rfl, hp, lx, hx, hr⟩ | ⟨t, ty, kt, hr⟩
    · have hp0 : SqA H p xs := hp.imp (X0 _ _) (X0 _ _)
      have hp1 : SqA Ga1 p xs := hp0.imp (Xa1 _ _) (Xa1 _ _)
      have ty : ∃ t, TyX K Ga1 (.ref p) t ∧ PySem.W.kitAny K t [.type "list", .type "tuple"] = some true := by
        rcases hp1 with h | h
        · exact ⟨_, .base (.lst h), kitAny_cons (b := true) (kit_ty (by decide +kernel)) (fun z => nomatch z) (fun _ => rfl)⟩
        · exact ⟨_, .base (.tup h), kitAny_cons (b := false) (kit_ty (by decide +kernel)) (fun _ => kitAny_cons (b := true) (kit_ty (by decide +kernel)) (fun z => nomatch z) (fun _ => rfl)) (by decide)⟩
      obtain ⟨t, ty, kt⟩ := ty
      refine ⟨.ref p, a1, _, t, _, true, rfl, ha1, .cons (.ty "list") (.cons (.ty "tuple") .nil), ty, kt, true, rfl, iteT ?_⟩
      have lenv : LenV K (.ref p) Ga1 xs.length := hp1.elim (fun z => .inl ⟨_, sq_lst z, rfl⟩) (fun z => .inr ⟨_, sq_tup z, rfl⟩)
      have lr := Paired.length hx
      refine ⟨_, rfl, _, _, rfl, lenv, ?_⟩
      refine ⟨_, _, rfl, rfl, _, _, rfl, fun h0 => ?_, fun h0 => ?_⟩
      · have h0 := of_decide_eq_true h0
        refine ⟨_, rfl, _, rfl, ?_⟩
        show sp_Card_init K [.ref a, .ref p] Ga1 _ _
        refine card_init_ok T (Xa1 _ _ ha) na0 (X0.trans Xa1) T.c_Join T.a_Join_held T.a_Join_weight hp1 lx hx (fun cs as e hw ex hA hd H' O nh hh h' => ?_) fun he H' O => ?_
        · subst ex
          refine q cs (hr.trans e) (fun z => ?_) hw p as hd H' rfl hp hA ((ex_oth Xa1).trans O) nh hh h'
          rw [List.length_map, hA.len, z] at h0
          exact absurd h0 (by decide)
        · exact qe (fun cs e => .inr (he cs (hr.symm.trans e))) H' ((ex_oth Xa1).trans O)
      · have h0 := of_decide_eq_false h0
        refine qe (fun cs e => .inl ?_) _ (ex_oth Xa1)
        obtain ⟨as, ex, hA⟩ := CdXs.all hx (hr.symm.trans e)
        rw [ex, List.length_map, hA.len] at h0
        cases cs with
        | nil => rfl
        | cons c cs =>
          rw [List.length_cons] at h0
          omega
    · refine ⟨x, a1, _, t, _, false, rfl, ha1, .cons (.ty "list") (.cons (.ty "tuple") .nil), tyX_mono (X0.trans Xa1) ty, kt, false, rfl, iteF ?_⟩
      refine ⟨_, _, rfl, nofun, fun _ => qe (fun cs e => ?_) _ (ex_oth Xa1)⟩
      rw [hr] at e
      cases e
theorem ref_inj : ∀ {as bs : List Addr}, as.map V.ref = bs.map V.ref → as = bs
  | [], [], _ => rfl
  | [], b :: bs, h => nomatch h
  | a :: as, [], h => nomatch h
  | a :: as, b :: bs, h => by
    rw [List.map_cons, List.map_cons] at h
    injection h with h1 h2
    injection h1 with h1
    rw [h1, ref_inj h2]
theorem sqA_inj {H : Hp} {p : Addr} {xs ys : List V} (a : SqA H p xs) (b : SqA H p ys) : xs = ys := by
  rcases a with a | a <;> rcases b with b | b <;> rw [a] at b <;> cases b
  · rfl
  · rfl
theorem join_new {K : PySem.W.Frag} {H : Hp} {x dx p : Addr} {as : List Addr} {cs : List CardD} {Q : VK} {E : XK} (nx : H x = none) (nd : H dx = none) (ne : dx ≠ x) (hp : SqA H p (as.map V.ref)) (hA : CardsAt K H cs as) (hn : cs ≠ []) (hw : wtL cs < 60)
    (q : ∀ hd H', Ex H H' → H hd = none → H' hd = some (.lst (as.map V.ref)) → H' x = some (.ins (He.ga K "Join") dx (cdF hd (1 + wtL cs) [])) → CardAt K H' (.join cs) x → Q .non H') :
    sp_Join_init K [.ref x, .ref p] (upd (upd H dx (.own x)) x (.ins (He.ga K "Join") dx [])) Q E := by
  have X1 := ex_made (o1 := .own x) (o2 := .ins (He.ga K "Join") dx []) nx nd ne
  have ll := wtL_len cs
  refine ⟨x, dx, _, H, some cs, rfl, upd_same, nx, X1, .inl ⟨p, _, cs.map some, rfl, hp, by rw [List.length_map, hA.len]; omega, CdXs.of hA, (allO_some cs).symm⟩, fun cs' e n' w' p' as' hd H' ep hs hA' O nh hh h' => ?_, fun h => ?_⟩
  · cases e
    cases ep
    obtain rfl := ref_inj (sqA_inj hs hp)
    have X := Oth.ex X1 nx O
    exact q hd H' X nh hh h' (by unfold CardAt; exact ⟨dx, hd, as', h', hh, hA'.mono X⟩)
  · rcases h cs rfl with h | h
    · exact absurd h hn
    · omega
theorem ok_Join_init {P : Program} {w : World} {K : PySem.W.Frag} {mg : Str → Option Value} {base : Heap} (T : Env K mg) : Fc P w K mg base 3 (He.ma K (He.ga K "Join") "__init__") [] (sp_Join_init K ) := by
  obtain ⟨fd, D, F⟩ := fb_Join_init T
  exact F.all (D.bindsN fun _ _ _ _ _ _ us hl => match us, hl with | [_, _], _ => rfl)
end
section
def sp_Less_init (K : PySem.W.Frag) : Sp := fun vs H Q E => ∃ (a dx : Addr) (x y : V) (H0 : Hp) (r1 r2 : Option CardD), vs = [.ref a, x, y] ∧ H a = some (.ins (He.ga K "Less") dx []) ∧ H0 a = none ∧ Ex H0 H ∧ CdX K H0 x r1 ∧ CdX K H0 y r2 ∧
  (∀ c d, r1 = some c → r2 = some d → c.wt + d.wt < 60 → ∀ H', Oth a H H' → CardAt K H' (.less c d) a → Q .non H') ∧
  ((∀ c d, r1 = some c → r2 = some d → 60 ≤ c.wt + d.wt) → ∀ H', Oth a H H' → E (.ref (He.ga K "NoCard")) none H')
theorem fb_Less_init {P : Program} {w : World} {K : PySem.W.Frag} {mg : Str → Option Value} {base : Heap} (T : Env K mg) : ∃ fd, FunD K "__init__" "Less.__init__" (defArgs s_Less_init) (defBody s_Less_init) (defScope s_Less_init) [] [] (He.ma K (He.ga K "Less") "__init__") fd ∧ Fb P w K mg base 3 (He.ma K (He.ga K "Less") "__init__") fd ["self", "one", "other"] (sp_Less_init K) := by
  obtain ⟨fd, F⟩ := T.f_Less_init
  refine ⟨fd, F, fb_of F sc_Less_init (fun vs H Q E h => ?_) (fun cdv A outer s H vs Q E hr h => ?_)⟩
  · obtain ⟨a, dx, x, y, H0, r1, r2, rfl, _⟩ := h
    rfl
  · obtain ⟨a, dx, x, y, H0, r1, r2, rfl, ha, na0, X0, h1, h2, q, qe⟩ := h
    refine ⟨_, (pss_one (ps_expr (c_clsm T.cm_Card (ok_Card_init T) (hr.mono (by decide)) T.g_Card (takes_of rfl rfl rfl rfl) (pa_cons (pv 0) (pa_cons (pe_lst (pa_cons (pv 1) (pa_cons (pv 2) pa_nil))) pa_nil))))), ?_⟩
    refine ⟨_, rfl, _, rfl, _, rfl, (by show 2 ≤ sizeLine; decide), ?_⟩
    intro a1 na1
    have Xa1 := ex_new (o := HO.lst [x, y]) na1
    have ha1 : upd H a1 (HO.lst [x, y]) a1 = some (HO.lst [x, y]) := upd_same
    generalize upd H a1 (HO.lst [x, y]) = Ga1 at Xa1 ha1 ⊢
    have na1' : a ≠ a1 := ne_of_none ha na1
    refine card_init_ok T (rs := [r1, r2]) (Xa1 _ _ ha) na0 (X0.trans Xa1) T.c_Less T.a_Less_held T.a_Less_weight (.inl ha1) (by show 2 ≤ 1000; decide) (.cons h1 (.cons h2 .nil)) (fun cs as e hw ex hA hd H' O nh hh h' => ?_) fun he H' O => ?_
    · cases r1 with
      | none => cases e
      | some c =>
        cases r2 with
        | none => cases e
        | some d =>
          cases e
          obtain ⟨b, rfl, hb⟩ := h1
          obtain ⟨e, rfl, he⟩ := h2
          have O' := (ex_oth Xa1).trans O
          have X := Oth.ex X0 na0 O'
          refine q c d rfl rfl ?_ H' O' ?_
          · have hw' : c.wt + (d.wt + 0) < 60 := hw
            omega
          · unfold CardAt
            exact ⟨dx, hd, b, e, h', hh, hb.mono X, he.mono X⟩
    · refine qe (fun c d e1 e2 => ?_) H' ((ex_oth Xa1).trans O)
      subst e1 e2
      exact he [c, d] rfl
theorem ok_Less_init {P : Program} {w : World} {K : PySem.W.Frag} {mg : Str → Option Value} {base : Heap} (T : Env K mg) : Fc P w K mg base 3 (He.ma K (He.ga K "Less") "__init__") [] (sp_Less_init K ) := by
  obtain ⟨fd, D, F⟩ := fb_Less_init T
  exact F.all (D.bindsN fun _ _ _ _ _ _ us hl => match us, hl with | [_, _, _], _ => rfl)
end
section
def sp_Swap_init (K : PySem.W.Frag) : Sp := fun vs H Q E => ∃ (a dx : Addr) (x z y : V) (H0 : Hp) (r1 r2 : Option CardD) (rd : Option DaysD), vs = [.ref a, x, z, y] ∧ H a = some (.ins (He.ga K "Swap") dx []) ∧ H0 a = none ∧ Ex H0 H ∧ DyIs K H0 z rd ∧ (rd.isSome = true → CdX K H0 x r1 ∧ CdX K H0 y r2) ∧
  (∀ c d D, r1 = some c → r2 = some d → rd = some D → c.wt + d.wt < 60 → ∀ hd H', Oth a H H' → H0 hd = none → H' hd = some (.lst [x, y]) → H' a = some (.ins (He.ga K "Swap") dx (cdF hd (1 + (c.wt + d.wt)) [("days", z)])) → CardAt K H' (.swap c D d) a → Q .non H') ∧
  ((∀ c d D, r1 = some c → r2 = some d → rd = some D → 60 ≤ c.wt + d.wt) → ∀ H', Oth a H H' → E (.ref (He.ga K "NoCard")) none H')
theorem fb_Swap_init {P : Program} {w : World} {K : PySem.W.Frag} {mg : Str → Option Value} {base : Heap} (T : Env K mg) : ∃ fd, FunD K "__init__" "Swap.__init__" (defArgs s_Swap_init) (defBody s_Swap_init) (defScope s_Swap_init) [] [] (He.ma K (He.ga K "Swap") "__init__") fd ∧ Fb P w K mg base 3 (He.ma K (He.ga K "Swap") "__init__") fd ["self", "one", "days", "other"] (sp_Swap_init K) := by
  obtain ⟨fd, F⟩ := T.f_Swap_init
  refine ⟨fd, F, fb_of F sc_Swap_init (fun vs H Q E h => ?_) (fun cdv A outer s H vs Q E hr h => ?_)⟩
  · obtain ⟨a, dx, x, z, y, H0, r1, r2, rd, rfl, _⟩ := h
    rfl
  · obtain ⟨a, dx, x, z, y, H0, r1, r2, rd, rfl, ha, na0, X0, hd, h12, q, qe⟩ := h
    refine ⟨_, (pss_cons (ps_expr (c_call (ok_want T) (hr.mono (by decide)) T.g_want T.k_want (takes_of rfl rfl rfl rfl) (pa_cons (pe_callB call_isi (by rfl) T.n_isinstance (by decide +kernel) (pa_cons (pv 2) (pa_cons (pe_glob (v := .ref _) (by rfl) T.g_Days rfl) pa_nil))) (pa_cons pe_str pa_nil))))
      (pss_cons (ps_expr (c_clsm T.cm_Card (ok_Card_init T) (hr.mono (by decide)) T.g_Card (takes_of rfl rfl rfl rfl) (pa_cons (pv 0) (pa_cons (pe_lst (pa_cons (pv 1) (pa_cons (pv 3) pa_nil))) pa_nil))))
      (pss_one (ps_fld (pv 0) (pv 2) rfl)))), ?_⟩
    obtain ⟨t, b, ty, kt, hb⟩ : ∃ t b, TyX K H z t ∧ PySem.W.kitOne K t (.ref (DaysC K)) = some b ∧ (b = true → rd.isSome = true) ∧ (b = false → rd = none) := by
      have hd1 := hd.mono X0
      cases rd with
      | none =>
        obtain ⟨t, ty, k⟩ := hd1
        exact ⟨t, false, ty, k, nofun, fun _ => rfl⟩
      | some D =>
        obtain ⟨s, rfl, ⟨dr, r1, po, pa, k1, _⟩, _⟩ := hd1
        exact ⟨_, true, ty_ins T.i_Days T.c_Days k1, T.kit_Days_Days, fun _ => rfl, nofun⟩
    refine ⟨_, rfl, z, _, t, _, b, rfl, .own _, ty, kt, b, _, rfl, fun eb => ?_, fun eb => qe (fun c d D _ _ e => by rw [hb.2 eb] at e; cases e) H (.refl _ _)⟩
    obtain ⟨D, rfl⟩ := Option.isSome_iff_exists.mp (hb.1 eb)
    obtain ⟨rz, rfl, hD, hDo⟩ := hd
    clear hb kt ty
    obtain ⟨h1, h2⟩ := h12 rfl
    refine ⟨_, rfl, _, rfl, _, rfl, (by show 2 ≤ sizeLine; decide), ?_⟩
    intro a1 na1
    have Xa1 := ex_new (o := HO.lst [x, y]) na1
    have ha1 : upd H a1 (HO.lst [x, y]) a1 = some (HO.lst [x, y]) := upd_same
    generalize upd H a1 (HO.lst [x, y]) = Ga1 at Xa1 ha1 ⊢
    unfold tNil
    show sp_Card_init K [.ref a, .ref a1] Ga1 _ _
    refine card_init_ok T (rs := [r1, r2]) (Xa1 _ _ ha) na0 (X0.trans Xa1) T.c_Swap T.a_Swap_held T.a_Swap_weight (.inl ha1) (by show 2 ≤ 1000; decide) (.cons h1 (.cons h2 .nil)) (fun cs as e hw ex hA hd H' O nh hh h' => ?_) fun he H' O => ?_
    · cases r1 with
      | none => cases e
      | some c =>
        cases r2 with
        | none => cases e
        | some d =>
          cases e
          obtain ⟨b, rfl, hb⟩ := h1
          obtain ⟨e, rfl, he⟩ := h2
          have O' := (ex_oth Xa1).trans O
          refine ⟨_, rfl, _, rfl, a, _, dx, _, rfl, h', T.c_Swap, T.a_Swap_days, by show 2 < 1000; decide, ?_⟩
          have dh : hd ≠ a := fun z => by rw [z, h'] at hh; cases hh
          have O2 : Oth a H (upd H' a (.ins (He.ga K "Swap") dx (putF "days" (.ref rz) (cdF hd (1 + wtL [c, d]) [])))) := O'.upd
          have X := Oth.ex X0 na0 O2
          refine q c d D rfl rfl rfl ?_ hd _ O2 nh (by rw [upd_ne dh]; exact hh) upd_same ?_
          · have hw' : c.wt + (d.wt + 0) < 60 := hw
            omega
          · unfold CardAt
            exact ⟨dx, hd, b, e, rz, upd_same, by rw [upd_ne dh]; exact hh, hb.mono X, he.mono X, hD.mono X⟩
    · refine qe (fun c d D e1 e2 _ => ?_) H' ((ex_oth Xa1).trans O)
      subst e1 e2
      exact he [c, d] rfl
theorem ok_Swap_init {P : Program} {w : World} {K : PySem.W.Frag} {mg : Str → Option Value} {base : Heap} (T : Env K mg) : Fc P w K mg base 3 (He.ma K (He.ga K "Swap") "__init__") [] (sp_Swap_init K ) := by
  obtain ⟨fd, D, F⟩ := fb_Swap_init T
  exact F.all (D.bindsN fun _ _ _ _ _ _ us hl => match us, hl with | [_, _, _, _], _ => rfl)
end
section
/-- the minutes of a Later, or what are none -/
def MnIs (K : PySem.W.Frag) (H : Hp) (y : V) : Option Nat → Prop
  | some m => y = .int (m : Nat) ∧ m ≤ 10080
  | none => Cl K H y ∧ ∀ m : Nat, y = .int (m : Nat) → 10080 < m
theorem MnIs.mono {K : PySem.W.Frag} {H H' : Hp} {y : V} {r : Option Nat} (h : MnIs K H y r) (e : Ex H H') : MnIs K H' y r := by
  cases r with
  | none => exact ⟨h.1.mono e, h.2⟩
  | some m => exact h
def sp_Later_init (K : PySem.W.Frag) : Sp := fun vs H Q E => ∃ (a dx : Addr) (x y : V) (H0 : Hp) (r1 : Option CardD) (rm : Option Nat), vs = [.ref a, x, y] ∧ H a = some (.ins (He.ga K "Later") dx []) ∧ H0 a = none ∧ Ex H0 H ∧ MnIs K H0 y rm ∧ (rm.isSome = true → CdX K H0 x r1) ∧
  (∀ c m, r1 = some c → rm = some m → c.wt < 60 → ∀ hd H', Oth a H H' → H0 hd = none → H' hd = some (.lst [x]) → H' a = some (.ins (He.ga K "Later") dx (cdF hd (1 + c.wt) [("minutes", .int (m : Nat))])) → CardAt K H' (.later c m) a → Q .non H') ∧
  ((∀ c m, r1 = some c → rm = some m → 60 ≤ c.wt) → ∀ H', Oth a H H' → E (.ref (He.ga K "NoCard")) none H')
theorem fb_Later_init {P : Program} {w : World} {K : PySem.W.Frag} {mg : Str → Option Value} {base : Heap} (T : Env K mg) : ∃ fd, FunD K "__init__" "Later.__init__" (defArgs s_Later_init) (defBody s_Later_init) (defScope s_Later_init) [.int (60)] [] (He.ma K (He.ga K "Later") "__init__") fd ∧ Fb P w K mg base 3 (He.ma K (He.ga K "Later") "__init__") fd ["self", "one", "minutes"] (sp_Later_init K) := by
  obtain ⟨fd, F⟩ := T.f_Later_init
  refine ⟨fd, F, fb_of F sc_Later_init (fun vs H Q E h => ?_) (fun cdv A outer s H vs Q E hr h => ?_)⟩
  · obtain ⟨a, dx, x, y, H0, r1, rm, rfl, _⟩ := h
    rfl
  · obtain ⟨a, dx, x, y, H0, r1, rm, rfl, ha, na0, X0, hm, h1, q, qe⟩ := h
    refine ⟨_, (pss_cons (ps_expr (c_call (ok_want T) (hr.mono (by decide)) T.g_want T.k_want (takes_of rfl rfl rfl rfl) (pa_cons (pe_and (c_call (ok_is_moment T) (hr.mono (by decide)) T.g_is_moment T.k_is_moment (takes_of rfl rfl rfl rfl) (pa_cons (pv 2) pa_nil)) (pe_one (pe_cmpR op_le (pv 2) (pe_k T.v_LATEST) (nomark _)))) (pa_cons pe_str pa_nil))))
      (pss_cons (ps_expr (c_clsm T.cm_Card (ok_Card_init T) (hr.mono (by decide)) T.g_Card (takes_of rfl rfl rfl rfl) (pa_cons (pv 0) (pa_cons (pe_lst (pa_cons (pv 1) pa_nil)) pa_nil))))
      (pss_one (ps_fld (pv 0) (pv 2) rfl)))), ?_⟩
    have hm1 := hm.mono X0
    have cl : Cl K H y := by
      cases rm with
      | none => exact hm1.1
      | some m => rw [hm1.1]; exact cl_int _
    refine ⟨_, rfl, y, rfl, cl, _, rfl, ?_⟩
    cases hi : isM y with
    | false =>
      refine iteF ⟨_, _, rfl, nofun, fun _ => qe (fun c m _ e => ?_) H (.refl _ _)⟩
      subst e
      rw [hm.1] at hi
      have : decide (0 ≤ ((m : Nat) : Int)) = false := hi
      rw [decide_eq_true (by omega)] at this
      cases this
    | true =>
      obtain ⟨i, rfl, i0⟩ := isM_w hi
      obtain ⟨n, rfl⟩ := Int.eq_ofNat_of_zero_le i0
      refine iteT ⟨_, rfl, _, _, rfl, rfl, _, _, rfl, fun eb => ?_, fun eb => qe (fun c m _ e => ?_) H (.refl _ _)⟩
      rotate_left
      · subst e
        have h2 := of_decide_eq_false eb
        obtain ⟨h3, h4⟩ := hm
        injection h3 with h3
        omega
      have h2 := of_decide_eq_true eb
      obtain rfl : rm = some n := by
        cases rm with
        | none =>
          have := hm.2 n rfl
          omega
        | some m =>
          have h3 := hm.1
          injection h3 with h3
          rw [show m = n by omega]
      have h1 := h1 rfl
      refine ⟨_, rfl, _, rfl, (by show 1 ≤ sizeLine; decide), fun p np => ?_⟩
      have Xp := ex_new (o := HO.lst [x]) np
      have hp : upd H p (HO.lst [x]) p = some (HO.lst [x]) := upd_same
      generalize upd H p (HO.lst [x]) = G at Xp hp ⊢
      unfold tNil
      show sp_Card_init K [.ref a, .ref p] G _ _
      refine card_init_ok T (rs := [r1]) (Xp _ _ ha) na0 (X0.trans Xp) T.c_Later T.a_Later_held T.a_Later_weight (.inl hp) (by show 1 ≤ 1000; decide) (.cons h1 .nil) (fun cs as e hw ex hA hd H' O nh hh h' => ?_) fun he H' O => ?_
      · cases r1 with
        | none => cases e
        | some c =>
          cases e
          obtain ⟨b, rfl, hb⟩ := h1
          have O' := (ex_oth Xp).trans O
          refine ⟨_, rfl, _, rfl, a, _, dx, _, rfl, h', T.c_Later, T.a_Later_minutes, by show 2 < 1000; decide, ?_⟩
          have dh : hd ≠ a := fun z => by rw [z, h'] at hh; cases hh
          have O2 : Oth a H (upd H' a (.ins (He.ga K "Later") dx (putF "minutes" (.int ((n : Nat) : Int)) (cdF hd (1 + wtL [c]) [])))) := O'.upd
          have X := Oth.ex X0 na0 O2
          have hw' : c.wt + 0 < 60 := hw
          refine q c n rfl rfl (by omega) hd _ O2 nh (by rw [upd_ne dh]; exact hh) upd_same ?_
          unfold CardAt
          exact ⟨dx, hd, b, upd_same, by rw [upd_ne dh]; exact hh, hb.mono X⟩
      · refine qe (fun c m e1 _ => ?_) H' ((ex_oth Xp).trans O)
        subst e1
        exact he [c] rfl
theorem later_new {K : PySem.W.Frag} {H : Hp} {x dx b : Addr} {c : CardD} {m : Nat} {Q : VK} {E : XK} (nx : H x = none) (nd : H dx = none) (ne : dx ≠ x) (hb : CardAt K H c b) (hm : m ≤ 10080) (hw : c.wt < 60) (q : ∀ hd H', Ex H H' → H hd = none → H' hd = some (.lst [.ref b]) → H' x = some (.ins (He.ga K "Later") dx (cdF hd (1 + c.wt) [("minutes", .int (m : Nat))])) → CardAt K H' (.later c m) x → Q .non H') :
    sp_Later_init K [.ref x, .ref b, .int (m : Nat)] (upd (upd H dx (.own x)) x (.ins (He.ga K "Later") dx [])) Q E := by
  have X1 := ex_made (o1 := .own x) (o2 := .ins (He.ga K "Later") dx []) nx nd ne
  refine ⟨x, dx, _, _, H, some c, some m, rfl, upd_same, nx, X1, ⟨rfl, hm⟩, fun _ => ⟨b, rfl, hb⟩, fun c' z' e1 e2 _ hd H' O nh hh h' hA => ?_, fun h => ?_⟩
  · cases e1
    cases e2
    exact q hd H' (Oth.ex X1 nx O) nh hh h' hA
  · have := h c m rfl rfl
    omega
theorem ok_Later_init {P : Program} {w : World} {K : PySem.W.Frag} {mg : Str → Option Value} {base : Heap} (T : Env K mg) : Fc P w K mg base 3 (He.ma K (He.ga K "Later") "__init__") [] (fun vs H Q E => vs.length = 3 + ([] : List Str).length ∧ sp_Later_init K  (pick [.inl 0, .inl 1, .inl 2] vs [.int (60)]) H Q E) := by
  obtain ⟨fd, D, F⟩ := fb_Later_init T
  exact Fb.shape D F 3 [] (fun us its => pick [.inl 0, .inl 1, .inl 2] us its) (by decide) (fun r1 r2 => pick_vals _ r1 r2) (fun T kV doc pm an cdv ct us ws its h1 h2 h3 => match us, ws, its, h1, h2, h3 with | [_, _, _], [], [_], _, _, _ => ⟨_, rfl, rfl⟩)
end
section
/-- a name, or what is none -/
def NmIs (K : PySem.W.Frag) (H : Hp) (y : V) : Option Str → Prop
  | some z => y = .str z ∧ nmN z.cps.toList = true
  | none => ClS K H y ∧ isNm y = false
theorem NmIs.cl {K : PySem.W.Frag} {H H' : Hp} {y : V} {r : Option Str} (h : NmIs K H y r) (e : Ex H H') : ClS K H' y ∧ isNm y = r.isSome := by
  cases r with
  | none => exact ⟨h.1.mono e, h.2⟩
  | some z =>
    obtain ⟨rfl, h⟩ := h
    have h2 := (nm_facts h).2.1
    have h3 : z.length = z.cps.toList.length := rfl
    exact ⟨.inl ⟨z, rfl, by omega⟩, h⟩
end
section
def sp_Noted_init (K : PySem.W.Frag) : Sp := fun vs H Q E => ∃ (a dx : Addr) (x y : V) (H0 : Hp) (r1 : Option CardD) (rn : Option Str), vs = [.ref a, x, y] ∧ H a = some (.ins (He.ga K "Noted") dx []) ∧ H0 a = none ∧ Ex H0 H ∧ NmIs K H0 y rn ∧ (rn.isSome = true → CdX K H0 x r1) ∧
  (∀ c z, r1 = some c → rn = some z → c.wt < 60 → ∀ hd H', Oth a H H' → H0 hd = none → H' hd = some (.lst [x]) → H' a = some (.ins (He.ga K "Noted") dx (cdF hd (1 + c.wt) [("note", .str z)])) → CardAt K H' (.noted c z) a → Q .non H') ∧
  ((∀ c z, r1 = some c → rn = some z → 60 ≤ c.wt) → ∀ H', Oth a H H' → E (.ref (He.ga K "NoCard")) none H')
theorem fb_Noted_init {P : Program} {w : World} {K : PySem.W.Frag} {mg : Str → Option Value} {base : Heap} (T : Env K mg) : ∃ fd, FunD K "__init__" "Noted.__init__" (defArgs s_Noted_init) (defBody s_Noted_init) (defScope s_Noted_init) [] [] (He.ma K (He.ga K "Noted") "__init__") fd ∧ Fb P w K mg base 3 (He.ma K (He.ga K "Noted") "__init__") fd ["self", "one", "note"] (sp_Noted_init K) := by
  obtain ⟨fd, F⟩ := T.f_Noted_init
  refine ⟨fd, F, fb_of F sc_Noted_init (fun vs H Q E h => ?_) (fun cdv A outer s H vs Q E hr h => ?_)⟩
  · obtain ⟨a, dx, x, y, H0, r1, rn, rfl, _⟩ := h
    rfl
  · obtain ⟨a, dx, x, y, H0, r1, rn, rfl, ha, na0, X0, hn, h1, q, qe⟩ := h
    refine ⟨_, (pss_cons (ps_expr (c_call (ok_want T) (hr.mono (by decide)) T.g_want T.k_want (takes_of rfl rfl rfl rfl) (pa_cons (c_call (ok_is_name T) (hr.mono (by decide)) T.g_is_name T.k_is_name (takes_of rfl rfl rfl rfl) (pa_cons (pv 2) pa_nil)) (pa_cons pe_str pa_nil))))
      (pss_cons (ps_expr (c_clsm T.cm_Card (ok_Card_init T) (hr.mono (by decide)) T.g_Card (takes_of rfl rfl rfl rfl) (pa_cons (pv 0) (pa_cons (pe_lst (pa_cons (pv 1) pa_nil)) pa_nil))))
      (pss_one (ps_fld (pv 0) (pv 2) rfl)))), ?_⟩
    obtain ⟨cl, en⟩ := hn.cl X0
    refine ⟨_, rfl, y, rfl, cl, fun H1 X1 => ?_⟩
    rw [en]
    refine ⟨_, _, rfl, fun eb => ?_, fun eb => qe (fun c z _ e => by rw [e] at eb; cases eb) H1 (ex_oth X1)⟩
    obtain ⟨z, rfl⟩ := Option.isSome_iff_exists.mp eb
    obtain ⟨rfl, hz⟩ := hn
    have h1 := h1 rfl
    have ha1 := X1 _ _ ha
    have X01 := X0.trans X1
    refine ⟨_, rfl, _, rfl, (by show 1 ≤ sizeLine; decide), fun p np => ?_⟩
    have Xp := ex_new (o := HO.lst [x]) np
    have hp : upd H1 p (HO.lst [x]) p = some (HO.lst [x]) := upd_same
    generalize upd H1 p (HO.lst [x]) = G at Xp hp ⊢
    unfold tNil
    show sp_Card_init K [.ref a, .ref p] G _ _
    refine card_init_ok T (rs := [r1]) (Xp _ _ ha1) na0 (X01.trans Xp) T.c_Noted T.a_Noted_held T.a_Noted_weight (.inl hp) (by show 1 ≤ 1000; decide) (.cons h1 .nil) (fun cs as e hw ex hA hd H' O nh hh h' => ?_) fun he H' O => ?_
    · cases r1 with
      | none => cases e
      | some c =>
        cases e
        obtain ⟨b, rfl, hb⟩ := h1
        have O' := (ex_oth (X1.trans Xp)).trans O
        refine ⟨_, rfl, _, rfl, a, _, dx, _, rfl, h', T.c_Noted, T.a_Noted_note, by show 2 < 1000; decide, ?_⟩
        have dh : hd ≠ a := fun z => by rw [z, h'] at hh; cases hh
        have O2 : Oth a H (upd H' a (.ins (He.ga K "Noted") dx (putF "note" (.str z) (cdF hd (1 + wtL [c]) [])))) := O'.upd
        have X := Oth.ex X0 na0 O2
        have hw' : c.wt + 0 < 60 := hw
        refine q c z rfl rfl (by omega) hd _ O2 nh (by rw [upd_ne dh]; exact hh) upd_same ?_
        unfold CardAt
        exact ⟨dx, hd, b, upd_same, by rw [upd_ne dh]; exact hh, hb.mono X⟩
    · refine qe (fun c z e1 _ => ?_) H' ((ex_oth (X1.trans Xp)).trans O)
      subst e1
      exact he [c] rfl
theorem noted_new {K : PySem.W.Frag} {H : Hp} {x dx b : Addr} {c : CardD} {z : Str} {Q : VK} {E : XK} (nx : H x = none) (nd : H dx = none) (ne : dx ≠ x) (hb : CardAt K H c b) (hz : nmN z.cps.toList = true) (hw : c.wt < 60) (q : ∀ hd H', Ex H H' → H hd = none → H' hd = some (.lst [.ref b]) → H' x = some (.ins (He.ga K "Noted") dx (cdF hd (1 + c.wt) [("note", .str z)])) → CardAt K H' (.noted c z) x → Q .non H') :
    sp_Noted_init K [.ref x, .ref b, .str z] (upd (upd H dx (.own x)) x (.ins (He.ga K "Noted") dx [])) Q E := by
  have X1 := ex_made (o1 := .own x) (o2 := .ins (He.ga K "Noted") dx []) nx nd ne
  refine ⟨x, dx, _, _, H, some c, some z, rfl, upd_same, nx, X1, ⟨rfl, hz⟩, fun _ => ⟨b, rfl, hb⟩, fun c' z' e1 e2 _ hd H' O nh hh h' hA => ?_, fun h => ?_⟩
  · cases e1
    cases e2
    exact q hd H' (Oth.ex X1 nx O) nh hh h' hA
  · have := h c z rfl rfl
    omega
theorem ok_Noted_init {P : Program} {w : World} {K : PySem.W.Frag} {mg : Str → Option Value} {base : Heap} (T : Env K mg) : Fc P w K mg base 3 (He.ma K (He.ga K "Noted") "__init__") [] (sp_Noted_init K ) := by
  obtain ⟨fd, D, F⟩ := fb_Noted_init T
  exact F.all (D.bindsN fun _ _ _ _ _ _ us hl => match us, hl with | [_, _, _], _ => rfl)
end
section
def sp_As_init (K : PySem.W.Frag) : Sp := fun vs H Q E => ∃ (a dx : Addr) (y : V) (H0 : Hp) (rn : Option Str), vs = [.ref a, y] ∧ H a = some (.ins (He.ga K "As") dx []) ∧ H0 a = none ∧ Ex H0 H ∧ NmIs K H0 y rn ∧
  (∀ z, rn = some z → ∀ hd H', Oth a H H' → H0 hd = none → H' hd = some (.lst []) → H' a = some (.ins (He.ga K "As") dx (cdF hd 1 [("name", .str z)])) → CardAt K H' (.as_ z) a → Q .non H') ∧
  (rn = none → ∀ H', Oth a H H' → E (.ref (He.ga K "NoCard")) none H')
theorem fb_As_init {P : Program} {w : World} {K : PySem.W.Frag} {mg : Str → Option Value} {base : Heap} (T : Env K mg) : ∃ fd, FunD K "__init__" "As.__init__" (defArgs s_As_init) (defBody s_As_init) (defScope s_As_init) [] [] (He.ma K (He.ga K "As") "__init__") fd ∧ Fb P w K mg base 3 (He.ma K (He.ga K "As") "__init__") fd ["self", "name"] (sp_As_init K) := by
  obtain ⟨fd, F⟩ := T.f_As_init
  refine ⟨fd, F, fb_of F sc_As_init (fun vs H Q E h => ?_) (fun cdv A outer s H vs Q E hr h => ?_)⟩
  · obtain ⟨a, dx, y, H0, rn, rfl, _⟩ := h
    rfl
  · obtain ⟨a, dx, y, H0, rn, rfl, ha, na0, X0, hn, q, qe⟩ := h
    refine ⟨_, (pss_cons (ps_expr (c_call (ok_want T) (hr.mono (by decide)) T.g_want T.k_want (takes_of rfl rfl rfl rfl) (pa_cons (c_call (ok_is_name T) (hr.mono (by decide)) T.g_is_name T.k_is_name (takes_of rfl rfl rfl rfl) (pa_cons (pv 1) pa_nil)) (pa_cons pe_str pa_nil))))
      (pss_cons (ps_expr (c_clsm T.cm_Card (ok_Card_init T) (hr.mono (by decide)) T.g_Card (takes_of rfl rfl rfl rfl) (pa_cons (pv 0) (pa_cons (pe_lst pa_nil) pa_nil))))
      (pss_one (ps_fld (pv 0) (pv 1) rfl)))), ?_⟩
    obtain ⟨cl, en⟩ := hn.cl X0
    refine ⟨_, rfl, y, rfl, cl, fun H1 X1 => ?_⟩
    rw [en]
    refine ⟨_, _, rfl, fun eb => ?_, fun eb => qe (by cases rn with | none => rfl | some z => cases eb) H1 (ex_oth X1)⟩
    obtain ⟨z, rfl⟩ := Option.isSome_iff_exists.mp eb
    obtain ⟨rfl, hz⟩ := hn
    have ha1 := X1 _ _ ha
    have X01 := X0.trans X1
    refine ⟨_, rfl, (by show 0 ≤ sizeLine; decide), fun p np => ?_⟩
    have Xp := ex_new (o := HO.lst []) np
    have hp : upd H1 p (HO.lst []) p = some (HO.lst []) := upd_same
    generalize upd H1 p (HO.lst []) = G at Xp hp ⊢
    unfold tNil
    show sp_Card_init K [.ref a, .ref p] G _ _
    refine card_init_ok T (rs := []) (Xp _ _ ha1) na0 (X01.trans Xp) T.c_As T.a_As_held T.a_As_weight (.inl hp) (by show 0 ≤ 1000; decide) .nil (fun cs as e hw ex hA hd H' O nh hh h' => ?_) fun he H' O => ?_
    · cases e
      have O' := (ex_oth (X1.trans Xp)).trans O
      refine ⟨_, rfl, _, rfl, a, _, dx, _, rfl, h', T.c_As, T.a_As_name, by show 2 < 1000; decide, ?_⟩
      have dh : hd ≠ a := fun z => by rw [z, h'] at hh; cases hh
      have O2 : Oth a H (upd H' a (.ins (He.ga K "As") dx (putF "name" (.str z) (cdF hd (1 + wtL []) [])))) := O'.upd
      refine q z rfl hd _ O2 nh (by rw [upd_ne dh]; exact hh) upd_same ?_
      unfold CardAt
      exact ⟨dx, hd, upd_same, by rw [upd_ne dh]; exact hh⟩
    · have := he [] rfl
      exact absurd this (by decide)
theorem ok_As_init {P : Program} {w : World} {K : PySem.W.Frag} {mg : Str → Option Value} {base : Heap} (T : Env K mg) : Fc P w K mg base 3 (He.ma K (He.ga K "As") "__init__") [] (sp_As_init K ) := by
  obtain ⟨fd, D, F⟩ := fb_As_init T
  exact F.all (D.bindsN fun _ _ _ _ _ _ us hl => match us, hl with | [_, _], _ => rfl)
end
section
def sp_want_card (K : PySem.W.Frag) : Sp := fun vs H Q E => ∃ (x : V) (b : Bool), vs = [x] ∧ CdIs K H x b ∧ (b = true → Q .non H) ∧ (b = false → E (.ref (He.ga K "NoCard")) none H)
theorem fb_want_card {P : Program} {w : World} {K : PySem.W.Frag} {mg : Str → Option Value} {base : Heap} (T : Env K mg) : ∃ fd, FunD K "want_card" "want_card" (defArgs s_want_card) (defBody s_want_card) (defScope s_want_card) [] [] (He.ga K "want_card") fd ∧ Fb P w K mg base 2 (He.ga K "want_card") fd ["card"] (sp_want_card K) := by
  obtain ⟨fd, F⟩ := T.f_want_card
  refine ⟨fd, F, fb_of F sc_want_card (fun vs H Q E h => ?_) (fun cdv A outer s H vs Q E hr h => ?_)⟩
  · obtain ⟨x, b, rfl, _⟩ := h
    rfl
  · obtain ⟨x, b, rfl, ⟨t, ty, kt⟩, q, qe⟩ := h
    refine ⟨_, (pss_one (ps_expr (c_call (ok_want T) (hr.mono (by decide)) T.g_want T.k_want (takes_of rfl rfl rfl rfl) (pa_cons (pe_callB call_isi (by rfl) T.n_isinstance (by decide +kernel) (pa_cons (pv 0) (pa_cons (pe_glob (v := .ref _) (by rfl) T.g_Card rfl) pa_nil))) (pa_cons pe_str pa_nil))))), ?_⟩
    exact ⟨_, rfl, x, _, t, _, b, rfl, .own _, ty, kt, b, _, rfl, q, qe⟩
theorem ok_want_card {P : Program} {w : World} {K : PySem.W.Frag} {mg : Str → Option Value} {base : Heap} (T : Env K mg) : Fc P w K mg base 2 (He.ga K "want_card") [] (sp_want_card K ) := by
  obtain ⟨fd, D, F⟩ := fb_want_card T
  exact F.all (D.bindsN fun _ _ _ _ _ _ us hl => match us, hl with | [_], _ => rfl)
end
section
/-- not reached here -/
def sp_want_known (K : PySem.W.Frag) : Sp := fun _ _ _ _ => False
theorem fb_want_known {P : Program} {w : World} {K : PySem.W.Frag} {mg : Str → Option Value} {base : Heap} (T : Env K mg) : ∃ fd, FunD K "want_known" "want_known" (defArgs s_want_known) (defBody s_want_known) (defScope s_want_known) [] [] (He.ga K "want_known") fd ∧ Fb P w K mg base 104 (He.ga K "want_known") fd ["card"] (sp_want_known K) := by
  obtain ⟨fd, F⟩ := T.f_want_known
  refine ⟨fd, F, fb_of F sc_want_known (fun vs H Q E h => ?_) (fun cdv A outer s H vs Q E hr h => ?_)⟩
  · exact h.elim
  · exact h.elim
theorem ok_want_known {P : Program} {w : World} {K : PySem.W.Frag} {mg : Str → Option Value} {base : Heap} (T : Env K mg) : Fc P w K mg base 104 (He.ga K "want_known") [] (sp_want_known K ) := by
  obtain ⟨fd, D, F⟩ := fb_want_known T
  exact F.all (D.bindsN fun _ _ _ _ _ _ us hl => match us, hl with | [_], _ => rfl)
end
section
/-- not reached here -/
def sp_goings_within (K : PySem.W.Frag) : Sp := fun _ _ _ _ => False
theorem fb_goings_within {P : Program} {w : World} {K : PySem.W.Frag} {mg : Str → Option Value} {base : Heap} (T : Env K mg) : ∃ fd, FunD K "goings_within" "goings_within" (defArgs s_goings_within) (defBody s_goings_within) (defScope s_goings_within) [] [] (He.ga K "goings_within") fd ∧ Fb P w K mg base 105 (He.ga K "goings_within") fd ["card", "begin", "end"] (sp_goings_within K) := by
  obtain ⟨fd, F⟩ := T.f_goings_within
  refine ⟨fd, F, fb_of F sc_goings_within (fun vs H Q E h => ?_) (fun cdv A outer s H vs Q E hr h => ?_)⟩
  · exact h.elim
  · exact h.elim
theorem ok_goings_within {P : Program} {w : World} {K : PySem.W.Frag} {mg : Str → Option Value} {base : Heap} (T : Env K mg) : Fc P w K mg base 105 (He.ga K "goings_within") [] (sp_goings_within K ) := by
  obtain ⟨fd, D, F⟩ := fb_goings_within T
  exact F.all (D.bindsN fun _ _ _ _ _ _ us hl => match us, hl with | [_, _, _], _ => rfl)
end
section
def sp_going_at (K : PySem.W.Frag) : Sp := fun vs H Q E => ∃ (x y : V) (b : Bool), vs = [x, y] ∧ CdIs K H x b ∧ (b = false → ∀ H', Ex H H' → E (.ref (He.ga K "NoCard")) none H') ∧
  (b = true → Cl K H y ∧ isM y = false ∧ ∀ H', Ex H H' → E (.ref (He.ga K "NoTime")) none H')
theorem fb_going_at {P : Program} {w : World} {K : PySem.W.Frag} {mg : Str → Option Value} {base : Heap} (T : Env K mg) : ∃ fd, FunD K "going_at" "going_at" (defArgs s_going_at) (defBody s_going_at) (defScope s_going_at) [] [] (He.ga K "going_at") fd ∧ Fb P w K mg base 106 (He.ga K "going_at") fd ["card", "moment"] (sp_going_at K) := by
  obtain ⟨fd, F⟩ := T.f_going_at
  refine ⟨fd, F, fb_of F sc_going_at (fun vs H Q E h => ?_) (fun cdv A outer s H vs Q E hr h => ?_)⟩
  · obtain ⟨x, y, b, rfl, _⟩ := h
    rfl
  · obtain ⟨x, y, b, rfl, hx, qe, hg⟩ := h
    refine ⟨_, (pss_cons (ps_expr (c_call (ok_want_card T) (hr.mono (by decide)) T.g_want_card T.k_want_card (takes_of rfl rfl rfl rfl) (pa_cons (pv 0) pa_nil)))
      (pss_cons (ps_expr (c_call (ok_want_moment T) (hr.mono (by decide)) T.g_want_moment T.k_want_moment (takes_of rfl rfl rfl rfl) (pa_cons (pv 1) pa_nil)))
      (pss_cons (ps_expr (c_call (ok_want_known T) (hr.mono (by decide)) T.g_want_known T.k_want_known (takes_of rfl rfl rfl rfl) (pa_cons (pv 0) pa_nil)))
      (pss_cons (ps_set (i := 2) sc_going_at.nd rfl (Or.inl rfl) (c_methV (k := (40 + 60)) (pv 0) (hr.mono (by decide)) (takes_of rfl rfl rfl rfl) (pa_cons (pv 1) pa_nil)))
      (pss_one (ps_ret (pe_ifExp (pt_cmpR op_isN (pv 2) pe_non (nomark _)) pe_non (c_make T.mk_Going (ok_Going_init T) (hr.mono (by decide)) T.g_Going (takes_of rfl rfl rfl rfl) (pa_cons (pv 1) (pa_cons (pv 2) pa_nil)))))))))), ?_⟩
    refine ⟨_, rfl, x, b, rfl, hx, fun hb => ?_, fun hb => qe hb H (.refl _)⟩
    obtain ⟨cl, mf, qt⟩ := hg hb
    refine ⟨_, rfl, y, rfl, cl, fun hm => ?_, fun _ => qt H (.refl _)⟩
    exact absurd (mf.symm.trans hm) nofun
theorem ok_going_at {P : Program} {w : World} {K : PySem.W.Frag} {mg : Str → Option Value} {base : Heap} (T : Env K mg) : Fc P w K mg base 106 (He.ga K "going_at") [] (sp_going_at K ) := by
  obtain ⟨fd, D, F⟩ := fb_going_at T
  exact F.all (D.bindsN fun _ _ _ _ _ _ us hl => match us, hl with | [_, _], _ => rfl)
end
section
def sp_goings_on (K : PySem.W.Frag) : Sp := fun vs H Q E => ∃ (x y : V) (b : Bool), vs = [x, y] ∧ CdIs K H x b ∧ (b = false → ∀ H', Ex H H' → E (.ref (He.ga K "NoCard")) none H') ∧
  (b = true → Cl K H y ∧ isM y = false ∧ ∀ H', Ex H H' → E (.ref (He.ga K "NoTime")) none H')
theorem fb_goings_on {P : Program} {w : World} {K : PySem.W.Frag} {mg : Str → Option Value} {base : Heap} (T : Env K mg) : ∃ fd, FunD K "goings_on" "goings_on" (defArgs s_goings_on) (defBody s_goings_on) (defScope s_goings_on) [] [] (He.ga K "goings_on") fd ∧ Fb P w K mg base 106 (He.ga K "goings_on") fd ["card", "day"] (sp_goings_on K) := by
  obtain ⟨fd, F⟩ := T.f_goings_on
  refine ⟨fd, F, fb_of F sc_goings_on (fun vs H Q E h => ?_) (fun cdv A outer s H vs Q E hr h => ?_)⟩
  · obtain ⟨x, y, b, rfl, _⟩ := h
    rfl
  · obtain ⟨x, y, b, rfl, hx, qe, hg⟩ := h
    refine ⟨_, (pss_cons (ps_expr (c_call (ok_want_card T) (hr.mono (by decide)) T.g_want_card T.k_want_card (takes_of rfl rfl rfl rfl) (pa_cons (pv 0) pa_nil)))
      (pss_cons (ps_expr (c_call (ok_want_moment T) (hr.mono (by decide)) T.g_want_moment T.k_want_moment (takes_of rfl rfl rfl rfl) (pa_cons (pv 1) pa_nil)))
      (pss_cons (ps_expr (c_call (ok_want_known T) (hr.mono (by decide)) T.g_want_known T.k_want_known (takes_of rfl rfl rfl rfl) (pa_cons (pv 0) pa_nil)))
      (pss_one (ps_ret (c_call (ok_goings_within T) (hr.mono (by decide)) T.g_goings_within T.k_goings_within (takes_of rfl rfl rfl rfl) (pa_cons (pv 0) (pa_cons (pe_op op_mul (pv 1) (pe_k T.v_DAY)) (pa_cons (pe_op op_add (pe_op op_mul (pv 1) (pe_k T.v_DAY)) (pe_k T.v_DAY)) pa_nil))))))))), ?_⟩
    refine ⟨_, rfl, x, b, rfl, hx, fun hb => ?_, fun hb => qe hb H (.refl _)⟩
    obtain ⟨cl, mf, qt⟩ := hg hb
    refine ⟨_, rfl, y, rfl, cl, fun hm => ?_, fun _ => qt H (.refl _)⟩
    exact absurd (mf.symm.trans hm) nofun
theorem ok_goings_on {P : Program} {w : World} {K : PySem.W.Frag} {mg : Str → Option Value} {base : Heap} (T : Env K mg) : Fc P w K mg base 106 (He.ga K "goings_on") [] (sp_goings_on K ) := by
  obtain ⟨fd, D, F⟩ := fb_goings_on T
  exact F.all (D.bindsN fun _ _ _ _ _ _ us hl => match us, hl with | [_, _], _ => rfl)
end
section
/-- a pot: what is left of a cell's digits, what mixes, and how often (m at most) it did -/
def PotN (m : Nat) (H : Hp) (p : Addr) : Prop := ∃ a b c : Int, H p = some (.lst [.int a, .int b, .int c]) ∧ 0 ≤ b ∧ b < 2147483647 ∧ 0 ≤ c ∧ c ≤ m
def Pot (H : Hp) (p : Addr) : Prop := ∃ a b c : Int, H p = some (.lst [.int a, .int b, .int c]) ∧ 0 ≤ b ∧ b < 2147483647 ∧ 0 ≤ c
def sp__law_pot (K : PySem.W.Frag) : Sp := fun vs H Q _ => ∃ (a : Addr) (ns : List Int) (k : Int), vs = [.ref a, .int k] ∧ SqL K H a (ns.map V.int) ∧ 0 ≤ k ∧ k < 1000 ∧ ∀ p H', H p = none → PotN 0 H' p → (∀ b, b ≠ p → H' b = H b) → Q (.ref p) H'
theorem fb__law_pot {P : Program} {w : World} {K : PySem.W.Frag} {mg : Str → Option Value} {base : Heap} (T : Env K mg) : ∃ fd, FunD K "_law_pot" "_law_pot" (defArgs s__law_pot) (defBody s__law_pot) (defScope s__law_pot) [] [] (He.ga K "_law_pot") fd ∧ Fb P w K mg base 1 (He.ga K "_law_pot") fd ["_law_script", "_law_k"] (sp__law_pot K) := by
  obtain ⟨fd, F⟩ := T.f__law_pot
  refine ⟨fd, F, fb_of F sc__law_pot (fun vs H Q E h => ?_) (fun cdv A outer s H vs Q E hr h => ?_)⟩
  · obtain ⟨a, ns, k, rfl, _⟩ := h
    rfl
  · obtain ⟨a, ns, k, rfl, hS, k0, k1, q⟩ := h
    refine ⟨_, (Evl.pss_cut (ps_set (i := 2) sc__law_pot.nd rfl (Or.inl rfl) (pe_ifExp (pt_cmpR op_lt (pv 1) (pe_callB call_len (by rfl) T.n_len (by decide +kernel) (pa_cons (pv 0) pa_nil)) (nomark _)) (pe_ix ix_list (pv 0) (pv 1) (fun _ _ => rfl)) pe_int))
      (pss_cons (ps_set (i := 3) sc__law_pot.nd rfl (Or.inl rfl) (pe_op op_add (pe_op op_mod (pe_op op_pow (pe_op op_add (pe_op op_mod (pv 2) pe_int) (pe_op op_mul pe_int (pe_op op_add (pv 1) pe_int))) pe_int) pe_int) pe_int))
      (pss_one (ps_ret (pe_lst (pa_cons (pe_callB (call_max2 rfl) (by rfl) T.n_max (by decide +kernel) (pa_cons pe_int (pa_cons (pe_op op_sub (pv 2) (pe_op op_pow pe_int pe_int)) pa_nil))) (pa_cons (pv 3) (pa_cons pe_int pa_nil)))))))), ?_⟩
    refine ⟨fun σ' H' => H' = H ∧ ∃ cell : Int, σ' = [some (.ref a), some (.int k), some (.int cell), none], ?_, ?_⟩
    · refine ⟨_, rfl, _, rfl, _, _, rfl, .inl ⟨_, hS, rfl⟩, _, _, rfl, rfl, _, rfl, ite2 (fun c => ?_) (fun c => ?_)⟩
      · have c2 : k < ((ns.map V.int).length : Int) := of_decide_eq_true c
        rw [List.length_map] at c2
        obtain ⟨i, rfl⟩ := Int.eq_ofNat_of_zero_le k0
        have hi : i < ns.length := Int.ofNat_lt.mp c2
        refine ⟨_, rfl, _, rfl, a, _, _, .int ns[i], rfl, rfl, hS, ?_, rfl, ns[i], rfl⟩
        exact atI_nat (by rw [List.getElem?_map, List.getElem?_eq_getElem hi]; rfl)
      · exact ⟨rfl, 0, rfl⟩
    · rintro σ' H' ⟨rfl, cell, rfl⟩
      have m1 := Int.emod_nonneg cell (show (2147483629 : Int) ≠ 0 by decide)
      have m2 := Int.emod_lt_of_pos cell (show (0 : Int) < 2147483629 by decide)
      refine ⟨_, rfl, _, _, rfl, rfl, (by omega), _, rfl, _, _, rfl, rfl, _, _, rfl, rfl, (.inl ⟨(by decide), (by decide)⟩), _, _, rfl, rfl, _, _, rfl, rfl, ⟨(by decide), ⟨(by decide), (by omega)⟩⟩, _, _, rfl, rfl, (by omega), _, _, rfl, rfl, _, rfl, _, _, rfl, rfl, ⟨(by decide), ⟨(by decide), (by decide)⟩⟩, _, _, rfl, rfl, _, _, rfl, _, rfl, (by show 3 ≤ sizeLine; decide), ?_⟩
      intro a1 na1
      refine q a1 _ na1 ⟨_, _, _, upd_same, Int.add_nonneg (Int.emod_nonneg _ (by decide)) (by decide), ?_, Int.le_refl _, Int.le_refl _⟩ fun b n => upd_ne n
      have z := Int.emod_lt_of_pos ((cell % 2147483629 + 40503 * (k + 1)) ^ Int.toNat 3) (show (0 : Int) < 2147483563 by decide)
      omega
theorem ok__law_pot {P : Program} {w : World} {K : PySem.W.Frag} {mg : Str → Option Value} {base : Heap} (T : Env K mg) : Fc P w K mg base 1 (He.ga K "_law_pot") [] (sp__law_pot K ) := by
  obtain ⟨fd, D, F⟩ := fb__law_pot T
  exact F.all (D.bindsN fun _ _ _ _ _ _ us hl => match us, hl with | [_, _], _ => rfl)
end
section
/-- the pot at p is drawn from: everything else stays -/
def PotOn (H H' : Hp) (p : Addr) : Prop := Pot H' p ∧ ∀ b o, b ≠ p → H b = some o → H' b = some o
def PotOnN (m : Nat) (H H' : Hp) (p : Addr) : Prop := PotN m H' p ∧ ∀ b o, b ≠ p → H b = some o → H' b = some o
theorem PotN.pot {m : Nat} {H : Hp} {p : Addr} (h : PotN m H p) : Pot H p := by
  obtain ⟨a, b, c, e, r1, r2, r3, _⟩ := h
  exact ⟨a, b, c, e, r1, r2, r3⟩
theorem PotN.le {m n : Nat} {H : Hp} {p : Addr} (h : PotN m H p) (l : m ≤ n) : PotN n H p := by
  obtain ⟨a, b, c, e, r1, r2, r3, r4⟩ := h
  exact ⟨a, b, c, e, r1, r2, r3, Int.le_trans r4 (Int.ofNat_le.mpr l)⟩
theorem PotOnN.le {m n : Nat} {H H' : Hp} {p : Addr} (h : PotOnN m H H' p) (l : m ≤ n) : PotOnN n H H' p := ⟨h.1.le l, h.2⟩
theorem PotOnN.on {m : Nat} {H H' : Hp} {p : Addr} (h : PotOnN m H H' p) : PotOn H H' p := ⟨h.1.pot, h.2⟩
theorem PotN.refl {m : Nat} {H : Hp} {p : Addr} (h : PotN m H p) : PotOnN m H H p := ⟨h, fun _ _ _ e => e⟩
theorem PotOnN.trans {m n : Nat} {H H1 H2 : Hp} {p : Addr} (a : PotOnN m H H1 p) (b : PotOnN n H1 H2 p) : PotOnN n H H2 p := ⟨b.1, fun c o n e => b.2 c o n (a.2 c o n e)⟩
theorem PotN.ex {m : Nat} {H H1 : Hp} {p : Addr} (h : PotN m H p) (e : Ex H H1) : PotN m H1 p := by
  obtain ⟨x, y, z, g, r⟩ := h
  exact ⟨x, y, z, e _ _ g, r⟩
theorem PotOnN.ex2 {m : Nat} {H H1 H2 : Hp} {p : Addr} (P : PotOnN m H H1 p) (e : Ex H1 H2) : PotOnN m H H2 p := ⟨P.1.ex e, fun b u nb h => e _ _ (P.2 b u nb h)⟩
theorem PotN.oth {m : Nat} {H : Hp} {p l : Addr} {o : HO} (h : PotN m H p) (n : l ≠ p) : PotN m (upd H l o) p := by
  obtain ⟨x, y, z, e, r⟩ := h
  exact ⟨x, y, z, by rw [upd_ne (Ne.symm n)]; exact e, r⟩
theorem PotOnN.upd {m : Nat} {H H' : Hp} {p l : Addr} {o : HO} (P : PotOnN m H H' p) (n : H l = none) (ne : l ≠ p) : PotOnN m H (upd H' l o) p :=
  ⟨P.1.oth ne, fun b u nb h => by rw [upd_ne (ne_of_none h n)]; exact P.2 b u nb h⟩
theorem PotOnN.ex {m : Nat} {H0 H H' : Hp} {p : Addr} (e : Ex H0 H) (n : H0 p = none) (P : PotOnN m H H' p) : Ex H0 H' := fun b o h => P.2 b o (ne_of_none h n) (e b o h)
theorem PotOn.refl {H : Hp} {p : Addr} (h : Pot H p) : PotOn H H p := ⟨h, fun _ _ _ e => e⟩
theorem PotOn.trans {H H1 H2 : Hp} {p : Addr} (a : PotOn H H1 p) (b : PotOn H1 H2 p) : PotOn H H2 p := ⟨b.1, fun c o n e => b.2 c o n (a.2 c o n e)⟩
def sp__law_take (K : PySem.W.Frag) : Sp := fun vs H Q _ => ∃ (p : Addr) (m : Nat) (n : Int), vs = [.ref p, .int n] ∧ PotN m H p ∧ m ≤ 4611686018427387904 ∧ 0 < n ∧ n.natAbs.log2 < 9000 ∧ ∀ (d : Int) H', 0 ≤ d → d < n → PotOnN (m + 1) H H' p → Q (.int d) H'
theorem fb__law_take {P : Program} {w : World} {K : PySem.W.Frag} {mg : Str → Option Value} {base : Heap} (T : Env K mg) : ∃ fd, FunD K "_law_take" "_law_take" (defArgs s__law_take) (defBody s__law_take) (defScope s__law_take) [] [] (He.ga K "_law_take") fd ∧ Fb P w K mg base 1 (He.ga K "_law_take") fd ["_law_pot_here", "_law_many"] (sp__law_take K) := by
  obtain ⟨fd, F⟩ := T.f__law_take
  refine ⟨fd, F, fb_of F sc__law_take (fun vs H Q E h => ?_) (fun cdv A outer s H vs Q E hr h => ?_)⟩
  · obtain ⟨p, m, n, rfl, _⟩ := h
    rfl
  · obtain ⟨p, m, n, rfl, ⟨a, b, c, hp, b0, b1, c0, c1⟩, hm, n0, n1, q⟩ := h
    refine ⟨_, (pss_cons (ps_if (pt_cmpR op_gt (pe_ix ix_list (pv 0) pe_int (fun _ _ => rfl)) pe_int (nomark _))
      (pss_cons (ps_asg (pe_callB call_divmodW (by rfl) T.n_divmod (by decide +kernel) (pa_cons (pe_ix ix_list (pv 0) pe_int (fun _ _ => rfl)) (pa_cons (pv 1) pa_nil))) (pg_tup (by rfl) (pgs_cons (pg_sub (pv 0) pe_int set_list) (pgs_cons (pg_name (i := 2) sc__law_take.nd rfl (Or.inl rfl)) pgs_nil))))
      (pss_one (ps_ret (pv 2))))
      pss_nil)
      (pss_cons (ps_asg (pe_op op_add (pe_ix ix_list (pv 0) pe_int (fun _ _ => rfl)) pe_int) (pg_sub (pv 0) pe_int set_list))
      (pss_cons (ps_asg (pe_op op_mod (pe_op op_add (pe_op op_add (pe_op op_mul (pe_ix ix_list (pv 0) pe_int (fun _ _ => rfl)) pe_int) (pe_op op_mul (pe_op op_mul (pe_ix ix_list (pv 0) pe_int (fun _ _ => rfl)) (pe_ix ix_list (pv 0) pe_int (fun _ _ => rfl))) pe_int)) pe_int) pe_int) (pg_sub (pv 0) pe_int set_list))
      (pss_one (ps_ret (pe_op op_mod (pe_op op_fdiv (pe_op op_mod (pe_op op_mul (pe_ix ix_list (pv 0) pe_int (fun _ _ => rfl)) (pe_ix ix_list (pv 0) pe_int (fun _ _ => rfl))) pe_int) pe_int) (pv 1))))))), ?_⟩
    refine ⟨_, rfl, p, _, _, .int a, rfl, rfl, sq_lst hp, rfl, _, _, rfl, rfl, _, rfl, ite2 (fun _ => ?_) (fun _ => ?_)⟩
    · refine ⟨_, rfl, p, _, _, .int a, rfl, rfl, sq_lst hp, rfl, _, rfl, a, n, rfl, ⟨n0, PyProof.noPylong_of_log2 n1⟩, fun t ht => ?_⟩
      have pt : p ≠ t := ne_of_none hp ht
      refine ⟨t, _, rfl, sq_tup upd_same, rfl, _, _, rfl, _, rfl, p, [.int a, .int b, .int c], 0, 0, rfl, rfl, (by rw [upd_ne pt]; exact hp), rfl, _, _, rfl, rfl, _, rfl, ?_⟩
      refine q _ _ (Int.emod_nonneg _ (by omega)) (Int.emod_lt_of_pos _ n0) ⟨⟨_, _, _, upd_same, b0, b1, c0, by omega⟩, fun x o nx e => ?_⟩
      rw [upd_ne nx, upd_ne (ne_of_none e ht)]
      exact e
    · refine ⟨_, rfl, p, _, _, .int c, rfl, rfl, sq_lst hp, rfl, _, _, rfl, rfl, _, rfl, p, _, 2, 2, rfl, rfl, hp, rfl, ?_⟩
      refine ⟨_, rfl, _, _, _, _, rfl, rfl, (sq_lst upd_same), rfl, _, _, rfl, rfl, (.inl ⟨(by omega), (by omega)⟩), _, rfl, _, _, _, _, rfl, rfl, (sq_lst upd_same), rfl, _, rfl, _, _, _, _, rfl, rfl, (sq_lst upd_same), rfl, _, _, rfl, rfl, (.inl ⟨(by omega), (by omega)⟩), _, _, rfl, rfl, (.inr ⟨(by decide), (by decide)⟩), _, _, rfl, rfl, _, _, rfl, rfl, _, _, rfl, rfl, (by omega), _, rfl, _, _, _, _, rfl, rfl, upd_same, rfl, _, rfl, _, _, _, _, rfl, rfl, (sq_lst upd_same), rfl, _, rfl, _, _, _, _, rfl, rfl, (sq_lst upd_same), rfl, _, _, rfl, rfl, (.inl ⟨(by omega), (by omega)⟩), _, _, rfl, rfl, (by omega), _, _, rfl, rfl, ⟨(by decide), (by decide)⟩, _, rfl, _, _, rfl, rfl, n0, ?_⟩
      try dsimp only [tNil]
      refine q _ _ (Int.emod_nonneg _ (by omega)) (Int.emod_lt_of_pos _ n0) ⟨⟨_, _, _, upd_same, Int.emod_nonneg _ (by decide), Int.emod_lt_of_pos _ (by decide), by omega, by omega⟩, fun x o nx e => ?_⟩
      rw [upd_ne nx, upd_ne nx]
      exact e
theorem PotOn.ex {H0 H H' : Hp} {p : Addr} (e : Ex H0 H) (n : H0 p = none) (P : PotOn H H' p) : Ex H0 H' := fun b o h => P.2 b o (ne_of_none h n) (e b o h)
theorem PotOn.ex2 {H H1 H2 : Hp} {p : Addr} (P : PotOn H H1 p) (e : Ex H1 H2) : PotOn H H2 p := by
  obtain ⟨⟨x, y, z, h, r⟩, k⟩ := P
  exact ⟨⟨x, y, z, e _ _ h, r⟩, fun b u nb h => e _ _ (k b u nb h)⟩
theorem pot_ne {H H' : Hp} {p l : Addr} (P : PotOn H H' p) (n : H' l = none) : l ≠ p := fun z => by
  obtain ⟨_, _, _, e, _⟩ := P.1
  rw [z, e] at n
  cases n
theorem PotOn.fresh {H H' : Hp} {p b : Addr} (P : PotOn H H' p) (n : H' b = none) : H b = none := by
  cases e : H b with
  | none => rfl
  | some o =>
    by_cases hb : b = p
    · obtain ⟨_, _, _, e2, _⟩ := P.1
      rw [hb, e2] at n
      cases n
    · rw [P.2 b o hb e] at n
      cases n
theorem ok__law_take {P : Program} {w : World} {K : PySem.W.Frag} {mg : Str → Option Value} {base : Heap} (T : Env K mg) : Fc P w K mg base 1 (He.ga K "_law_take") [] (sp__law_take K ) := by
  obtain ⟨fd, D, F⟩ := fb__law_take T
  exact F.all (D.bindsN fun _ _ _ _ _ _ us hl => match us, hl with | [_, _], _ => rfl)
end
section
theorem joinL_ones : ∀ l : List Nat, TL.joinL [] (l.map fun c => [c]) = l
  | [] => rfl
  | [c] => rfl
  | c :: d :: r => by
    show [c] ++ [] ++ TL.joinL [] ((d :: r).map fun c => [c]) = _
    rw [joinL_ones (d :: r)]
    rfl
theorem join_signs (l : List Nat) : Txt.join (Str.ofString "") (l.map fun c => SX.S [c]) = SX.S l := by
  have e := SX.join_S [] (l.map fun c => [c])
  rw [List.map_map, joinL_ones] at e
  exact e
end
section
theorem abc_at (d : Nat) (h : d < 26) : atI (Str.ofString "abcdefghijklmnopqrstuvwxyz").cps.toList (d : Int) = some (97 + d) := by
  have z : ∀ d ∈ List.range 26, atI (Str.ofString "abcdefghijklmnopqrstuvwxyz").cps.toList ((d : Nat) : Int) = some (97 + d) := by decide +kernel
  exact z d (List.mem_range.mpr h)
theorem lens_one : ∀ l : List Nat, ((l.map (fun c => SX.S [c])).map (·.length)).sum = l.length
  | [] => rfl
  | c :: r => by
    have := lens_one r
    show 1 + ((r.map (fun c => SX.S [c])).map (·.length)).sum = r.length + 1
    omega
def sp__law_name (K : PySem.W.Frag) : Sp := fun vs H Q _ => ∃ (p : Addr) (m : Nat), vs = [.ref p] ∧ PotN m H p ∧ m ≤ 4611686018427380000 ∧ ∀ (z : Str) H', nmN z.cps.toList = true → PotOnN (m + 20) H H' p → Q (.str z) H'
theorem fb__law_name {P : Program} {w : World} {K : PySem.W.Frag} {mg : Str → Option Value} {base : Heap} (T : Env K mg) : ∃ fd, FunD K "_law_name" "_law_name" (defArgs s__law_name) (defBody s__law_name) (defScope s__law_name) [] [] (He.ga K "_law_name") fd ∧ Fb P w K mg base 2 (He.ga K "_law_name") fd ["_law_pot_here"] (sp__law_name K) := by
  obtain ⟨fd, F⟩ := T.f__law_name
  refine ⟨fd, F, fb_of F sc__law_name (fun vs H Q E h => ?_) (fun cdv A outer s H vs Q E hr h => ?_)⟩
  · obtain ⟨p, m, rfl, _⟩ := h
    rfl
  · obtain ⟨p, m, rfl, hp, hm, q⟩ := h
    refine ⟨_, (pss_cons (ps_set (i := 1) sc__law_name.nd rfl (Or.inr rfl) pe_str)
      (Evl.pss_cut (ps_set (i := 2) sc__law_name.nd rfl (Or.inl rfl) (pe_op op_add pe_int (c_call (ok__law_take T) (hr.mono (by decide)) T.g__law_take T.k__law_take takes0 (pa_cons (pv 0) (pa_cons (pe_ix ix_list (pe_lst (pa_cons pe_int (pa_cons pe_int pa_nil))) (c_call (ok__law_take T) (hr.mono (by decide)) T.g__law_take T.k__law_take takes0 (pa_cons (pv 0) (pa_cons pe_int pa_nil))) (fun _ _ => rfl)) pa_nil)))))
      (pss_one (ps_ret (pe_join pe_str (pe_lc (own := [("_law_k", 3)]) (by rfl) sc__law_name.nd (pi_range1 (by rfl) T.n_range (pa_cons (pv 2) pa_nil)) (blkOk_by (own := [("_law_k", 3)]) (N := ["_law_pot_here", "_law_letters", "_law_size", "_law_k"]) (sc := defScope s__law_name) (by decide +kernel)) (fun _ _ _ _ _ => (pg_name (i := 3) sc__law_name.nd rfl (Or.inl rfl))) (fun _ _ _ _ _ => pts_nil) (fun _ _ _ _ _ => (pe_ix ix_str (pv 1) (c_call (ok__law_take T) (hr.mono (by decide)) T.g__law_take T.k__law_take takes0 (pa_cons (pv 0) (pa_cons (pe_ix (ix_listK K) (pe_lst (pa_cons pe_int (pa_cons pe_int pa_nil))) (c_call (ok__law_take T) (hr.mono (by decide)) T.g__law_take T.k__law_take takes0 (pa_cons (pv 0) (pa_cons pe_int pa_nil))) (fun _ _ => rfl)) pa_nil))) (fun _ _ => rfl))))))))), ?_⟩
    refine ⟨fun σ G => ∃ s : Nat, 1 ≤ s ∧ s ≤ 8 ∧ PotOnN (m + 2) H G p ∧ σ = [some (.ref p), some (.str (Str.ofString "abcdefghijklmnopqrstuvwxyz")), some (.int (s : Nat)), none], ?_, ?_⟩
    · refine ⟨_, rfl, by show 2 ≤ sizeLine; decide, fun a na => ?_⟩
      have X1 := ex_new (o := HO.lst [V.int 1, V.int 8]) na
      have ha : upd H a (HO.lst [V.int 1, V.int 8]) a = some (HO.lst [V.int 1, V.int 8]) := upd_same
      generalize upd H a (HO.lst [V.int 1, V.int 8]) = H1 at X1 ha ⊢
      have ap : a ≠ p := pot_ne (PotOn.refl hp.pot) na
      refine ⟨_, rfl, p, m, 2, rfl, hp.ex X1, by omega, by decide, by decide, fun d H2 d0 d1 P2 => ?_⟩
      have at_ : ∃ n : Nat, atI [V.int 1, V.int 8] d = some (.int (n : Int)) ∧ 0 < n ∧ n ≤ 8 := by
        rcases (by omega : d = 0 ∨ d = 1) with rfl | rfl
        · exact ⟨1, rfl, by decide, by decide⟩
        · exact ⟨8, rfl, by decide, by decide⟩
      obtain ⟨n, en, n0, n1⟩ := at_
      have P02 : PotOnN (m + 1) H H2 p := (hp.refl.ex2 X1).le (Nat.le_refl _) |>.trans P2
      refine ⟨a, _, d, _, rfl, rfl, sq_lst (P2.2 _ _ ap ha), en, p, m + 1, n, rfl, P2.1, by omega, by omega, ?_, fun d2 H3 e0 e1 P3 => ?_⟩
      · exact Nat.lt_of_le_of_lt (Nat.log2_le_self _) (by omega)
      obtain ⟨d2, rfl⟩ := Int.eq_ofNat_of_zero_le e0
      refine ⟨_, _, rfl, rfl, d2 + 1, by omega, by omega, P02.trans P3, ?_⟩
      show _ = [some (V.ref p), some (V.str (Str.ofString "abcdefghijklmnopqrstuvwxyz")), some (V.int ((d2 + 1 : Nat) : Int)), none]
      rw [show ((d2 + 1 : Nat) : Int) = 1 + (d2 : Int) by omega]
      rfl
    · rintro σ G ⟨s, s1, s2, P1, rfl⟩
      refine ⟨⟨_, rfl⟩, _, rfl, _, rfl, (by omega), (by omega), fun D nD => ?_⟩
      have Dp : D ≠ p := fun z => by
        obtain ⟨_, _, _, e, _⟩ := P1.1
        rw [z, e] at nD
        cases nD
      have nD0 : H D = none := P1.on.fresh nD
      refine lc_any (n := ((s : Nat) : Int).toNat) (J := Itr 0 ((s : Nat) : Int).toNat) L2.walk_range (fun i acc G => PotOnN (m + 2 + 2 * i) H G p ∧ ∃ l : List Nat, acc = l.map (fun c => V.str (SX.S [c])) ∧ l.length = i ∧ ∀ c ∈ l, 97 ≤ c ∧ c < 123) (fun i acc G l e => ⟨e.1.upd nD0 Dp, e.2⟩) ⟨P1, [], rfl, rfl, nofun⟩ (by omega) (fun i acc G e => ?_) (fun _ _ _ _ => trivial) (fun i x H2 H3 acc N hi e hD la y k _ => ?_) (fun acc H2 e hD => ?_)
      · obtain ⟨_, l, rfl, hl, _⟩ := e
        simp [hl]
      · obtain ⟨rfl, rfl⟩ := y
        obtain ⟨P2, l, rfl, hl, ha⟩ := e
        have hi8 : i < 8 := by omega
        refine ⟨rfl, _, rfl, _, rfl, (by decide), ?_⟩
        intro a1 na1
        have Xa1 := ex_new (o := HO.lst [V.int 3, V.int 26]) na1
        have ha1 : upd H3 a1 (HO.lst [V.int 3, V.int 26]) a1 = some (HO.lst [V.int 3, V.int 26]) := upd_same
        generalize upd H3 a1 (HO.lst [V.int 3, V.int 26]) = Ga1 at Xa1 ha1 ⊢
        refine ⟨_, rfl, ?_⟩
        have P3 := P2.ex2 Xa1
        have hD1 := Xa1 _ _ hD
        have ap : a1 ≠ p := pot_ne P2.on na1
        refine ⟨p, m + 2 + 2 * i, 2, rfl, P3.1, by omega, by decide, by decide, fun d H4 d0 d1 P4 => ?_⟩
        have at_ : ∃ n : Nat, atI [V.int 3, V.int 26] d = some (.int (n : Int)) ∧ 0 < n ∧ n ≤ 26 := by
          rcases (by omega : d = 0 ∨ d = 1) with rfl | rfl
          · exact ⟨3, rfl, by decide, by decide⟩
          · exact ⟨26, rfl, by decide, by decide⟩
        obtain ⟨n, en, n0, n1⟩ := at_
        refine ⟨a1, _, d, _, rfl, rfl, sq_lst (P4.2 _ _ ap ha1), en, p, m + 2 + 2 * i + 1, n, rfl, P4.1, by omega, by omega, ?_, fun c H5 c0 c1 P5 => ?_⟩
        · exact Nat.lt_of_le_of_lt (Nat.log2_le_self _) (by omega)
        obtain ⟨c, rfl⟩ := Int.eq_ofNat_of_zero_le c0
        have hD5 := P5.2 _ _ Dp (P4.2 _ _ Dp hD1)
        refine ⟨_, _, _, rfl, rfl, by decide, abc_at c (by omega), _, hD5, la, ?_⟩
        exact k _ H5 hD5 ⟨((P3.trans P4).trans P5).le (by omega), l ++ [97 + c], by simp, by simp [hl], fun x hx => (List.mem_append.mp hx).elim (ha x) fun z => by
          rw [List.mem_singleton.mp z]
          omega⟩
      · obtain ⟨P2, l, rfl, hl, ha⟩ := e
        refine ⟨_, _, l.map (fun c => SX.S [c]), rfl, rfl, .inl (sq_lst (by rw [hD, List.map_map]; rfl)), ?_, ?_⟩
        · rw [lens_one, List.length_map]
          have z : (Str.ofString "").length = 0 := rfl
          rw [z]
          omega
        rw [join_signs]
        refine q (SX.S l) H2 ?_ (P2.le (by omega))
        show nmN l = true
        unfold nmN
        rw [decide_eq_true (by omega), decide_eq_true (by omega), Bool.true_and, Bool.true_and, List.all_eq_true]
        exact fun c hc => by
          have := ha c hc
          rw [decide_eq_true (by omega), decide_eq_true (by omega)]
          rfl
theorem ok__law_name {P : Program} {w : World} {K : PySem.W.Frag} {mg : Str → Option Value} {base : Heap} (T : Env K mg) : Fc P w K mg base 2 (He.ga K "_law_name") [] (sp__law_name K ) := by
  obtain ⟨fd, D, F⟩ := fb__law_name T
  exact F.all (D.bindsN fun _ _ _ _ _ _ us hl => match us, hl with | [_], _ => rfl)
end
section
def wdS (t : Bool) : Str := if t then "notime" else "nocard"
def sp__law_word (K : PySem.W.Frag) : SpP := fun p vs H Q _ => ∃ (a : Addr) (t : Bool), vs = [.ref a] ∧ p.1 = a ∧ Zc (.ref (He.ga K (if t then "NoTime" else "NoCard"))) none p.2 ∧ (∃ vs, p.2.data = .fields vs) ∧ ∀ H', Ex H H' → Q (.str (wdS t)) H'
theorem fb__law_word {P : Program} {w : World} {K : PySem.W.Frag} {mg : Str → Option Value} {base : Heap} (T : Env K mg) : ∃ fd, FunD K "_law_word" "_law_word" (defArgs s__law_word) (defBody s__law_word) (defScope s__law_word) [] [] (He.ga K "_law_word") fd ∧ FbP P w K mg base 1 (He.ga K "_law_word") fd ["_law_e"] (sp__law_word K) := by
  obtain ⟨fd, F⟩ := T.f__law_word
  refine ⟨fd, F, fbP_of F sc__law_word (fun p vs H Q E h => ?_) (fun cdv A outer s H vs Q E p hr h => ?_)⟩
  · obtain ⟨a, t, rfl, _⟩ := h
    rfl
  · obtain ⟨b, oe⟩ := p
    obtain ⟨a, t, rfl, e, hz, hf, q⟩ := h
    dsimp only at e hz hf
    subst e
    have hp : (b, oe) ∈ [(b, oe)] := List.mem_singleton.mpr rfl
    refine ⟨_, (pss_cons (ps_set (i := 1) sc__law_word.nd rfl (Or.inl rfl) (pe_lst (pa_cons (pe_callB (call_isPT K hp hz hf) (by rfl) T.n_isinstance (by decide +kernel) (pa_cons (pv 0) (pa_cons (pe_tup (pa_cons (pe_glob (v := .ref _) (by rfl) T.g_NoPiece rfl) (pa_cons (pe_glob (v := .ref _) (by rfl) T.g_NoDays rfl) (pa_cons (pe_glob (v := .ref _) (by rfl) T.g_NoName rfl) (pa_cons (pe_glob (v := .ref _) (by rfl) T.g_NoRow rfl) (pa_cons (pe_glob (v := .ref _) (by rfl) T.g_NoText rfl) pa_nil)))))) pa_nil))) (pa_cons (pe_callB (call_isPT K hp hz hf) (by rfl) T.n_isinstance (by decide +kernel) (pa_cons (pv 0) (pa_cons (pe_tup (pa_cons (pe_glob (v := .ref _) (by rfl) T.g_LackError rfl) (pa_cons (pe_glob (v := .ref _) (by rfl) T.g_BookError rfl) pa_nil))) pa_nil))) pa_nil))))
      (pss_cons (ps_set (i := 2) sc__law_word.nd rfl (Or.inl rfl) (pe_lst (pa_cons (pe_callB (call_isP K hp hz hf) (by rfl) T.n_isinstance (by decide +kernel) (pa_cons (pv 0) (pa_cons (pe_glob (v := .ref _) (by rfl) T.g_NoTime rfl) pa_nil))) (pa_cons (pe_callB (call_isP K hp hz hf) (by rfl) T.n_isinstance (by decide +kernel) (pa_cons (pv 0) (pa_cons (pe_glob (v := .ref _) (by rfl) T.g_NoCard rfl) pa_nil))) pa_nil))))
      (pss_cons (ps_if (PW.pt (pw_or (pt_cmpR op_in_seq pe_bl (pv 1) (by rfl)) (pw_or (pt_not (pt_val (pe_callB (call_isP K hp hz hf) (by rfl) T.n_isinstance (by decide +kernel) (pa_cons (pv 0) (pa_cons (pe_bltn (v := .ty "ValueError") (by rfl) T.n_ValueError (by decide +kernel) rfl) pa_nil))))) (pw_or1 (pt_cmpR op_ne (pe_bmK K PySem.F.plainAttrs_list PySem.F.slot_list_count PySem.F.type_list_count (mt_countP K (roomHU hr)) (pv 2) (pa_cons pe_bl pa_nil)) pe_int (nomark _))))))
      (pss_one (ps_ret pe_str))
      pss_nil)
      (pss_one (ps_ret (pe_ix ix_list (pe_lst (pa_cons pe_str (pa_cons pe_str pa_nil))) (pe_bm PySem.F.plainAttrs_list PySem.F.slot_list_index PySem.F.type_list_index mt_index (pv 2) (pa_cons pe_bl pa_nil)) (fun _ _ => rfl))))))), ?_⟩
    revert hz
    cases t with
    | true =>
      rw [if_pos rfl]
      intro hz
      refine ⟨_, rfl, (by show 5 ≤ sizeLine; decide), fun a1 na1 => ?_⟩
      have Xa1 := ex_new (o := HO.tup [V.ref (He.ga K (Str.ofString "NoPiece")), V.ref (He.ga K (Str.ofString "NoDays")), V.ref (He.ga K (Str.ofString "NoName")), V.ref (He.ga K (Str.ofString "NoRow")), V.ref (He.ga K (Str.ofString "NoText"))]) na1
      have ha1 : upd H a1 (HO.tup [V.ref (He.ga K (Str.ofString "NoPiece")), V.ref (He.ga K (Str.ofString "NoDays")), V.ref (He.ga K (Str.ofString "NoName")), V.ref (He.ga K (Str.ofString "NoRow")), V.ref (He.ga K (Str.ofString "NoText"))]) a1 = some (HO.tup [V.ref (He.ga K (Str.ofString "NoPiece")), V.ref (He.ga K (Str.ofString "NoDays")), V.ref (He.ga K (Str.ofString "NoName")), V.ref (He.ga K (Str.ofString "NoRow")), V.ref (He.ga K (Str.ofString "NoText"))]) := upd_same
      generalize upd H a1 (HO.tup [V.ref (He.ga K (Str.ofString "NoPiece")), V.ref (He.ga K (Str.ofString "NoDays")), V.ref (He.ga K (Str.ofString "NoName")), V.ref (He.ga K (Str.ofString "NoRow")), V.ref (He.ga K (Str.ofString "NoText"))]) = H1 at Xa1 ha1 ⊢
      refine ⟨_, a1, _, _, false, rfl, T.xc_NoTime, .inl rfl, rfl, ha1, (.cons (.own _) (.cons (.own _) (.cons (.own _) (.cons (.own _) (.cons (.own _) .nil))))), kitAny_cons T.kit_NoTime_NoPiece (fun _ => kitAny_cons T.kit_NoTime_NoDays (fun _ => kitAny_cons T.kit_NoTime_NoName (fun _ => kitAny_cons T.kit_NoTime_NoRow (fun _ => kitAny_cons T.kit_NoTime_NoText (fun _ => kitAny_nil) (by decide)) (by decide)) (by decide)) (by decide)) (by decide), ?_⟩
      refine ⟨_, rfl, (by show 2 ≤ sizeLine; decide), fun a2 na2 => ?_⟩
      have Xa2 := ex_new (o := HO.tup [V.ref (He.ga K (Str.ofString "LackError")), V.ref (He.ga K (Str.ofString "BookError"))]) na2
      have ha2 : upd H1 a2 (HO.tup [V.ref (He.ga K (Str.ofString "LackError")), V.ref (He.ga K (Str.ofString "BookError"))]) a2 = some (HO.tup [V.ref (He.ga K (Str.ofString "LackError")), V.ref (He.ga K (Str.ofString "BookError"))]) := upd_same
      generalize upd H1 a2 (HO.tup [V.ref (He.ga K (Str.ofString "LackError")), V.ref (He.ga K (Str.ofString "BookError"))]) = H2 at Xa2 ha2 ⊢
      refine ⟨_, a2, _, _, false, rfl, T.xc_NoTime, .inl rfl, rfl, ha2, (.cons (.own _) (.cons (.own _) .nil)), kitAny_cons T.kit_NoTime_LackError (fun _ => kitAny_cons T.kit_NoTime_BookError (fun _ => kitAny_nil) (by decide)) (by decide), ?_⟩
      refine ⟨(by decide), fun a3 na3 => ?_⟩
      have Xa3 := ex_new (o := HO.lst [V.bl false, V.bl false]) na3
      have ha3 : upd H2 a3 (HO.lst [V.bl false, V.bl false]) a3 = some (HO.lst [V.bl false, V.bl false]) := upd_same
      generalize upd H2 a3 (HO.lst [V.bl false, V.bl false]) = H3 at Xa3 ha3 ⊢
      refine ⟨_, rfl, _, _, _, true, rfl, T.xc_NoTime, .inl rfl, rfl, .own _, T.kit_NoTime_NoTime, ?_⟩
      refine ⟨_, rfl, _, _, _, false, rfl, T.xc_NoTime, .inl rfl, rfl, .own _, T.kit_NoTime_NoCard, ?_⟩
      refine ⟨(by decide), fun a4 na4 => ?_⟩
      have Xa4 := ex_new (o := HO.lst [V.bl true, V.bl false]) na4
      have ha4 : upd H3 a4 (HO.lst [V.bl true, V.bl false]) a4 = some (HO.lst [V.bl true, V.bl false]) := upd_same
      generalize upd H3 a4 (HO.lst [V.bl true, V.bl false]) = H4 at Xa4 ha4 ⊢
      have h3 := Xa4 _ _ ha3
      refine ⟨_, rfl, a3, _, rfl, .inl (sq_lst h3), rfl, rfl, _, rfl, iteF ?_⟩
      refine ⟨_, rfl, _, _, _, true, rfl, T.xc_NoTime, .inl rfl, rfl, .ty _, T.kit_NoTime_ValueError, _, rfl, iteF ?_⟩
      refine ⟨_, rfl, .inl ⟨rfl, ⟨_, sq_lst ha4⟩⟩, ?_⟩
      have fl : ∀ z ∈ [V.bl true, V.bl false], flatV z = true := fun z hz => by
        rcases List.mem_cons.mp hz with rfl | hz
        · rfl
        · rw [List.mem_singleton.mp hz]; rfl
      refine ⟨a4, _, .bl true, fun z => eqV z (.bl true), rfl, rfl, sq_lst ha4, fun z hz => .inl ⟨fl z hz, rfl, rfl⟩, rfl, _, rfl, iteF ?_⟩
      refine ⟨by decide, fun a5 na5 => ?_⟩
      have Xa5 := ex_new (o := HO.lst [V.str "notime", V.str "nocard"]) na5
      have ha5 : upd H4 a5 (HO.lst [V.str "notime", V.str "nocard"]) a5 = some (HO.lst [V.str "notime", V.str "nocard"]) := upd_same
      generalize upd H4 a5 (HO.lst [V.str "notime", V.str "nocard"]) = H5 at Xa5 ha5 ⊢
      have h4 := Xa5 _ _ ha4
      refine ⟨_, rfl, .inl ⟨rfl, ⟨_, sq_lst h4⟩⟩, a4, _, .bl true, 0, _, rfl, rfl, sq_lst h4, rfl, rfl, rfl, rfl, ?_, a5, _, _, _, rfl, rfl, sq_lst ha5, rfl, ?_⟩
      · exact fun m z' h => absurd h (Nat.not_lt_zero m)
      · exact q H5 ((((Xa1.trans Xa2).trans Xa3).trans Xa4).trans Xa5)
    | false =>
      rw [if_neg (show ¬ false = true from nofun)]
      intro hz
      refine ⟨_, rfl, (by show 5 ≤ sizeLine; decide), fun a1 na1 => ?_⟩
      have Xa1 := ex_new (o := HO.tup [V.ref (He.ga K (Str.ofString "NoPiece")), V.ref (He.ga K (Str.ofString "NoDays")), V.ref (He.ga K (Str.ofString "NoName")), V.ref (He.ga K (Str.ofString "NoRow")), V.ref (He.ga K (Str.ofString "NoText"))]) na1
      have ha1 : upd H a1 (HO.tup [V.ref (He.ga K (Str.ofString "NoPiece")), V.ref (He.ga K (Str.ofString "NoDays")), V.ref (He.ga K (Str.ofString "NoName")), V.ref (He.ga K (Str.ofString "NoRow")), V.ref (He.ga K (Str.ofString "NoText"))]) a1 = some (HO.tup [V.ref (He.ga K (Str.ofString "NoPiece")), V.ref (He.ga K (Str.ofString "NoDays")), V.ref (He.ga K (Str.ofString "NoName")), V.ref (He.ga K (Str.ofString "NoRow")), V.ref (He.ga K (Str.ofString "NoText"))]) := upd_same
      generalize upd H a1 (HO.tup [V.ref (He.ga K (Str.ofString "NoPiece")), V.ref (He.ga K (Str.ofString "NoDays")), V.ref (He.ga K (Str.ofString "NoName")), V.ref (He.ga K (Str.ofString "NoRow")), V.ref (He.ga K (Str.ofString "NoText"))]) = H1 at Xa1 ha1 ⊢
      refine ⟨_, a1, _, _, false, rfl, T.xc_NoCard, .inl rfl, rfl, ha1, (.cons (.own _) (.cons (.own _) (.cons (.own _) (.cons (.own _) (.cons (.own _) .nil))))), kitAny_cons T.kit_NoCard_NoPiece (fun _ => kitAny_cons T.kit_NoCard_NoDays (fun _ => kitAny_cons T.kit_NoCard_NoName (fun _ => kitAny_cons T.kit_NoCard_NoRow (fun _ => kitAny_cons T.kit_NoCard_NoText (fun _ => kitAny_nil) (by decide)) (by decide)) (by decide)) (by decide)) (by decide), ?_⟩
      refine ⟨_, rfl, (by show 2 ≤ sizeLine; decide), fun a2 na2 => ?_⟩
      have Xa2 := ex_new (o := HO.tup [V.ref (He.ga K (Str.ofString "LackError")), V.ref (He.ga K (Str.ofString "BookError"))]) na2
      have ha2 : upd H1 a2 (HO.tup [V.ref (He.ga K (Str.ofString "LackError")), V.ref (He.ga K (Str.ofString "BookError"))]) a2 = some (HO.tup [V.ref (He.ga K (Str.ofString "LackError")), V.ref (He.ga K (Str.ofString "BookError"))]) := upd_same
      generalize upd H1 a2 (HO.tup [V.ref (He.ga K (Str.ofString "LackError")), V.ref (He.ga K (Str.ofString "BookError"))]) = H2 at Xa2 ha2 ⊢
      refine ⟨_, a2, _, _, false, rfl, T.xc_NoCard, .inl rfl, rfl, ha2, (.cons (.own _) (.cons (.own _) .nil)), kitAny_cons T.kit_NoCard_LackError (fun _ => kitAny_cons T.kit_NoCard_BookError (fun _ => kitAny_nil) (by decide)) (by decide), ?_⟩
      refine ⟨(by decide), fun a3 na3 => ?_⟩
      have Xa3 := ex_new (o := HO.lst [V.bl false, V.bl false]) na3
      have ha3 : upd H2 a3 (HO.lst [V.bl false, V.bl false]) a3 = some (HO.lst [V.bl false, V.bl false]) := upd_same
      generalize upd H2 a3 (HO.lst [V.bl false, V.bl false]) = H3 at Xa3 ha3 ⊢
      refine ⟨_, rfl, _, _, _, false, rfl, T.xc_NoCard, .inl rfl, rfl, .own _, T.kit_NoCard_NoTime, ?_⟩
      refine ⟨_, rfl, _, _, _, true, rfl, T.xc_NoCard, .inl rfl, rfl, .own _, T.kit_NoCard_NoCard, ?_⟩
      refine ⟨(by decide), fun a4 na4 => ?_⟩
      have Xa4 := ex_new (o := HO.lst [V.bl false, V.bl true]) na4
      have ha4 : upd H3 a4 (HO.lst [V.bl false, V.bl true]) a4 = some (HO.lst [V.bl false, V.bl true]) := upd_same
      generalize upd H3 a4 (HO.lst [V.bl false, V.bl true]) = H4 at Xa4 ha4 ⊢
      have h3 := Xa4 _ _ ha3
      refine ⟨_, rfl, a3, _, rfl, .inl (sq_lst h3), rfl, rfl, _, rfl, iteF ?_⟩
      refine ⟨_, rfl, _, _, _, true, rfl, T.xc_NoCard, .inl rfl, rfl, .ty _, T.kit_NoCard_ValueError, _, rfl, iteF ?_⟩
      refine ⟨_, rfl, .inl ⟨rfl, ⟨_, sq_lst ha4⟩⟩, ?_⟩
      have fl : ∀ z ∈ [V.bl false, V.bl true], flatV z = true := fun z hz => by
        rcases List.mem_cons.mp hz with rfl | hz
        · rfl
        · rw [List.mem_singleton.mp hz]; rfl
      refine ⟨a4, _, .bl true, fun z => eqV z (.bl true), rfl, rfl, sq_lst ha4, fun z hz => .inl ⟨fl z hz, rfl, rfl⟩, rfl, _, rfl, iteF ?_⟩
      refine ⟨by decide, fun a5 na5 => ?_⟩
      have Xa5 := ex_new (o := HO.lst [V.str "notime", V.str "nocard"]) na5
      have ha5 : upd H4 a5 (HO.lst [V.str "notime", V.str "nocard"]) a5 = some (HO.lst [V.str "notime", V.str "nocard"]) := upd_same
      generalize upd H4 a5 (HO.lst [V.str "notime", V.str "nocard"]) = H5 at Xa5 ha5 ⊢
      have h4 := Xa5 _ _ ha4
      refine ⟨_, rfl, .inl ⟨rfl, ⟨_, sq_lst h4⟩⟩, a4, _, .bl true, 1, _, rfl, rfl, sq_lst h4, rfl, rfl, rfl, rfl, ?_, a5, _, _, _, rfl, rfl, sq_lst ha5, rfl, ?_⟩
      · exact fun m z' h e => by
          obtain rfl : m = 0 := by omega
          cases e
          rfl
      · exact q H5 ((((Xa1.trans Xa2).trans Xa3).trans Xa4).trans Xa5)
theorem ok__law_word {P : Program} {w : World} {K : PySem.W.Frag} {mg : Str → Option Value} {base : Heap} (T : Env K mg) : FcP P w K mg base 1 (He.ga K "_law_word") (sp__law_word K) := by
  obtain ⟨fd, D, F⟩ := fb__law_word T
  exact F.all (D.bindsN fun _ _ _ _ _ _ us hl => match us, hl with | [_], _ => rfl)
end
section
theorem NmIs.mono {K : PySem.W.Frag} {H H' : Hp} {y : V} {r : Option Str} (h : NmIs K H y r) (e : Ex H H') : NmIs K H' y r := by
  cases r with
  | none => exact ⟨h.1.mono e, h.2⟩
  | some z => exact h
theorem JnX.mono {K : PySem.W.Frag} {H H' : Hp} {x : V} {r : Option (List CardD)} (h : JnX K H x r) (e : Ex H H') : JnX K H' x r := by
  rcases h with ⟨p, xs, rs, rfl, hp, l, hc, hr⟩ | ⟨t, ty, k, hr⟩
  · exact .inl ⟨p, xs, rs, rfl, hp.imp (e _ _) (e _ _), l, CdXs.mono e hc, hr⟩
  · exact .inr ⟨t, tyX_mono e ty, k, hr⟩
/-- what comes of a deed with these things: 0 done, 1 no card, 2 no time -/
inductive DnX (K : PySem.W.Frag) (H : Hp) : String → List V → Nat → Prop where
  | once_s {x y : V} (h : SpIs K H x none) : DnX K H "once" [x, y] 1
  | once_n {x y : V} {ts : List Tr} (h : SpIs K H x (some ts)) (n : NtX K H y none) : DnX K H "once" [x, y] 1
  | once_k {x y : V} {ts : List Tr} {ws : List Str} (h : SpIs K H x (some ts)) (n : NtX K H y (some ws)) : DnX K H "once" [x, y] 0
  | every_d {x y z : V} (h : DyIs K H x none) : DnX K H "every" [x, y, z] 1
  | every_s {x y z : V} {D : DaysD} (h : DyIs K H x (some D)) (s : SpIs K H y none) : DnX K H "every" [x, y, z] 1
  | every_n {x y z : V} {D : DaysD} {ts : List Tr} (h : DyIs K H x (some D)) (s : SpIs K H y (some ts)) (n : NtX K H z none) : DnX K H "every" [x, y, z] 1
  | every_w {x y z : V} {D : DaysD} {ts : List Tr} {ws : List Str} (h : DyIs K H x (some D)) (s : SpIs K H y (some ts)) (n : NtX K H z (some ws)) (w : ∃ n ∈ momsL ts, ¬ n < 1440) : DnX K H "every" [x, y, z] 1
  | every_k {x y z : V} {D : DaysD} {ts : List Tr} {ws : List Str} (h : DyIs K H x (some D)) (s : SpIs K H y (some ts)) (n : NtX K H z (some ws)) (w : ∀ n ∈ momsL ts, n < 1440) : DnX K H "every" [x, y, z] 0
  | join_n {x : V} {r : Option (List CardD)} (h : JnX K H x r) (w : ∀ cs, r = some cs → cs = [] ∨ 60 ≤ wtL cs) : DnX K H "join" [x] 1
  | join_k {x : V} {cs : List CardD} (h : JnX K H x (some cs)) (n : cs ≠ []) (w : wtL cs < 60) : DnX K H "join" [x] 0
  | less_n {x y : V} {r1 r2 : Option CardD} (h : CdX K H x r1) (s : CdX K H y r2) (w : ∀ c d, r1 = some c → r2 = some d → 60 ≤ c.wt + d.wt) : DnX K H "less" [x, y] 1
  | swap_n {x z y : V} {r1 r2 : Option CardD} {rd : Option DaysD} (h : DyIs K H z rd) (s : rd.isSome = true → CdX K H x r1 ∧ CdX K H y r2) (w : ∀ c d D, r1 = some c → r2 = some d → rd = some D → 60 ≤ c.wt + d.wt) : DnX K H "swap" [x, z, y] 1
  | later_n {x y : V} {r1 : Option CardD} {rm : Option Nat} (h : MnIs K H y rm) (s : rm.isSome = true → CdX K H x r1) (w : ∀ c m, r1 = some c → rm = some m → 60 ≤ c.wt) : DnX K H "later" [x, y] 1
  | later_k {x y : V} {c : CardD} {m : Nat} (h : MnIs K H y (some m)) (s : CdX K H x (some c)) (w : c.wt < 60) : DnX K H "later" [x, y] 0
  | noted_n {x y : V} {r1 : Option CardD} {rn : Option Str} (h : NmIs K H y rn) (s : rn.isSome = true → CdX K H x r1) (w : ∀ c z, r1 = some c → rn = some z → 60 ≤ c.wt) : DnX K H "noted" [x, y] 1
  | as_n {x : V} (h : NmIs K H x none) : DnX K H "as" [x] 1
  | as_k {x : V} {z : Str} (h : NmIs K H x (some z)) : DnX K H "as" [x] 0
  | at_c {x y : V} (h : CdIs K H x false) : DnX K H "at" [x, y] 1
  | at_t {x y : V} (h : CdIs K H x true) (c : Cl K H y) (m : isM y = false) : DnX K H "at" [x, y] 2
  | on_c {x y : V} (h : CdIs K H x false) : DnX K H "on" [x, y] 1
  | on_t {x y : V} (h : CdIs K H x true) (c : Cl K H y) (m : isM y = false) : DnX K H "on" [x, y] 2
theorem DnX.mono {K : PySem.W.Frag} {H H' : Hp} {s : String} {xs : List V} {w : Nat} (h : DnX K H s xs w) (e : Ex H H') : DnX K H' s xs w := by
  cases h with
  | once_s h => exact .once_s (h.mono e)
  | once_n h n => exact .once_n (h.mono e) (n.mono e)
  | once_k h n => exact .once_k (h.mono e) (n.mono e)
  | every_d h => exact .every_d (h.mono e)
  | every_s h s => exact .every_s (h.mono e) (s.mono e)
  | every_n h s n => exact .every_n (h.mono e) (s.mono e) (n.mono e)
  | every_w h s n w => exact .every_w (h.mono e) (s.mono e) (n.mono e) w
  | every_k h s n w => exact .every_k (h.mono e) (s.mono e) (n.mono e) w
  | join_n h w => exact .join_n (h.mono e) w
  | join_k h n w => exact .join_k (h.mono e) n w
  | less_n h s w => exact .less_n (h.mono e) (s.mono e) w
  | swap_n h s w => exact .swap_n (h.mono e) (fun q => ⟨(s q).1.mono e, (s q).2.mono e⟩) w
  | later_n h s w => exact .later_n (h.mono e) (fun q => (s q).mono e) w
  | later_k h s w => exact .later_k (h.mono e) (s.mono e) w
  | noted_n h s w => exact .noted_n (h.mono e) (fun q => (s q).mono e) w
  | as_n h => exact .as_n (h.mono e)
  | as_k h => exact .as_k (h.mono e)
  | at_c h => exact .at_c (h.mono e)
  | at_t h c m => exact .at_t (h.mono e) (c.mono e) m
  | on_c h => exact .on_c (h.mono e)
  | on_t h c m => exact .on_t (h.mono e) (c.mono e) m
def sp__law_done (K : PySem.W.Frag) : Sp := fun vs H Q E => ∃ (t : Addr) (s : String) (xs : List V) (w : Nat), vs = [.str (Str.ofString s), .ref t] ∧ H t = some (.tup xs) ∧ DnX K H s xs w ∧ (w = 0 → ∀ v H', Ex H H' → Q v H') ∧ (w = 1 → ∀ H', Ex H H' → E (.ref (He.ga K "NoCard")) none H') ∧ (w = 2 → ∀ H', Ex H H' → E (.ref (He.ga K "NoTime")) none H')
theorem fb__law_done {P : Program} {w : World} {K : PySem.W.Frag} {mg : Str → Option Value} {base : Heap} (T : Env K mg) : ∃ fd, FunD K "_law_done" "_law_done" (defArgs s__law_done) (defBody s__law_done) (defScope s__law_done) [] [] (He.ga K "_law_done") fd ∧ Fb P w K mg base 107 (He.ga K "_law_done") fd ["_law_sort", "_law_things"] (sp__law_done K) := by
  obtain ⟨fd, F⟩ := T.f__law_done
  refine ⟨fd, F, fb_of F sc__law_done (fun vs H Q E h => ?_) (fun cdv A outer s H vs Q E hr h => ?_)⟩
  · obtain ⟨t, s, xs, w, rfl, _⟩ := h
    rfl
  · obtain ⟨t, s, xs, w, rfl, ht, hd, q0, q1, q2⟩ := h
    refine ⟨_, (pss_cons (ps_if (pt_cmpR op_eq (pv 0) pe_str (nomark _))
      (pss_one (ps_ret (c_make T.mk_Once (ok_Once_init T) (hr.mono (by decide)) T.g_Once (takes_of rfl rfl rfl rfl) (pa_cons (pe_ix ix_tup (pv 1) pe_int (fun _ _ => rfl)) (pa_cons (pe_ix ix_tup (pv 1) pe_int (fun _ _ => rfl)) pa_nil)))))
      pss_nil)
      (pss_cons (ps_if (pt_cmpR op_eq (pv 0) pe_str (nomark _))
      (pss_one (ps_ret (c_make T.mk_Every (ok_Every_init T) (hr.mono (by decide)) T.g_Every (takes_of rfl rfl rfl rfl) (pa_cons (pe_ix ix_tup (pv 1) pe_int (fun _ _ => rfl)) (pa_cons (pe_ix ix_tup (pv 1) pe_int (fun _ _ => rfl)) (pa_cons (pe_ix ix_tup (pv 1) pe_int (fun _ _ => rfl)) pa_nil))))))
      pss_nil)
      (pss_cons (ps_if (pt_cmpR op_eq (pv 0) pe_str (nomark _))
      (pss_one (ps_ret (c_make T.mk_Join (ok_Join_init T) (hr.mono (by decide)) T.g_Join (takes_of rfl rfl rfl rfl) (pa_cons (pe_ix ix_tup (pv 1) pe_int (fun _ _ => rfl)) pa_nil))))
      pss_nil)
      (pss_cons (ps_if (pt_cmpR op_eq (pv 0) pe_str (nomark _))
      (pss_one (ps_ret (c_make T.mk_Less (ok_Less_init T) (hr.mono (by decide)) T.g_Less (takes_of rfl rfl rfl rfl) (pa_cons (pe_ix ix_tup (pv 1) pe_int (fun _ _ => rfl)) (pa_cons (pe_ix ix_tup (pv 1) pe_int (fun _ _ => rfl)) pa_nil)))))
      pss_nil)
      (pss_cons (ps_if (pt_cmpR op_eq (pv 0) pe_str (nomark _))
      (pss_one (ps_ret (c_make T.mk_Swap (ok_Swap_init T) (hr.mono (by decide)) T.g_Swap (takes_of rfl rfl rfl rfl) (pa_cons (pe_ix ix_tup (pv 1) pe_int (fun _ _ => rfl)) (pa_cons (pe_ix ix_tup (pv 1) pe_int (fun _ _ => rfl)) (pa_cons (pe_ix ix_tup (pv 1) pe_int (fun _ _ => rfl)) pa_nil))))))
      pss_nil)
      (pss_cons (ps_if (pt_cmpR op_eq (pv 0) pe_str (nomark _))
      (pss_one (ps_ret (c_make T.mk_Later (ok_Later_init T) (hr.mono (by decide)) T.g_Later (takes_of rfl rfl rfl rfl) (pa_cons (pe_ix ix_tup (pv 1) pe_int (fun _ _ => rfl)) (pa_cons (pe_ix ix_tup (pv 1) pe_int (fun _ _ => rfl)) pa_nil)))))
      pss_nil)
      (pss_cons (ps_if (pt_cmpR op_eq (pv 0) pe_str (nomark _))
      (pss_one (ps_ret (c_make T.mk_Noted (ok_Noted_init T) (hr.mono (by decide)) T.g_Noted (takes_of rfl rfl rfl rfl) (pa_cons (pe_ix ix_tup (pv 1) pe_int (fun _ _ => rfl)) (pa_cons (pe_ix ix_tup (pv 1) pe_int (fun _ _ => rfl)) pa_nil)))))
      pss_nil)
      (pss_cons (ps_if (pt_cmpR op_eq (pv 0) pe_str (nomark _))
      (pss_one (ps_ret (c_make T.mk_As (ok_As_init T) (hr.mono (by decide)) T.g_As (takes_of rfl rfl rfl rfl) (pa_cons (pe_ix ix_tup (pv 1) pe_int (fun _ _ => rfl)) pa_nil))))
      pss_nil)
      (pss_one (ps_ret (pe_ifExp (pt_cmpR op_eq (pv 0) pe_str (nomark _)) (c_call (ok_going_at T) (hr.mono (by decide)) T.g_going_at T.k_going_at (takes_of rfl rfl rfl rfl) (pa_cons (pe_ix ix_tup (pv 1) pe_int (fun _ _ => rfl)) (pa_cons (pe_ix ix_tup (pv 1) pe_int (fun _ _ => rfl)) pa_nil))) (c_call (ok_goings_on T) (hr.mono (by decide)) T.g_goings_on T.k_goings_on (takes_of rfl rfl rfl rfl) (pa_cons (pe_ix ix_tup (pv 1) pe_int (fun _ _ => rfl)) (pa_cons (pe_ix ix_tup (pv 1) pe_int (fun _ _ => rfl)) pa_nil)))))))))))))), ?_⟩
    have mk : ∀ {x dx : Addr} {C : Addr} {H' : Hp}, H x = none → H dx = none → dx ≠ x → Ex (upd (upd H dx (.own x)) x (.ins C dx [])) H' → Ex H H' := fun nx nd ne X => (ex_made nx nd ne).trans X
    have mo : ∀ {x dx : Addr} {C : Addr} {H' : Hp}, H x = none → H dx = none → dx ≠ x → Oth x (upd (upd H dx (.own x)) x (.ins C dx [])) H' → Ex H H' := fun nx nd ne O => Oth.ex (ex_made nx nd ne) nx O
    have mk : ∀ {x dx : Addr} {C : Addr} {H' : Hp}, H x = none → H dx = none → dx ≠ x → Ex (upd (upd H dx (.own x)) x (.ins C dx [])) H' → Ex H H' := fun nx nd ne X => (ex_made nx nd ne).trans X
    have mo : ∀ {x dx : Addr} {C : Addr} {H' : Hp}, H x = none → H dx = none → dx ≠ x → Oth x (upd (upd H dx (.own x)) x (.ins C dx [])) H' → Ex H H' := fun nx nd ne O => Oth.ex (ex_made nx nd ne) nx O
    have mk : ∀ {x dx : Addr} {C : Addr} {H' : Hp}, H x = none → H dx = none → dx ≠ x → Ex (upd (upd H dx (.own x)) x (.ins C dx [])) H' → Ex H H' := fun nx nd ne X => (ex_made nx nd ne).trans X
    have mo : ∀ {x dx : Addr} {C : Addr} {H' : Hp}, H x = none → H dx = none → dx ≠ x → Oth x (upd (upd H dx (.own x)) x (.ins C dx [])) H' → Ex H H' := fun nx nd ne O => Oth.ex (ex_made nx nd ne) nx O
    have mk : ∀ {x dx : Addr} {C : Addr} {H' : Hp}, H x = none → H dx = none → dx ≠ x → Ex (upd (upd H dx (.own x)) x (.ins C dx [])) H' → Ex H H' := fun nx nd ne X => (ex_made nx nd ne).trans X
    have mo : ∀ {x dx : Addr} {C : Addr} {H' : Hp}, H x = none → H dx = none → dx ≠ x → Oth x (upd (upd H dx (.own x)) x (.ins C dx [])) H' → Ex H H' := fun nx nd ne O => Oth.ex (ex_made nx nd ne) nx O
    have mk : ∀ {x dx : Addr} {C : Addr} {H' : Hp}, H x = none → H dx = none → dx ≠ x → Ex (upd (upd H dx (.own x)) x (.ins C dx [])) H' → Ex H H' := fun nx nd ne X => (ex_made nx nd ne).trans X
    have mo : ∀ {x dx : Addr} {C : Addr} {H' : Hp}, H x = none → H dx = none → dx ≠ x → Oth x (upd (upd H dx (.own x)) x (.ins C dx [])) H' → Ex H H' := fun nx nd ne O => Oth.ex (ex_made nx nd ne) nx O
    have mk : ∀ {x dx : Addr} {C : Addr} {H' : Hp}, H x = none → H dx = none → dx ≠ x → Ex (upd (upd H dx (.own x)) x (.ins C dx [])) H' → Ex H H' := fun nx nd ne X => (ex_made nx nd ne).trans X
    have mo : ∀ {x dx : Addr} {C : Addr} {H' : Hp}, H x = none → H dx = none → dx ≠ x → Oth x (upd (upd H dx (.own x)) x (.ins C dx [])) H' → Ex H H' := fun nx nd ne O => Oth.ex (ex_made nx nd ne) nx O
    have mk : ∀ {x dx : Addr} {C : Addr} {H' : Hp}, H x = none → H dx = none → dx ≠ x → Ex (upd (upd H dx (.own x)) x (.ins C dx [])) H' → Ex H H' := fun nx nd ne X => (ex_made nx nd ne).trans X
    have mo : ∀ {x dx : Addr} {C : Addr} {H' : Hp}, H x = none → H dx = none → dx ≠ x → Oth x (upd (upd H dx (.own x)) x (.ins C dx [])) H' → Ex H H' := fun nx nd ne O => Oth.ex (ex_made nx nd ne) nx O
    have mk : ∀ {x dx : Addr} {C : Addr} {H' : Hp}, H x = none → H dx = none → dx ≠ x → Ex (upd (upd H dx (.own x)) x (.ins C dx [])) H' → Ex H H' := fun nx nd ne X => (ex_made nx nd ne).trans X
    have mo : ∀ {x dx : Addr} {C : Addr} {H' : Hp}, H x = none → H dx = none → dx ≠ x → Oth x (upd (upd H dx (.own x)) x (.ins C dx [])) H' → Ex H H' := fun nx nd ne O => Oth.ex (ex_made nx nd ne) nx O
    have mk : ∀ {x dx : Addr} {C : Addr} {H' : Hp}, H x = none → H dx = none → dx ≠ x → Ex (upd (upd H dx (.own x)) x (.ins C dx [])) H' → Ex H H' := fun nx nd ne X => (ex_made nx nd ne).trans X
    have mo : ∀ {x dx : Addr} {C : Addr} {H' : Hp}, H x = none → H dx = none → dx ≠ x → Oth x (upd (upd H dx (.own x)) x (.ins C dx [])) H' → Ex H H' := fun nx nd ne O => Oth.ex (ex_made nx nd ne) nx O
    have mk : ∀ {x dx : Addr} {C : Addr} {H' : Hp}, H x = none → H dx = none → dx ≠ x → Ex (upd (upd H dx (.own x)) x (.ins C dx [])) H' → Ex H H' := fun nx nd ne X => (ex_made nx nd ne).trans X
    have mo : ∀ {x dx : Addr} {C : Addr} {H' : Hp}, H x = none → H dx = none → dx ≠ x → Oth x (upd (upd H dx (.own x)) x (.ins C dx [])) H' → Ex H H' := fun nx nd ne O => Oth.ex (ex_made nx nd ne) nx O
    cases hd with
    | @once_s x y h =>
      refine ⟨_, rfl, rfl, _, rfl, _, rfl, _, _, _, _, rfl, rfl, (sq_tup ht), rfl, _, rfl, _, _, _, _, rfl, rfl, (sq_tup ht), rfl, fun a dx nx nd ne => ⟨rfl, ?_⟩⟩
      show sp_Once_init K [.ref a, x, y] _ _ _
      exact ⟨a, dx, x, y, H, none, none, rfl, upd_same, nx, ex_made nx nd ne, h, nofun, nofun, fun _ => fun H' X => q1 rfl H' (mk nx nd ne X), nofun⟩
    | @once_n x y ts h n =>
      refine ⟨_, rfl, rfl, _, rfl, _, rfl, _, _, _, _, rfl, rfl, (sq_tup ht), rfl, _, rfl, _, _, _, _, rfl, rfl, (sq_tup ht), rfl, fun a dx nx nd ne => ⟨rfl, ?_⟩⟩
      show sp_Once_init K [.ref a, x, y] _ _ _
      exact ⟨a, dx, x, y, H, some ts, none, rfl, upd_same, nx, ex_made nx nd ne, h, fun _ _ => n, nofun, nofun, fun _ _ _ => fun H' X => q1 rfl H' (mo nx nd ne X)⟩
    | @once_k x y ts ws h n =>
      refine ⟨_, rfl, rfl, _, rfl, _, rfl, _, _, _, _, rfl, rfl, (sq_tup ht), rfl, _, rfl, _, _, _, _, rfl, rfl, (sq_tup ht), rfl, fun a dx nx nd ne => ⟨rfl, ?_⟩⟩
      show sp_Once_init K [.ref a, x, y] _ _ _
      exact ⟨a, dx, x, y, H, some ts, some ws, rfl, upd_same, nx, ex_made nx nd ne, h, fun _ _ => n, fun _ _ _ _ => fun H' O _ _ => ⟨rfl, q0 rfl _ H' (mo nx nd ne O)⟩, nofun, nofun⟩
    | @every_d x y z h =>
      refine ⟨_, rfl, rfl, _, rfl, _, rfl, rfl, _, rfl, _, rfl, _, _, _, _, rfl, rfl, (sq_tup ht), rfl, _, rfl, _, _, _, _, rfl, rfl, (sq_tup ht), rfl, _, rfl, _, _, _, _, rfl, rfl, (sq_tup ht), rfl, fun a dx nx nd ne => ⟨rfl, ?_⟩⟩
      show sp_Every_init K [.ref a, x, y, z] _ _ _
      exact ⟨a, dx, x, y, z, H, none, none, none, rfl, upd_same, nx, ex_made nx nd ne, h, nofun, nofun, nofun, fun _ => fun H' X => q1 rfl H' (mo nx nd ne X)⟩
    | @every_s x y z D h s =>
      refine ⟨_, rfl, rfl, _, rfl, _, rfl, rfl, _, rfl, _, rfl, _, _, _, _, rfl, rfl, (sq_tup ht), rfl, _, rfl, _, _, _, _, rfl, rfl, (sq_tup ht), rfl, _, rfl, _, _, _, _, rfl, rfl, (sq_tup ht), rfl, fun a dx nx nd ne => ⟨rfl, ?_⟩⟩
      show sp_Every_init K [.ref a, x, y, z] _ _ _
      exact ⟨a, dx, x, y, z, H, some D, none, none, rfl, upd_same, nx, ex_made nx nd ne, h, fun _ => s, nofun, nofun, fun _ => fun H' X => q1 rfl H' (mo nx nd ne X)⟩
    | @every_n x y z D ts h s n =>
      refine ⟨_, rfl, rfl, _, rfl, _, rfl, rfl, _, rfl, _, rfl, _, _, _, _, rfl, rfl, (sq_tup ht), rfl, _, rfl, _, _, _, _, rfl, rfl, (sq_tup ht), rfl, _, rfl, _, _, _, _, rfl, rfl, (sq_tup ht), rfl, fun a dx nx nd ne => ⟨rfl, ?_⟩⟩
      show sp_Every_init K [.ref a, x, y, z] _ _ _
      exact ⟨a, dx, x, y, z, H, some D, some ts, none, rfl, upd_same, nx, ex_made nx nd ne, h, fun _ => s, fun _ _ => n, nofun, fun _ => fun H' X => q1 rfl H' (mo nx nd ne X)⟩
    | @every_w x y z D ts ws h s n w =>
      refine ⟨_, rfl, rfl, _, rfl, _, rfl, rfl, _, rfl, _, rfl, _, _, _, _, rfl, rfl, (sq_tup ht), rfl, _, rfl, _, _, _, _, rfl, rfl, (sq_tup ht), rfl, _, rfl, _, _, _, _, rfl, rfl, (sq_tup ht), rfl, fun a dx nx nd ne => ⟨rfl, ?_⟩⟩
      show sp_Every_init K [.ref a, x, y, z] _ _ _
      exact ⟨a, dx, x, y, z, H, some D, some ts, some ws, rfl, upd_same, nx, ex_made nx nd ne, h, fun _ => s, fun _ _ => n, fun _ ts' _ _ e _ w' => by cases e; obtain ⟨n, hn, hb⟩ := w; exact absurd (w' n hn) hb, fun _ => fun H' X => q1 rfl H' (mo nx nd ne X)⟩
    | @every_k x y z D ts ws h s n w =>
      refine ⟨_, rfl, rfl, _, rfl, _, rfl, rfl, _, rfl, _, rfl, _, _, _, _, rfl, rfl, (sq_tup ht), rfl, _, rfl, _, _, _, _, rfl, rfl, (sq_tup ht), rfl, _, rfl, _, _, _, _, rfl, rfl, (sq_tup ht), rfl, fun a dx nx nd ne => ⟨rfl, ?_⟩⟩
      show sp_Every_init K [.ref a, x, y, z] _ _ _
      exact ⟨a, dx, x, y, z, H, some D, some ts, some ws, rfl, upd_same, nx, ex_made nx nd ne, h, fun _ => s, fun _ _ => n, fun _ _ _ _ _ _ _ => fun H' O _ _ => ⟨rfl, q0 rfl _ H' (mo nx nd ne O)⟩, fun c => by rcases c with c | c | c | c <;> first | cases c | (obtain ⟨n, hn, hb⟩ := c ts rfl; exact absurd (w n hn) hb)⟩
    | @join_n x r h w =>
      refine ⟨_, rfl, rfl, _, rfl, _, rfl, rfl, _, rfl, _, rfl, rfl, _, rfl, _, rfl, _, _, _, _, rfl, rfl, (sq_tup ht), rfl, fun a dx nx nd ne => ?_⟩
      show sp_Join_init K [.ref a, x] _ _ _
      exact ⟨a, dx, x, H, r, rfl, upd_same, nx, ex_made nx nd ne, h, fun cs e n l => by rcases w cs e with c | c <;> first | exact absurd c n | omega, fun _ => fun H' X => q1 rfl H' (mo nx nd ne X)⟩
    | @join_k x cs h n w =>
      refine ⟨_, rfl, rfl, _, rfl, _, rfl, rfl, _, rfl, _, rfl, rfl, _, rfl, _, rfl, _, _, _, _, rfl, rfl, (sq_tup ht), rfl, fun a dx nx nd ne => ?_⟩
      show sp_Join_init K [.ref a, x] _ _ _
      exact ⟨a, dx, x, H, some cs, rfl, upd_same, nx, ex_made nx nd ne, h, fun _ _ _ _ _ _ _ H' _ _ _ O _ _ _ => ⟨rfl, q0 rfl _ H' (mo nx nd ne O)⟩, fun c => by rcases c cs rfl with c | c <;> first | exact absurd c n | omega⟩
    | @less_n x y r1 r2 h s w =>
      refine ⟨_, rfl, rfl, _, rfl, _, rfl, rfl, _, rfl, _, rfl, rfl, _, rfl, _, rfl, rfl, _, rfl, _, rfl, _, _, _, _, rfl, rfl, (sq_tup ht), rfl, _, rfl, _, _, _, _, rfl, rfl, (sq_tup ht), rfl, fun a dx nx nd ne => ?_⟩
      show sp_Less_init K [.ref a, x, y] _ _ _
      exact ⟨a, dx, x, y, H, r1, r2, rfl, upd_same, nx, ex_made nx nd ne, h, s, fun c d e1 e2 l => by have := w c d e1 e2; omega, fun _ => fun H' X => q1 rfl H' (mo nx nd ne X)⟩
    | @swap_n x z y r1 r2 rd h s w =>
      refine ⟨_, rfl, rfl, _, rfl, _, rfl, rfl, _, rfl, _, rfl, rfl, _, rfl, _, rfl, rfl, _, rfl, _, rfl, rfl, _, rfl, _, rfl, _, _, _, _, rfl, rfl, (sq_tup ht), rfl, _, rfl, _, _, _, _, rfl, rfl, (sq_tup ht), rfl, _, rfl, _, _, _, _, rfl, rfl, (sq_tup ht), rfl, fun a dx nx nd ne => ?_⟩
      show sp_Swap_init K [.ref a, x, z, y] _ _ _
      exact ⟨a, dx, x, z, y, H, r1, r2, rd, rfl, upd_same, nx, ex_made nx nd ne, h, s, fun c d D e1 e2 e3 l => by have := w c d D e1 e2 e3; omega, fun _ => fun H' X => q1 rfl H' (mo nx nd ne X)⟩
    | @later_n x y r1 rm h s w =>
      refine ⟨_, rfl, rfl, _, rfl, _, rfl, rfl, _, rfl, _, rfl, rfl, _, rfl, _, rfl, rfl, _, rfl, _, rfl, rfl, _, rfl, _, rfl, rfl, _, rfl, _, rfl, _, _, _, _, rfl, rfl, (sq_tup ht), rfl, _, rfl, _, _, _, _, rfl, rfl, (sq_tup ht), rfl, fun a dx nx nd ne => ⟨rfl, ?_⟩⟩
      show sp_Later_init K [.ref a, x, y] _ _ _
      exact ⟨a, dx, x, y, H, r1, rm, rfl, upd_same, nx, ex_made nx nd ne, h, s, fun c m e1 e2 l => by have := w c m e1 e2; omega, fun _ => fun H' X => q1 rfl H' (mo nx nd ne X)⟩
    | @later_k x y c m h s w =>
      refine ⟨_, rfl, rfl, _, rfl, _, rfl, rfl, _, rfl, _, rfl, rfl, _, rfl, _, rfl, rfl, _, rfl, _, rfl, rfl, _, rfl, _, rfl, rfl, _, rfl, _, rfl, _, _, _, _, rfl, rfl, (sq_tup ht), rfl, _, rfl, _, _, _, _, rfl, rfl, (sq_tup ht), rfl, fun a dx nx nd ne => ⟨rfl, ?_⟩⟩
      show sp_Later_init K [.ref a, x, y] _ _ _
      exact ⟨a, dx, x, y, H, some c, some m, rfl, upd_same, nx, ex_made nx nd ne, h, fun _ => s, fun _ _ _ _ _ _ H' O _ _ _ _ => ⟨rfl, q0 rfl _ H' (mo nx nd ne O)⟩, fun l => by have := l c m rfl rfl; omega⟩
    | @noted_n x y r1 rn h s w =>
      refine ⟨_, rfl, rfl, _, rfl, _, rfl, rfl, _, rfl, _, rfl, rfl, _, rfl, _, rfl, rfl, _, rfl, _, rfl, rfl, _, rfl, _, rfl, rfl, _, rfl, _, rfl, rfl, _, rfl, _, rfl, _, _, _, _, rfl, rfl, (sq_tup ht), rfl, _, rfl, _, _, _, _, rfl, rfl, (sq_tup ht), rfl, fun a dx nx nd ne => ?_⟩
      show sp_Noted_init K [.ref a, x, y] _ _ _
      exact ⟨a, dx, x, y, H, r1, rn, rfl, upd_same, nx, ex_made nx nd ne, h, s, fun c z e1 e2 l => by have := w c z e1 e2; omega, fun _ => fun H' X => q1 rfl H' (mo nx nd ne X)⟩
    | @as_n x h =>
      refine ⟨_, rfl, rfl, _, rfl, _, rfl, rfl, _, rfl, _, rfl, rfl, _, rfl, _, rfl, rfl, _, rfl, _, rfl, rfl, _, rfl, _, rfl, rfl, _, rfl, _, rfl, rfl, _, rfl, _, rfl, rfl, _, rfl, _, rfl, _, _, _, _, rfl, rfl, (sq_tup ht), rfl, fun a dx nx nd ne => ?_⟩
      show sp_As_init K [.ref a, x] _ _ _
      exact ⟨a, dx, x, H, none, rfl, upd_same, nx, ex_made nx nd ne, h, nofun, fun _ => fun H' X => q1 rfl H' (mo nx nd ne X)⟩
    | @as_k x z h =>
      refine ⟨_, rfl, rfl, _, rfl, _, rfl, rfl, _, rfl, _, rfl, rfl, _, rfl, _, rfl, rfl, _, rfl, _, rfl, rfl, _, rfl, _, rfl, rfl, _, rfl, _, rfl, rfl, _, rfl, _, rfl, rfl, _, rfl, _, rfl, _, _, _, _, rfl, rfl, (sq_tup ht), rfl, fun a dx nx nd ne => ?_⟩
      show sp_As_init K [.ref a, x] _ _ _
      exact ⟨a, dx, x, H, some z, rfl, upd_same, nx, ex_made nx nd ne, h, fun _ _ _ H' O _ _ _ _ => ⟨rfl, q0 rfl _ H' (mo nx nd ne O)⟩, nofun⟩
    | @at_c x y h =>
      refine ⟨_, rfl, rfl, _, rfl, _, rfl, rfl, _, rfl, _, rfl, rfl, _, rfl, _, rfl, rfl, _, rfl, _, rfl, rfl, _, rfl, _, rfl, rfl, _, rfl, _, rfl, rfl, _, rfl, _, rfl, rfl, _, rfl, _, rfl, rfl, ?_⟩
      rw [show decide (V.str (Str.ofString "at") = V.str (Str.ofString "at")) = true from rfl]
      refine ⟨_, rfl, ?_⟩
      dsimp only
      rw [if_pos rfl]
      refine ⟨_, rfl, _, _, _, _, rfl, rfl, (sq_tup ht), rfl, _, rfl, _, _, _, _, rfl, rfl, (sq_tup ht), rfl, ?_⟩
      exact ⟨_, _, _, rfl, h, fun _ H' X => q1 rfl H' X, nofun⟩
    | @at_t x y h c m =>
      refine ⟨_, rfl, rfl, _, rfl, _, rfl, rfl, _, rfl, _, rfl, rfl, _, rfl, _, rfl, rfl, _, rfl, _, rfl, rfl, _, rfl, _, rfl, rfl, _, rfl, _, rfl, rfl, _, rfl, _, rfl, rfl, _, rfl, _, rfl, rfl, ?_⟩
      rw [show decide (V.str (Str.ofString "at") = V.str (Str.ofString "at")) = true from rfl]
      refine ⟨_, rfl, ?_⟩
      dsimp only
      rw [if_pos rfl]
      refine ⟨_, rfl, _, _, _, _, rfl, rfl, (sq_tup ht), rfl, _, rfl, _, _, _, _, rfl, rfl, (sq_tup ht), rfl, ?_⟩
      exact ⟨_, _, _, rfl, h, nofun, fun _ => ⟨c, m, fun H' X => q2 rfl H' X⟩⟩
    | @on_c x y h =>
      refine ⟨_, rfl, rfl, _, rfl, _, rfl, rfl, _, rfl, _, rfl, rfl, _, rfl, _, rfl, rfl, _, rfl, _, rfl, rfl, _, rfl, _, rfl, rfl, _, rfl, _, rfl, rfl, _, rfl, _, rfl, rfl, _, rfl, _, rfl, rfl, ?_⟩
      rw [show decide (V.str (Str.ofString "on") = V.str (Str.ofString "at")) = false from rfl]
      refine ⟨_, rfl, ?_⟩
      dsimp only
      rw [if_neg (by nofun)]
      refine ⟨_, rfl, _, _, _, _, rfl, rfl, (sq_tup ht), rfl, _, rfl, _, _, _, _, rfl, rfl, (sq_tup ht), rfl, ?_⟩
      exact ⟨_, _, _, rfl, h, fun _ H' X => q1 rfl H' X, nofun⟩
    | @on_t x y h c m =>
      refine ⟨_, rfl, rfl, _, rfl, _, rfl, rfl, _, rfl, _, rfl, rfl, _, rfl, _, rfl, rfl, _, rfl, _, rfl, rfl, _, rfl, _, rfl, rfl, _, rfl, _, rfl, rfl, _, rfl, _, rfl, rfl, _, rfl, _, rfl, rfl, ?_⟩
      rw [show decide (V.str (Str.ofString "on") = V.str (Str.ofString "at")) = false from rfl]
      refine ⟨_, rfl, ?_⟩
      dsimp only
      rw [if_neg (by nofun)]
      refine ⟨_, rfl, _, _, _, _, rfl, rfl, (sq_tup ht), rfl, _, rfl, _, _, _, _, rfl, rfl, (sq_tup ht), rfl, ?_⟩
      exact ⟨_, _, _, rfl, h, nofun, fun _ => ⟨c, m, fun H' X => q2 rfl H' X⟩⟩
theorem ok__law_done {P : Program} {w : World} {K : PySem.W.Frag} {mg : Str → Option Value} {base : Heap} (T : Env K mg) : Fc P w K mg base 107 (He.ga K "_law_done") [] (sp__law_done K ) := by
  obtain ⟨fd, D, F⟩ := fb__law_done T
  exact F.all (D.bindsN fun _ _ _ _ _ _ us hl => match us, hl with | [_, _], _ => rfl)
end
section
def dnW (w : Nat) : Str := if w = 0 then "done" else if w = 1 then "nocard" else "notime"
def sp__law_tried (K : PySem.W.Frag) : Sp := fun vs H Q _ => ∃ (t : Addr) (s : String) (xs : List V) (w : Nat), vs = [.str (Str.ofString s), .ref t] ∧ H t = some (.tup xs) ∧ DnX K H s xs w ∧ w ≤ 2 ∧ ∀ H', Ex H H' → Q (.str (dnW w)) H'
theorem fb__law_tried {P : Program} {w : World} {K : PySem.W.Frag} {mg : Str → Option Value} {base : Heap} (T : Env K mg) : ∃ fd, FunD K "_law_tried" "_law_tried" (defArgs s__law_tried) (defBody s__law_tried) (defScope s__law_tried) [] [] (He.ga K "_law_tried") fd ∧ Fb P w K mg base 108 (He.ga K "_law_tried") fd ["_law_sort", "_law_things"] (sp__law_tried K) := by
  obtain ⟨fd, F⟩ := T.f__law_tried
  refine ⟨fd, F, fb_of F sc__law_tried (fun vs H Q E h => ?_) (fun cdv A outer s H vs Q E hr h => ?_)⟩
  · obtain ⟨t, s, xs, w, rfl, _⟩ := h
    rfl
  · obtain ⟨t, s, xs, w, rfl, ht, hd, hw, q⟩ := h
    refine ⟨_, (pss_cons (ps_set (i := 2) sc__law_tried.nd rfl (Or.inl rfl) pe_str)
      (pss_cons (ps_try_fst (i := 3) rfl rfl sc__law_tried.nd rfl rfl ⟨by rfl, by decide, .inl T.g_GoingError⟩ (fun W pn xe tk po => (pss_one (ps_expr (c_call (ok__law_done T) (hr.mono (by decide)) T.g__law_done T.k__law_done tk (pa_cons (pv 0) (pa_cons (pv 1) pa_nil)))))) (fun a oe cls d pn hz hf => (pss_one (ps_set (i := 2) sc__law_tried.nd rfl (Or.inl rfl) (c_callP (ok__law_word T) (roomM (hr.mono (by decide))) List.mem_cons_self hz hf T.g__law_word T.k__law_word takes0 (pa_cons (pv 3) pa_nil))))))
      (pss_one (ps_ret (pv 2))))), ?_⟩
    refine ⟨_, rfl, _, rfl, ?_⟩
    try dsimp only [tNil]
    refine ⟨t, s, xs, w, rfl, ht, hd, fun e v H' X => ?_, fun e H' X => ?_, fun e H' X => ?_⟩
    · subst e
      exact ⟨_, rfl, q H' X⟩
    · subst e
      refine ⟨T.exm_NoCard_GoingError, fun y ny => ?_⟩
      exact ⟨_, rfl, fun oe hz hf => ⟨_, false, rfl, rfl, hz, hf, fun H3 X3 => ⟨_, rfl, q _ (X.trans X3)⟩⟩⟩
    · subst e
      refine ⟨T.exm_NoTime_GoingError, fun y ny => ?_⟩
      exact ⟨_, rfl, fun oe hz hf => ⟨_, true, rfl, rfl, hz, hf, fun H3 X3 => ⟨_, rfl, q _ (X.trans X3)⟩⟩⟩
theorem ok__law_tried {P : Program} {w : World} {K : PySem.W.Frag} {mg : Str → Option Value} {base : Heap} (T : Env K mg) : Fc P w K mg base 108 (He.ga K "_law_tried") [] (sp__law_tried K ) := by
  obtain ⟨fd, D, F⟩ := fb__law_tried T
  exact F.all (D.bindsN fun _ _ _ _ _ _ us hl => match us, hl with | [_, _], _ => rfl)
end
section
def RowAt (K : PySem.W.Frag) (H0 H : Hp) (w : Nat) (v : V) : Prop := ∃ (r : Addr) (s : String) (xs : List V), v = .ref r ∧ H r = some (.tup (.str (Str.ofString s) :: xs)) ∧ DnX K H0 s xs w
def RowsAt (K : PySem.W.Frag) (H0 H : Hp) (w : Nat) (vs : List V) : Prop := ∀ v ∈ vs, RowAt K H0 H w v
theorem RowAt.mono {K : PySem.W.Frag} {H0 H H0' H' : Hp} {w : Nat} {v : V} (h : RowAt K H0 H w v) (e0 : Ex H0 H0') (e : Ex H H') : RowAt K H0' H' w v := by
  obtain ⟨r, s, xs, rfl, h1, h2⟩ := h
  exact ⟨r, s, xs, rfl, e _ _ h1, h2.mono e0⟩
theorem RowsAt.mono {K : PySem.W.Frag} {H0 H H0' H' : Hp} {w : Nat} {vs : List V} (h : RowsAt K H0 H w vs) (e0 : Ex H0 H0') (e : Ex H H') : RowsAt K H0' H' w vs := fun v hv => (h v hv).mono e0 e
theorem RowsAt.app {K : PySem.W.Frag} {H0 H : Hp} {w : Nat} {vs us : List V} (h : RowsAt K H0 H w vs) (k : RowsAt K H0 H w us) : RowsAt K H0 H w (vs ++ us) := fun v hv => (List.mem_append.mp hv).elim (h v) (k v)
theorem upd_updR {G : Hp} {D : Addr} {o u : HO} : upd (upd G D o) D u = upd G D u := funext fun b => by
  by_cases c : b = D
  · subst c
    rw [upd_same, upd_same]
  · rw [upd_ne c, upd_ne c, upd_ne c]
theorem upd_selfR {G : Hp} {D : Addr} {o : HO} (h : G D = some o) : upd G D o = G := funext fun b => by
  by_cases c : b = D
  · subst c
    rw [upd_same, h]
  · rw [upd_ne c]
/-- a comprehension that makes rows -/
theorem lc_rows {K : PySem.W.Frag} {J : It} {Gd Qd : Hp → Prop} {G0 : Hp} {D : Addr} {xs : List V} {wd : Nat} {g : TG} {tt : TT} {te : TE} {vs : List Nat} {σ : L2.St} (nD : G0 D = none) (w : L2.Walk J xs.length Gd (L2.YAt xs)) (hG : ∀ H, Ex G0 H → Gd H) (hn : xs.length ≤ 2000)
    (hs : ∀ (x : V) (H : Hp) (acc : List V) (N : Hp → Prop), x ∈ xs → Ex G0 H → H D = some (.lst acc) → acc.length < sizeLine → (∀ r s zs H4, Ex H H4 → H4 r = some (.tup (.str (Str.ofString s) :: zs)) → DnX K G0 s zs wd → N (upd H4 D (.lst (acc ++ [.ref r])))) → Turn g tt te vs σ D x H N)
    (hd : ∀ ys H, Ex G0 H → ys.length ≤ xs.length → RowsAt K G0 H wd ys → H D = some (.lst ys) → Qd H) :
    ∃ W : Nat → Nat → Hp → Prop, (∃ m, W 0 m (upd G0 D (.lst []))) ∧ ∀ i m H, W i m H →
      (J.stop i H ∧ Qd H) ∨ (J.go i H ∧ ∃ Nx : Hp → Prop, (∀ H', Nx H' → ∃ m', m' < m ∧ W (i + 1) m' H') ∧ ∀ x H', J.yld i H x H' → Turn g tt te vs σ D x H' Nx) := by
  refine lc_any w (fun i acc G => Ex G0 G ∧ acc.length = i ∧ ∀ ys, RowsAt K G0 (upd G D (.lst ys)) wd acc) (fun i acc H l h => ⟨ex_mut h.1 nD, h.2.1, fun ys => by rw [upd_updR]; exact h.2.2 ys⟩) ⟨.refl _, rfl, fun _ => nofun⟩ (by omega) (fun i acc H h => by rw [h.2.1]; exact Nat.le_refl _) (fun i acc H h => hG H h.1) ?_ ?_
  · rintro i x H H' acc N hi ⟨X, la, hN⟩ hD ls ⟨rfl, hx⟩ k _
    refine hs x H' acc N (List.mem_of_getElem? hx) X hD ls fun r s zs H4 X4 hr hd => ?_
    have nr : r ≠ D := fun z => by
      have h5 := X4 _ _ hD
      rw [← z, hr] at h5
      cases h5
    refine k _ H4 (X4 _ _ hD) ⟨X.trans X4, by rw [List.length_append, la]; rfl, fun ys v hv => ?_⟩
    rcases List.mem_append.mp hv with hv | hv
    · obtain ⟨r2, s2, z2, rfl, h1, h2⟩ := hN ys v hv
      have n2 : r2 ≠ D := fun z => by
        rw [z, upd_same] at h1
        cases h1
      rw [upd_ne n2] at h1
      exact ⟨r2, s2, z2, rfl, by rw [upd_ne n2]; exact X4 _ _ h1, h2⟩
    · rw [List.mem_singleton.mp hv]
      exact ⟨r, s, zs, rfl, by rw [upd_ne nr]; exact hr, hd⟩
  · rintro acc H ⟨X, la, hN⟩ hD
    refine hd acc H X (by omega) ?_ hD
    have := hN acc
    rwa [upd_selfR hD] at this
theorem allc {α : Type} {P : α → Prop} {x : α} {xs : List α} (h : P x) (r : ∀ y ∈ xs, P y) : ∀ y ∈ x :: xs, P y := List.forall_mem_cons.mpr ⟨h, r⟩
theorem alln {α : Type} {P : α → Prop} : ∀ y ∈ ([] : List α), P y := nofun
theorem sp_none {K : PySem.W.Frag} {H : Hp} {x : V} {t : Value} (ty : TyX K H x t) (k : PySem.W.kitOne K t (.ref (SpreadC K)) = some false) : SpIs K H x none := ⟨t, ty, k⟩
theorem dy_none {K : PySem.W.Frag} {H : Hp} {x : V} {t : Value} (ty : TyX K H x t) (k : PySem.W.kitOne K t (.ref (DaysC K)) = some false) : DyIs K H x none := ⟨t, ty, k⟩
theorem cd_none {K : PySem.W.Frag} {H : Hp} {x : V} {t : Value} (ty : TyX K H x t) (k : PySem.W.kitOne K t (.ref (CardC K)) = some false) : CdX K H x none := ⟨t, ty, k⟩
/-- the card is a Once or an Every -/
def Leaf : CardD → Prop
  | .once _ _ => True
  | .every _ _ _ => True
  | _ => False
theorem leaf_no {K : PySem.W.Frag} {mg : Str → Option Value} (T : Env K mg) {H : Hp} {c : CardD} {a : Addr} (h : CardAt K H c a) (hl : Leaf c) : SpIs K H (.ref a) none ∧ DyIs K H (.ref a) none := by
  cases c with
  | once ts ws =>
    unfold CardAt at h
    obtain ⟨dx, hd, s, nt, ow, h1, _⟩ := h
    exact ⟨sp_none (ty_ins T.i_Once T.c_Once h1) T.kit_Once_Spread, dy_none (ty_ins T.i_Once T.c_Once h1) T.kit_Once_Days⟩
  | every D ts ws =>
    unfold CardAt at h
    obtain ⟨dx, hd, r, s, nt, ow, h1, _⟩ := h
    exact ⟨sp_none (ty_ins T.i_Every T.c_Every h1) T.kit_Every_Spread, dy_none (ty_ins T.i_Every T.c_Every h1) T.kit_Every_Days⟩
  | _ => exact hl.elim
theorem clS_int {K : PySem.W.Frag} {H : Hp} {i : Int} : ClS K H (.int i) := .inr ⟨nofun, _, .base (.int _), kit_ty (by decide +kernel)⟩
theorem clS_bl {K : PySem.W.Frag} {H : Hp} {i : Bool} : ClS K H (.bl i) := .inr ⟨nofun, _, .base (.bl _), kit_ty (by decide +kernel)⟩
theorem clS_non {K : PySem.W.Frag} {H : Hp} : ClS K H .non := .inr ⟨nofun, _, .base .non, kit_ty (by decide +kernel)⟩
theorem clS_lst {K : PySem.W.Frag} {H : Hp} {a : Addr} {xs : List V} (h : H a = some (.lst xs)) : ClS K H (.ref a) := .inr ⟨nofun, _, .base (.lst h), kit_ty (by decide +kernel)⟩
theorem clS_tup {K : PySem.W.Frag} {H : Hp} {a : Addr} {xs : List V} (h : H a = some (.tup xs)) : ClS K H (.ref a) := .inr ⟨nofun, _, .base (.tup h), kit_ty (by decide +kernel)⟩
theorem clS_dK {K : PySem.W.Frag} {H : Hp} {a : Addr} {xs : List (Key × V)} (h : H a = some (.dK xs)) : ClS K H (.ref a) := .inr ⟨nofun, _, .base (.dK h), kit_ty (by decide +kernel)⟩
theorem clS_str {K : PySem.W.Frag} {H : Hp} {z : Str} (l : z.length ≤ 10000) : ClS K H (.str z) := .inl ⟨z, rfl, l⟩
theorem nt_badS {K : PySem.W.Frag} {H : Hp} {a : Addr} {xs : List V} (hx : H a = some (.lst xs) ∨ H a = some (.tup xs)) (l : xs.length ≤ 1000) (hc : ∀ v ∈ xs, ClS K H v) (hb : xs.all isNm = false) : NtX K H (.ref a) none := by
  refine .inr (.inl ⟨a, xs, rfl, hx, l, hc, ?_⟩)
  unfold notesR
  rw [hb]
  rfl
theorem nm_len {z : Str} (h : nmN z.cps.toList = true) : z.length ≤ 10000 := by
  have h2 := (nm_facts h).2.1
  have h3 : z.length = z.cps.toList.length := rfl
  omega
theorem nms_two {z : Str} (h : nmN z.cps.toList = true) : Nms [z, z] := fun y hy => by
  simp only [List.mem_cons, List.not_mem_nil, or_false, or_self] at hy
  rw [hy]
  exact h
theorem shsR {K : PySem.W.Frag} {H : Hp} {a : Addr} {t : Tr} (h : ShAt K H t a) : ShsAt K H [t] [a] := by
  unfold ShsAt
  exact ⟨a, [], rfl, h, by unfold ShsAt; rfl⟩
theorem len_app {α : Type} {xs ys : List α} {a b : Nat} (h : xs.length ≤ a) (k : ys.length ≤ b) : (xs ++ ys).length ≤ a + b := by
  rw [List.length_append]
  omega
theorem sz_app {α : Type} {xs ys : List α} {a b : Nat} (h : xs.length ≤ a) (k : ys.length ≤ b) (c : a + b ≤ 100000) : xs.length + ys.length ≤ sizeLine := by
  rw [sizeLine_eq]
  omega
theorem ex_updD {G G' : Hp} {D : Addr} {o : HO} (e : Ex G G') : Ex (upd G D o) (upd G' D o) := fun b u h => by
  by_cases c : b = D
  · subst c
    rw [upd_same] at h ⊢
    exact h
  · rw [upd_ne c] at h ⊢
    exact e _ _ h
/-- a comprehension that makes rows with things made in the turn -/
theorem lc_rowsN {K : PySem.W.Frag} {J : It} {Gd Qd : Hp → Prop} {G0 : Hp} {D : Addr} {xs : List V} {wd : Nat} {g : TG} {tt : TT} {te : TE} {vs : List Nat} {σ : L2.St} (nD : G0 D = none) (w : L2.Walk J xs.length Gd (L2.YAt xs)) (hG : ∀ H, Ex G0 H → Gd H) (hn : xs.length ≤ 2000)
    (hs : ∀ (x : V) (H : Hp) (acc : List V) (N : Hp → Prop), x ∈ xs → Ex G0 H → H D = some (.lst acc) → acc.length < sizeLine → (∀ r s zs H4, Ex H H4 → H4 r = some (.tup (.str (Str.ofString s) :: zs)) → (∀ ys, DnX K (upd H4 D (.lst ys)) s zs wd) → N (upd H4 D (.lst (acc ++ [.ref r])))) → Turn g tt te vs σ D x H N)
    (hd : ∀ ys H, Ex G0 H → ys.length ≤ xs.length → RowsAt K H H wd ys → H D = some (.lst ys) → Qd H) :
    ∃ W : Nat → Nat → Hp → Prop, (∃ m, W 0 m (upd G0 D (.lst []))) ∧ ∀ i m H, W i m H →
      (J.stop i H ∧ Qd H) ∨ (J.go i H ∧ ∃ Nx : Hp → Prop, (∀ H', Nx H' → ∃ m', m' < m ∧ W (i + 1) m' H') ∧ ∀ x H', J.yld i H x H' → Turn g tt te vs σ D x H' Nx) := by
  refine lc_any w (fun i acc G => Ex G0 G ∧ acc.length = i ∧ ∀ ys, RowsAt K (upd G D (.lst ys)) (upd G D (.lst ys)) wd acc) (fun i acc H l h => ⟨ex_mut h.1 nD, h.2.1, fun ys => by rw [upd_updR]; exact h.2.2 ys⟩) ⟨.refl _, rfl, fun _ => nofun⟩ (by omega) (fun i acc H h => by rw [h.2.1]; exact Nat.le_refl _) (fun i acc H h => hG H h.1) ?_ ?_
  · rintro i x H H' acc N hi ⟨X, la, hN⟩ hD ls ⟨rfl, hx⟩ k _
    refine hs x H' acc N (List.mem_of_getElem? hx) X hD ls fun r s zs H4 X4 hr hd => ?_
    have nr : r ≠ D := fun z => by
      have h5 := X4 _ _ hD
      rw [← z, hr] at h5
      cases h5
    refine k _ H4 (X4 _ _ hD) ⟨X.trans X4, by rw [List.length_append, la]; rfl, fun ys v hv => ?_⟩
    rcases List.mem_append.mp hv with hv | hv
    · exact (hN ys v hv).mono (ex_updD X4) (ex_updD X4)
    · rw [List.mem_singleton.mp hv]
      exact ⟨r, s, zs, rfl, by rw [upd_ne nr]; exact hr, hd ys⟩
  · rintro acc H ⟨X, la, hN⟩ hD
    refine hd acc H X (by omega) ?_ hD
    have := hN acc
    rwa [upd_selfR hD] at this
theorem jn_none {K : PySem.W.Frag} {H : Hp} {x : V} {t : Value} (ty : TyX K H x t) (h1 : PySem.W.kitOne K t (.type "list") = some false) (h2 : PySem.W.kitOne K t (.type "tuple") = some false) : DnX K H "join" [x] 1 :=
  .join_n (r := none) (.inr ⟨t, ty, kitAny_cons (b := false) h1 (fun _ => kitAny_cons (b := false) h2 (fun _ => kitAny_nil) (by decide)) (by decide), rfl⟩) nofun
theorem jn_nil {K : PySem.W.Frag} {H : Hp} {a : Addr} (h : SqA H a []) : DnX K H "join" [.ref a] 1 :=
  .join_n (r := some []) (.inl ⟨a, [], [], rfl, h, by decide, .nil, rfl⟩) fun cs e => .inl (by cases e; rfl)
theorem allO_none {α : Type} : ∀ {rs : List (Option α)}, none ∈ rs → allO rs = none
  | none :: _, _ => rfl
  | some x :: r, h => by
    show (allO r).map _ = none
    rw [allO_none ((List.mem_cons.mp h).elim (fun z => absurd z (by simp)) id)]
    rfl
theorem pr_app {α β : Type} {P : α → β → Prop} {xs us : List α} {ys vs : List β} (h : Paired P xs ys) (k : Paired P us vs) : Paired P (xs ++ us) (ys ++ vs) := by
  induction h with
  | nil => exact k
  | cons h1 _ ih => exact .cons h1 ih
theorem pr_rep {α β : Type} {P : α → β → Prop} {x : α} {y : β} (h : P x y) : ∀ n, Paired P (List.replicate n x) (List.replicate n y)
  | 0 => .nil
  | n + 1 => .cons h (pr_rep h n)
theorem rep_one {α : Type} {x : α} : ∀ n, (List.replicate n [x]).flatten = List.replicate n x
  | 0 => rfl
  | n + 1 => by
    rw [List.replicate_succ, List.flatten_cons, rep_one n]
    rfl
theorem jn_mix {K : PySem.W.Frag} {H : Hp} {p : Addr} {x b : V} {c : CardD} {n m : Nat} (h : SqA H p (List.replicate n b ++ [x] ++ List.replicate m b)) (hn : n + m ≤ 10) (hb : CdX K H b (some c)) (hx : CdX K H x none) : DnX K H "join" [.ref p] 1 :=
  .join_n (r := none) (.inl ⟨p, _, List.replicate n (some c) ++ [none] ++ List.replicate m (some c), rfl, h, by simp only [List.length_append, List.length_replicate, List.length_cons, List.length_nil]; omega, pr_app (pr_app (pr_rep hb n) (.cons hx .nil)) (pr_rep hb m), (allO_none (by simp)).symm⟩) nofun
theorem leaf_jn {K : PySem.W.Frag} {mg : Str → Option Value} (T : Env K mg) {H : Hp} {c : CardD} {a : Addr} (h : CardAt K H c a) (hl : Leaf c) : DnX K H "join" [.ref a] 1 := by
  cases c with
  | once ts ws =>
    unfold CardAt at h
    obtain ⟨dx, hd, s, nt, ow, h1, _⟩ := h
    exact jn_none (ty_ins T.i_Once T.c_Once h1) T.kit_Once_list T.kit_Once_tuple
  | every D ts ws =>
    unfold CardAt at h
    obtain ⟨dx, hd, r, s, nt, ow, h1, _⟩ := h
    exact jn_none (ty_ins T.i_Every T.c_Every h1) T.kit_Every_list T.kit_Every_tuple
  | _ => exact hl.elim
theorem repH {K : PySem.W.Frag} {H : Hp} {l : Addr} {k : Nat} {xs : List V} {Q : VK} (hT : H l = some (.tup xs)) (hn : xs ≠ []) (hk : k ≤ 1000) (hz : xs.length ≤ 1000) (q : ∀ p H', Ex H H' → H' p = some (.tup (List.replicate k xs).flatten) → Q (.ref p) H') : rRepA K (.ref l) (.int (k : Nat)) H Q :=
  repA_of (sq_tup hT) hn hk hz (fun e => q l H (.refl _) (by subst e; rw [hT]; simp)) fun e p np => q p _ (ex_new np) upd_same
theorem catH {K : PySem.W.Frag} {H : Hp} {a b : Addr} {xs ys : List V} {Q : VK} (ha : H a = some (.tup xs)) (hb : H b = some (.tup ys)) (hz : xs.length + ys.length ≤ sizeLine) (q : ∀ p H', Ex H H' → H' p = some (.tup (xs ++ ys)) → Q (.ref p) H') : rCatA K (.ref a) (.ref b) H Q :=
  ⟨a, b, xs, ys, rfl, rfl, sq_tup ha, sq_tup hb, hz, fun e => q b H (.refl _) (by subst e; exact hb), fun _ e => q a H (.refl _) (by subst e; rw [List.append_nil]; exact ha), fun _ _ p np => q p _ (ex_new np) upd_same⟩
theorem mn_ok {K : PySem.W.Frag} {H : Hp} {m : Nat} (h : m ≤ 10080) : MnIs K H (.int (m : Nat)) (some m) := ⟨rfl, h⟩
theorem mn_no {K : PySem.W.Frag} {H : Hp} {y : V} (h : Cl K H y) (n : ∀ m : Nat, y = .int (m : Nat) → 10080 < m) : MnIs K H y none := ⟨h, n⟩
theorem goc {K : PySem.W.Frag} {H : Hp} {z : String} {x y : V} (hz : z = "at" ∨ z = "on") (h : CdIs K H x false) : DnX K H z [x, y] 1 := by
  rcases hz with rfl | rfl
  · exact .at_c h
  · exact .on_c h
theorem got {K : PySem.W.Frag} {H : Hp} {z : String} {x y : V} (hz : z = "at" ∨ z = "on") (h : CdIs K H x true) (c : Cl K H y) (m : isM y = false) : DnX K H z [x, y] 2 := by
  rcases hz with rfl | rfl
  · exact .at_t h c m
  · exact .on_t h c m
theorem sort_in {z : String} {i : Nat} (h : ["at", "on"][i]? = some z) : z = "at" ∨ z = "on" := by
  have := List.mem_of_getElem? h
  simpa using this
end
section
def sp__law_all (K : PySem.W.Frag) : Sp := fun vs H Q _ => ∃ (t : Addr) (vr : List V) (w : Nat) (H0 : Hp), vs = [.ref t, .str (dnW w)] ∧ H t = some (.lst vr) ∧ Ex H0 H ∧ RowsAt K H0 H w vr ∧ w ≤ 2 ∧ vr.length ≤ 900 ∧ ∀ H', Ex H H' → Q (.bl true) H'
theorem fb__law_all {P : Program} {w : World} {K : PySem.W.Frag} {mg : Str → Option Value} {base : Heap} (T : Env K mg) : ∃ fd, FunD K "_law_all" "_law_all" (defArgs s__law_all) (defBody s__law_all) (defScope s__law_all) [] [] (He.ga K "_law_all") fd ∧ Fb P w K mg base 109 (He.ga K "_law_all") fd ["_law_rows", "_law_word_here"] (sp__law_all K) := by
  obtain ⟨fd, F⟩ := T.f__law_all
  refine ⟨fd, F, fb_of F sc__law_all (fun vs H Q E h => ?_) (fun cdv A outer s H vs Q E hr h => ?_)⟩
  · obtain ⟨t, vr, w, H0, rfl, _⟩ := h
    rfl
  · obtain ⟨t, vr, w, H0, rfl, ht, X0, hR, hw, lv, q⟩ := h
    refine ⟨_, (pss_one (ps_ret (pe_cmpR (op_eqD hr.rm.units) (pe_lc (own := [("_law_row", 2)]) (by rfl) sc__law_all.nd (pi_list (pv 0)) (blkOk_by (own := [("_law_row", 2)]) (N := ["_law_rows", "_law_word_here", "_law_row"]) (sc := defScope s__law_all) (by decide +kernel)) (fun _ _ _ _ _ => (pg_name (i := 2) sc__law_all.nd rfl (Or.inl rfl))) (fun _ _ _ _ _ => (pts_one (pt_cmpR op_ne (c_call (ok__law_tried T) (hr.mono (by decide)) T.g__law_tried T.k__law_tried takes0 (pa_cons (pe_ix (ix_tupK K) (pv 2) pe_int (fun _ _ => rfl)) (pa_cons (pe_slice (show SlR _ (rSlA K) from sl_tupA) (pv 2) (po_some pe_int) po_none) pa_nil))) (pv 1) (nomark _)))) (fun _ _ _ _ _ => (pv 2))) (pe_lst pa_nil) (nomark _)))), ?_⟩
    refine ⟨_, rfl, _, rfl, ⟨_, (sq_lst ht)⟩, ?_⟩
    refine fun D nD => lc_fm (L2.walk_list (xs := vr)) (fun _ => none) (fun H' => Ex H H') (fun H' z e => ex_mut e nD) (.refl H) (by omega) (fun H' e => sq_lst (e _ _ ht)) (fun i x H1 H2 acc N hi e hD la y k => ?_) fun H1 e1 d1 => ?_
    · obtain ⟨rfl, hx⟩ := y
      obtain ⟨r, s, xs, rfl, h1, h2⟩ := hR x (List.mem_of_getElem? hx)
      have h3 := e _ _ h1
      refine ⟨rfl, ?_⟩
      have a0 : atI (V.str (Str.ofString s) :: xs) 0 = some (V.str (Str.ofString s)) := atI_nat (j := 0) rfl
      refine ⟨_, rfl, r, _, _, _, rfl, rfl, (sq_tup h3), a0, _, rfl, ?_⟩
      refine ⟨1, rfl, ?_⟩
      dsimp only [tNoPart]
      refine ⟨r, _, rfl, sq_tup h3, fun hw => absurd hw.1 (by rw [show (some (1 : Int)) = some ((1 : Nat) : Int) from rfl, HT.sIx_nat, List.length_cons]; omega), fun _ p np => ?_⟩
      have X := ex_new (o := HO.tup (cutV (V.str (Str.ofString s) :: xs) (some 1) none)) np
      have hp : upd H2 p (HO.tup (cutV (V.str (Str.ofString s) :: xs) (some 1) none)) p = some (HO.tup (cutV (V.str (Str.ofString s) :: xs) (some 1) none)) := upd_same
      generalize upd H2 p (HO.tup (cutV (V.str (Str.ofString s) :: xs) (some 1) none)) = H' at X hp ⊢
      have ec : cutV (V.str (Str.ofString s) :: xs) (some 1) none = xs := by
        unfold cutV
        rw [HT.sIx_none, show (some (1 : Int)) = some ((1 : Nat) : Int) from rfl, HT.sIx_nat, List.length_cons, Nat.min_eq_left (by omega)]
        exact List.take_length
      rw [ec] at hp
      dsimp only [tNil]
      refine ⟨p, s, xs, w, rfl, hp, h2.mono (((X0.trans e)).trans X), hw, fun H3 X3 => ?_⟩
      refine ⟨_, rfl, rfl, _, rfl, ?_⟩
      have kk := k H3 ((e.trans X).trans X3) (X3 _ _ (X _ _ hD))
      dsimp only at kk
      rw [decide_eq_true rfl]
      exact iteF kk
    · refine ⟨by decide, fun u nu => ?_⟩
      have e0 : (List.range vr.length).filterMap (fun _ => (none : Option V)) = [] := List.filterMap_eq_nil_iff.mpr fun _ _ => rfl
      rw [e0] at d1
      have Xu := ex_new (o := HO.lst []) nu
      exact ⟨.list [], .list [], .lst (sq_lst (Xu _ _ d1)) .nil, .lst (sq_lst upd_same) .nil, by decide, by decide, q _ (e1.trans Xu)⟩
theorem ok__law_all {P : Program} {w : World} {K : PySem.W.Frag} {mg : Str → Option Value} {base : Heap} (T : Env K mg) : Fc P w K mg base 109 (He.ga K "_law_all") [] (sp__law_all K ) := by
  obtain ⟨fd, D, F⟩ := fb__law_all T
  exact F.all (D.bindsN fun _ _ _ _ _ _ us hl => match us, hl with | [_, _], _ => rfl)
end
section
def sp__law_no_moments (K : PySem.W.Frag) : Sp := fun vs H Q _ => ∃ (x0 : V), vs = [x0] ∧ CdIs K H x0 true ∧ ∀ r xs H', Ex H H' → H r = none → H' r = some (.lst xs) → RowsAt K H' H' 2 xs → xs.length ≤ 900 → Q (.ref r) H'
theorem fb__law_no_moments {P : Program} {w : World} {K : PySem.W.Frag} {mg : Str → Option Value} {base : Heap} (T : Env K mg) : ∃ fd, FunD K "_law_no_moments" "_law_no_moments" (defArgs s__law_no_moments) (defBody s__law_no_moments) (defScope s__law_no_moments) [] [] (He.ga K "_law_no_moments") fd ∧ Fb P w K mg base 1 (He.ga K "_law_no_moments") fd ["_law_card"] (sp__law_no_moments K) := by
  obtain ⟨fd, F⟩ := T.f__law_no_moments
  refine ⟨fd, F, fb_of F sc__law_no_moments (fun vs H Q E h => ?_) (fun cdv A outer s H vs Q E hr h => ?_)⟩
  · obtain ⟨x0, rfl, _⟩ := h
    rfl
  · obtain ⟨x0, rfl, hx0, q⟩ := h
    refine ⟨_, (pss_cons (ps_set (i := 1) sc__law_no_moments.nd rfl (Or.inl rfl) (pe_lst pa_nil))
      (pss_cons (ps_for (passes_of rfl) rfl (pi_list (pe_lst (pa_cons pe_str (pa_cons pe_str pa_nil)))) (pg_name (i := 2) sc__law_no_moments.nd rfl (Or.inr rfl))
      (pss_one (ps_set (i := 1) sc__law_no_moments.nd rfl (Or.inl rfl) (pe_op op_cat (pv 1) (pe_lc (own := [("_law_thing", 3)]) (by rfl) sc__law_no_moments.nd (pi_list (pe_lst (pa_cons (pe_un un_neg pe_int) (pa_cons pe_bl (pa_cons pe_bl (pa_cons pe_non (pa_cons pe_str (pa_cons pe_str (pa_cons (pe_tup (pa_cons pe_int pa_nil)) (pa_cons (pe_lst pa_nil) (pa_cons pe_dnewK (pa_cons (pe_un un_neg (pe_op op_pow pe_int pe_int)) pa_nil)))))))))))) (blkOk_by (own := [("_law_thing", 3)]) (N := ["_law_card", "_law_rows", "_law_sort", "_law_thing"]) (sc := defScope s__law_no_moments) (by decide +kernel)) (fun _ _ _ _ _ => (pg_name (i := 3) sc__law_no_moments.nd rfl (Or.inl rfl))) (fun _ _ _ _ _ => pts_nil) (fun _ _ _ _ _ => (pe_tup (pa_cons (pv 2) (pa_cons (pv 0) (pa_cons (pv 3) pa_nil))))))))))
      (pss_one (ps_ret (pv 1))))), ?_⟩
    rw [show (L2.start [Str.ofString "_law_card", Str.ofString "_law_rows", Str.ofString "_law_sort", Str.ofString "_law_thing"] [x0] : L2.St) = [some (x0), none, none, none] from rfl]
    refine ⟨(by show 0 ≤ sizeLine; decide), fun a1 na1 => ?_⟩
    have X1 := ex_new (o := HO.lst []) na1
    have ha1 : upd H a1 (HO.lst []) a1 = some (HO.lst []) := upd_same
    generalize upd H a1 (HO.lst []) = G1 at X1 ha1 ⊢
    dsimp only [gName]
    rw [show (List.set [some (x0), none, none, none] 1 (some (V.ref a1)) : L2.St) = [some (x0), some (V.ref a1), none, none] from rfl]
    refine ⟨(by show 2 ≤ sizeLine; decide), fun a2 na2 => ?_⟩
    have X2 := ex_new (o := HO.lst [V.str (Str.ofString "at"), V.str (Str.ofString "on")]) na2
    have ha2 : upd G1 a2 (HO.lst [V.str (Str.ofString "at"), V.str (Str.ofString "on")]) a2 = some (HO.lst [V.str (Str.ofString "at"), V.str (Str.ofString "on")]) := upd_same
    generalize upd G1 a2 (HO.lst [V.str (Str.ofString "at"), V.str (Str.ofString "on")]) = G2 at X2 ha2 ⊢
    refine ⟨_, rfl, ⟨_, sq_lst ha2⟩, for_on ["at", "on"] (fun z => V.str (Str.ofString z)) L2.walk_list (fun i σ F => Ex G2 F ∧ ∃ (rr : Addr) (ys : List V) (v6 : Option V), σ = [some (x0), some (.ref rr), v6, none] ∧ H rr = none ∧ F rr = some (.lst ys) ∧ RowsAt K F F 2 ys ∧ ys.length ≤ 0 + i * 10) ⟨.refl _, _, _, _, rfl, na1, (X2 _ _ ha1), nofun, (Nat.le_refl 0)⟩ (fun i σ F p => sq_lst (p.1 _ _ ha2)) ?_ ?_⟩
    · rintro i z σ F hz ⟨XF, rr, ys, v6, rfl, nr, hr, hR, ly⟩
      have hs := sort_in hz
      have hi : i < 2 := (List.getElem?_eq_some_iff.mp hz).1
      dsimp only [gName]
      rw [show (List.set [some (x0), some (.ref rr), v6, none] 2 (some (.str (Str.ofString z))) : L2.St) = [some (x0), some (.ref rr), some (.str (Str.ofString z)), none] from rfl]
      refine ⟨_, rfl, ?_⟩
      refine ⟨_, rfl, (by show 1 ≤ sizeLine; decide), fun a3 na3 => ?_⟩
      have X3 := ex_new (o := HO.tup [V.int 5]) na3
      have ha3 : upd F a3 (HO.tup [V.int 5]) a3 = some (HO.tup [V.int 5]) := upd_same
      generalize upd F a3 (HO.tup [V.int 5]) = G3 at X3 ha3 ⊢
      refine ⟨(by show 0 ≤ sizeLine; decide), fun a4 na4 => ?_⟩
      have X4 := ex_new (o := HO.lst []) na4
      have ha4 : upd G3 a4 (HO.lst []) a4 = some (HO.lst []) := upd_same
      generalize upd G3 a4 (HO.lst []) = G4 at X4 ha4 ⊢
      refine fun a5 na5 => ?_
      have X5 := ex_new (o := HO.dK []) na5
      have ha5 : upd G4 a5 (HO.dK []) a5 = some (HO.dK []) := upd_same
      generalize upd G4 a5 (HO.dK []) = G5 at X5 ha5 ⊢
      refine ⟨_, _, rfl, rfl, ⟨by decide, by decide, by decide⟩, ?_⟩
      refine ⟨_, rfl, (by show 10 ≤ sizeLine; decide), fun a6 na6 => ?_⟩
      have X6 := ex_new (o := HO.lst [V.int (-1), V.bl true, V.bl false, V.non, V.str (Str.ofString "5"), V.str (Str.ofString ""), V.ref a3, V.ref a4, V.ref a5, V.int (-(10 : Int) ^ Int.toNat 59)]) na6
      have ha6 : upd G5 a6 (HO.lst [V.int (-1), V.bl true, V.bl false, V.non, V.str (Str.ofString "5"), V.str (Str.ofString ""), V.ref a3, V.ref a4, V.ref a5, V.int (-(10 : Int) ^ Int.toNat 59)]) a6 = some (HO.lst [V.int (-1), V.bl true, V.bl false, V.non, V.str (Str.ofString "5"), V.str (Str.ofString ""), V.ref a3, V.ref a4, V.ref a5, V.int (-(10 : Int) ^ Int.toNat 59)]) := upd_same
      generalize upd G5 a6 (HO.lst [V.int (-1), V.bl true, V.bl false, V.non, V.str (Str.ofString "5"), V.str (Str.ofString ""), V.ref a3, V.ref a4, V.ref a5, V.int (-(10 : Int) ^ Int.toNat 59)]) = G6 at X6 ha6 ⊢
      have n5 : ∀ x ∈ [V.int (-1), V.bl true, V.bl false, V.non, V.str (Str.ofString "5"), V.str (Str.ofString ""), V.ref a3, V.ref a4, V.ref a5, V.int (-(10 : Int) ^ Int.toNat 59)], Cl K G6 x ∧ isM x = false := (allc ⟨cl_int _, rfl⟩ (allc ⟨cl_bl _, rfl⟩ (allc ⟨cl_bl _, rfl⟩ (allc ⟨cl_non, rfl⟩ (allc ⟨cl_str _, rfl⟩ (allc ⟨cl_str _, rfl⟩ (allc ⟨cl_tup ((X4.trans (X5.trans X6)) _ _ ha3), rfl⟩ (allc ⟨cl_lst ((X5.trans X6) _ _ ha4), rfl⟩ (allc ⟨cl_dK (X6 _ _ ha5), rfl⟩ (allc ⟨cl_int _, by decide +kernel⟩ alln))))))))))
      refine ⟨_, rfl, ⟨_, sq_lst ha6⟩, ?_⟩
      refine fun D7 nD7 => lc_rows (K := K) (G0 := G6) (xs := [V.int (-1), V.bl true, V.bl false, V.non, V.str (Str.ofString "5"), V.str (Str.ofString ""), V.ref a3, V.ref a4, V.ref a5, V.int (-(10 : Int) ^ Int.toNat 59)]) (wd := 2) nD7 L2.walk_list (fun H0 e0 => sq_lst (e0 _ _ ha6)) (by show 10 ≤ 2000; decide) (fun x H2 acc N hx X hD la kk => ?_) fun ys7 G7 X7 ly7 hR7 ha7 => ?_
      · refine ⟨rfl, ?_⟩
        simp only [tYes, reduceIte]
        refine ⟨_, rfl, _, rfl, _, rfl, (by show 3 ≤ sizeLine; decide), fun t nt => ⟨acc, ex_new nt _ _ hD, la, ?_⟩⟩
        exact kk t z [x0, x] _ (ex_new nt) upd_same (got hs (hx0.mono ((X1.trans X2).trans (XF.trans (X3.trans (X4.trans (X5.trans X6)))))) (n5 x hx).1 (n5 x hx).2)
      have ly7 : ys7.length ≤ 10 := ly7
      refine ⟨_, _, _, _, rfl, rfl, ((X3.trans (X4.trans (X5.trans (X6.trans X7)))) _ _ hr), ha7, (sz_app ly ly7 (by omega)), fun a8 na8 => ?_⟩
      have X8 := ex_new (o := HO.lst (ys ++ ys7)) na8
      have ha8 : upd G7 a8 (HO.lst (ys ++ ys7)) a8 = some (HO.lst (ys ++ ys7)) := upd_same
      generalize upd G7 a8 (HO.lst (ys ++ ys7)) = G8 at X8 ha8 ⊢
      have ly8 : (ys ++ ys7).length ≤ (0 + i * 10) + 10 := len_app ly ly7
      dsimp only [gName]
      rw [show (List.set [some (x0), some (.ref rr), some (.str (Str.ofString z)), none] 1 (some (V.ref a8)) : L2.St) = [some (x0), some (V.ref a8), some (.str (Str.ofString z)), none] from rfl]
      exact ⟨XF.trans (X3.trans (X4.trans (X5.trans (X6.trans (X7.trans X8))))), _, _, _, rfl, ex_fresh ((X1.trans X2).trans (XF.trans (X3.trans (X4.trans (X5.trans (X6.trans X7)))))) na8, ha8, (RowsAt.app (hR.mono (X3.trans (X4.trans (X5.trans (X6.trans (X7.trans X8))))) (X3.trans (X4.trans (X5.trans (X6.trans (X7.trans X8)))))) (hR7.mono (X7.trans X8) X8)), Nat.le_trans ly8 (by omega)⟩
    · rintro σ F ⟨XF, rr, ys, v6, rfl, nr, hr, hR, ly⟩
      exact ⟨_, rfl, q rr ys F ((X1.trans X2).trans XF) nr hr hR (Nat.le_trans ly (by decide))⟩
theorem ok__law_no_moments {P : Program} {w : World} {K : PySem.W.Frag} {mg : Str → Option Value} {base : Heap} (T : Env K mg) : Fc P w K mg base 1 (He.ga K "_law_no_moments") [] (sp__law_no_moments K ) := by
  obtain ⟨fd, D, F⟩ := fb__law_no_moments T
  exact F.all (D.bindsN fun _ _ _ _ _ _ us hl => match us, hl with | [_], _ => rfl)
end
section
def sp__law_no_leaves (K : PySem.W.Frag) : Sp := fun vs H Q _ => ∃ (a r s : Addr) (c : CardD) (D : DaysD) (ts : List Tr) (z : Str), vs = [.ref a, .ref r, .ref s, .str z] ∧ CardAt K H c a ∧ DaysAt K H r D ∧ D.ok ∧ SprAt K H s ts ∧ (momsL ts).Nodup ∧ (momsL ts).length ≤ 1440 ∧ (∀ n ∈ momsL ts, n < 1440) ∧ nmN z.cps.toList = true ∧ Leaf c ∧ ∀ r xs H', Ex H H' → H r = none → H' r = some (.lst xs) → RowsAt K H' H' 1 xs → xs.length ≤ 900 → Q (.ref r) H'
theorem fb__law_no_leaves {P : Program} {w : World} {K : PySem.W.Frag} {mg : Str → Option Value} {base : Heap} (T : Env K mg) : ∃ fd, FunD K "_law_no_leaves" "_law_no_leaves" (defArgs s__law_no_leaves) (defBody s__law_no_leaves) (defScope s__law_no_leaves) [] [] (He.ga K "_law_no_leaves") fd ∧ Fb P w K mg base 66 (He.ga K "_law_no_leaves") fd ["_law_card", "_law_days", "_law_spread", "_law_name_here"] (sp__law_no_leaves K) := by
  obtain ⟨fd, F⟩ := T.f__law_no_leaves
  refine ⟨fd, F, fb_of F sc__law_no_leaves (fun vs H Q E h => ?_) (fun cdv A outer s H vs Q E hr h => ?_)⟩
  · obtain ⟨a, r, s, c, D, ts, z, rfl, _⟩ := h
    rfl
  · obtain ⟨a, r, s, c, D, ts, z, rfl, hA, hD, kD, hS, nS, lS, bS, hz, hL, q⟩ := h
    refine ⟨_, (pss_cons (ps_set (i := 4) sc__law_no_leaves.nd rfl (Or.inl rfl) (pe_lst (pa_cons pe_non (pa_cons pe_bl (pa_cons pe_int (pa_cons pe_int (pa_cons pe_str (pa_cons pe_str (pa_cons pe_str (pa_cons (pe_tup pa_nil) (pa_cons (pe_lst pa_nil) (pa_cons pe_dnewK (pa_cons (pv 0) pa_nil)))))))))))))
      (pss_cons (ps_set (i := 5) sc__law_no_leaves.nd rfl (Or.inl rfl) (pe_lst (pa_cons (c_make T.mk_Spread (ok_Spread_init T) (hr.mono (by decide)) T.g_Spread takes0 (pa_cons (pe_lst (pa_cons (c_make T.mk_At (ok_At_init T) (hr.mono (by decide)) T.g_At takes0 (pa_cons pe_int pa_nil)) pa_nil)) pa_nil)) (pa_cons (c_make T.mk_Spread (ok_Spread_init T) (hr.mono (by decide)) T.g_Spread takes0 (pa_cons (pe_lst (pa_cons (c_make T.mk_At (ok_At_init T) (hr.mono (by decide)) T.g_At takes0 (pa_cons pe_int pa_nil)) (pa_cons (c_make T.mk_At (ok_At_init T) (hr.mono (by decide)) T.g_At takes0 (pa_cons (pe_op op_pow pe_int pe_int) pa_nil)) pa_nil))) pa_nil)) (pa_cons (c_make T.mk_Spread (ok_Spread_init T) (hr.mono (by decide)) T.g_Spread takes0 (pa_cons (pe_lst (pa_cons (c_make T.mk_Over (ok_Over_init T) (hr.mono (by decide)) T.g_Over takes0 (pa_cons (pe_lst (pa_cons (c_make T.mk_At (ok_At_init T) (hr.mono (by decide)) T.g_At takes0 (pa_cons pe_int pa_nil)) pa_nil)) (pa_cons pe_int (pa_cons pe_int pa_nil)))) pa_nil)) pa_nil)) pa_nil)))))
      (pss_cons (ps_set (i := 6) sc__law_no_leaves.nd rfl (Or.inl rfl) (pe_lst (pa_cons pe_str (pa_cons pe_str (pa_cons pe_int (pa_cons pe_bl (pa_cons pe_dnewK (pa_cons (pe_lst (pa_cons pe_str pa_nil)) (pa_cons (pe_lst (pa_cons pe_str pa_nil)) (pa_cons (pe_lst (pa_cons pe_str pa_nil)) (pa_cons (pe_lst (pa_cons pe_int pa_nil)) (pa_cons (pe_lst (pa_cons pe_non pa_nil)) (pa_cons (pe_lst (pa_cons (pe_lst pa_nil) pa_nil)) (pa_cons (pe_lst (pa_cons (pv 3) (pa_cons (pv 3) pa_nil))) pa_nil))))))))))))))
      (pss_cons (ps_set (i := 6) sc__law_no_leaves.nd rfl (Or.inl rfl) (pe_op op_cat (pv 6) (pe_lst (pa_cons (pe_tup (pa_cons (pv 3) (pa_cons pe_str pa_nil))) (pa_cons (pe_lst (pa_cons (pv 3) (pa_cons pe_str pa_nil))) (pa_cons (pe_tup (pa_cons (pv 3) (pa_cons (pv 3) pa_nil))) pa_nil))))))
      (pss_cons (ps_set (i := 7) sc__law_no_leaves.nd rfl (Or.inl rfl) (pe_lst (pa_cons pe_non (pa_cons pe_str (pa_cons pe_str (pa_cons pe_str (pa_cons pe_str (pa_cons pe_int (pa_cons pe_bl (pa_cons (pe_lst (pa_cons pe_str pa_nil)) (pa_cons (pe_tup (pa_cons pe_str pa_nil)) (pa_cons pe_str (pa_cons pe_dnewK pa_nil)))))))))))))
      (pss_cons (ps_set (i := 8) sc__law_no_leaves.nd rfl (Or.inl rfl) (pe_op op_cat (pv 4) (pe_lst (pa_cons (pv 1) (pa_cons (c_make T.mk_At (ok_At_init T) (hr.mono (by decide)) T.g_At takes0 (pa_cons pe_int pa_nil)) (pa_cons (c_make T.mk_Over (ok_Over_init_2 T) (hr.mono (by decide)) T.g_Over takes0 (pa_cons (pe_lst (pa_cons (c_make T.mk_At (ok_At_init T) (hr.mono (by decide)) T.g_At takes0 (pa_cons pe_int pa_nil)) pa_nil)) pa_nil)) (pa_cons (pe_lst (pa_cons (c_make T.mk_At (ok_At_init T) (hr.mono (by decide)) T.g_At takes0 (pa_cons pe_int pa_nil)) pa_nil)) pa_nil)))))))
      (pss_cons (ps_set (i := 9) sc__law_no_leaves.nd rfl (Or.inl rfl) (pe_op op_cat (pe_lc (own := [("_law_thing", 10)]) (by rfl) sc__law_no_leaves.nd (pi_list (pv 8)) (blkOk_by (own := [("_law_thing", 10)]) (N := ["_law_card", "_law_days", "_law_spread", "_law_name_here", "_law_plain", "_law_wide", "_law_notes", "_law_names", "_law_no_spread", "_law_rows", "_law_thing"]) (sc := defScope s__law_no_leaves) (by decide +kernel)) (fun _ _ _ _ _ => (pg_name (i := 10) sc__law_no_leaves.nd rfl (Or.inl rfl))) (fun _ _ _ _ _ => pts_nil) (fun _ _ _ _ _ => (pe_tup (pa_cons pe_str (pa_cons (pv 10) (pa_cons pe_non pa_nil)))))) (pe_lc (own := [("_law_thing", 10)]) (by rfl) sc__law_no_leaves.nd (pi_list (pv 6)) (blkOk_by (own := [("_law_thing", 10)]) (N := ["_law_card", "_law_days", "_law_spread", "_law_name_here", "_law_plain", "_law_wide", "_law_notes", "_law_names", "_law_no_spread", "_law_rows", "_law_thing"]) (sc := defScope s__law_no_leaves) (by decide +kernel)) (fun _ _ _ _ _ => (pg_name (i := 10) sc__law_no_leaves.nd rfl (Or.inl rfl))) (fun _ _ _ _ _ => pts_nil) (fun _ _ _ _ _ => (pe_tup (pa_cons pe_str (pa_cons (pv 2) (pa_cons (pv 10) pa_nil))))))))
      (pss_cons (ps_set (i := 9) sc__law_no_leaves.nd rfl (Or.inl rfl) (pe_op op_cat (pv 9) (pe_lc (own := [("_law_thing", 10)]) (by rfl) sc__law_no_leaves.nd (pi_list (pe_op op_cat (pv 8) (pv 5))) (blkOk_by (own := [("_law_thing", 10)]) (N := ["_law_card", "_law_days", "_law_spread", "_law_name_here", "_law_plain", "_law_wide", "_law_notes", "_law_names", "_law_no_spread", "_law_rows", "_law_thing"]) (sc := defScope s__law_no_leaves) (by decide +kernel)) (fun _ _ _ _ _ => (pg_name (i := 10) sc__law_no_leaves.nd rfl (Or.inl rfl))) (fun _ _ _ _ _ => pts_nil) (fun _ _ _ _ _ => (pe_tup (pa_cons pe_str (pa_cons (pv 1) (pa_cons (pv 10) (pa_cons pe_non pa_nil)))))))))
      (pss_cons (ps_set (i := 9) sc__law_no_leaves.nd rfl (Or.inl rfl) (pe_op op_cat (pv 9) (pe_lc (own := [("_law_thing", 10)]) (by rfl) sc__law_no_leaves.nd (pi_list (pe_op op_cat (pv 4) (pe_lst (pa_cons (pv 2) (pa_cons (c_make T.mk_Ring (ok_Ring_init T) (hr.mono (by decide)) T.g_Ring takes0 (pa_cons pe_str pa_nil)) pa_nil))))) (blkOk_by (own := [("_law_thing", 10)]) (N := ["_law_card", "_law_days", "_law_spread", "_law_name_here", "_law_plain", "_law_wide", "_law_notes", "_law_names", "_law_no_spread", "_law_rows", "_law_thing"]) (sc := defScope s__law_no_leaves) (by decide +kernel)) (fun _ _ _ _ _ => (pg_name (i := 10) sc__law_no_leaves.nd rfl (Or.inl rfl))) (fun _ _ _ _ _ => pts_nil) (fun _ _ _ _ _ => (pe_tup (pa_cons pe_str (pa_cons (pv 10) (pa_cons (pv 2) (pa_cons pe_non pa_nil)))))))))
      (pss_one (ps_ret (pe_op op_cat (pe_op op_cat (pv 9) (pe_lc (own := [("_law_thing", 10)]) (by rfl) sc__law_no_leaves.nd (pi_list (pv 6)) (blkOk_by (own := [("_law_thing", 10)]) (N := ["_law_card", "_law_days", "_law_spread", "_law_name_here", "_law_plain", "_law_wide", "_law_notes", "_law_names", "_law_no_spread", "_law_rows", "_law_thing"]) (sc := defScope s__law_no_leaves) (by decide +kernel)) (fun _ _ _ _ _ => (pg_name (i := 10) sc__law_no_leaves.nd rfl (Or.inl rfl))) (fun _ _ _ _ _ => pts_nil) (fun _ _ _ _ _ => (pe_tup (pa_cons pe_str (pa_cons (pv 1) (pa_cons (pv 2) (pa_cons (pv 10) pa_nil)))))))) (pe_lc (own := [("_law_thing", 10)]) (by rfl) sc__law_no_leaves.nd (pi_list (pv 7)) (blkOk_by (own := [("_law_thing", 10)]) (N := ["_law_card", "_law_days", "_law_spread", "_law_name_here", "_law_plain", "_law_wide", "_law_notes", "_law_names", "_law_no_spread", "_law_rows", "_law_thing"]) (sc := defScope s__law_no_leaves) (by decide +kernel)) (fun _ _ _ _ _ => (pg_name (i := 10) sc__law_no_leaves.nd rfl (Or.inl rfl))) (fun _ _ _ _ _ => pts_nil) (fun _ _ _ _ _ => (pe_tup (pa_cons pe_str (pa_cons (pv 10) pa_nil))))))))))))))))), ?_⟩
    rw [show (L2.start [Str.ofString "_law_card", Str.ofString "_law_days", Str.ofString "_law_spread", Str.ofString "_law_name_here", Str.ofString "_law_plain", Str.ofString "_law_wide", Str.ofString "_law_notes", Str.ofString "_law_names", Str.ofString "_law_no_spread", Str.ofString "_law_rows", Str.ofString "_law_thing"] [.ref a, .ref r, .ref s, .str z] : L2.St) = [some (.ref a), some (.ref r), some (.ref s), some (.str z), none, none, none, none, none, none, none] from rfl]
    obtain ⟨dxr, rr0, por, par, hr0, _⟩ := id hD
    obtain ⟨dxs, kps, hds, ass, hs0, _⟩ := id hS
    refine ⟨(by show 0 ≤ sizeLine; decide), fun a1 na1 => ?_⟩
    have X1 := ex_new (o := HO.tup []) na1
    have ha1 : upd H a1 (HO.tup []) a1 = some (HO.tup []) := upd_same
    generalize upd H a1 (HO.tup []) = G1 at X1 ha1 ⊢
    refine ⟨(by show 0 ≤ sizeLine; decide), fun a2 na2 => ?_⟩
    have X2 := ex_new (o := HO.lst []) na2
    have ha2 : upd G1 a2 (HO.lst []) a2 = some (HO.lst []) := upd_same
    generalize upd G1 a2 (HO.lst []) = G2 at X2 ha2 ⊢
    refine fun a3 na3 => ?_
    have X3 := ex_new (o := HO.dK []) na3
    have ha3 : upd G2 a3 (HO.dK []) a3 = some (HO.dK []) := upd_same
    generalize upd G2 a3 (HO.dK []) = G3 at X3 ha3 ⊢
    refine ⟨_, rfl, (by show 11 ≤ sizeLine; decide), fun a4 na4 => ?_⟩
    have X4 := ex_new (o := HO.lst [V.non, V.bl true, V.int 0, V.int 7, V.str (Str.ofString ""), V.str (Str.ofString "a"), V.str (Str.ofString "1"), V.ref a1, V.ref a2, V.ref a3, V.ref a]) na4
    have ha4 : upd G3 a4 (HO.lst [V.non, V.bl true, V.int 0, V.int 7, V.str (Str.ofString ""), V.str (Str.ofString "a"), V.str (Str.ofString "1"), V.ref a1, V.ref a2, V.ref a3, V.ref a]) a4 = some (HO.lst [V.non, V.bl true, V.int 0, V.int 7, V.str (Str.ofString ""), V.str (Str.ofString "a"), V.str (Str.ofString "1"), V.ref a1, V.ref a2, V.ref a3, V.ref a]) := upd_same
    generalize upd G3 a4 (HO.lst [V.non, V.bl true, V.int 0, V.int 7, V.str (Str.ofString ""), V.str (Str.ofString "a"), V.str (Str.ofString "1"), V.ref a1, V.ref a2, V.ref a3, V.ref a]) = G4 at X4 ha4 ⊢
    dsimp only [gName]
    rw [show (List.set [some (.ref a), some (.ref r), some (.ref s), some (.str z), none, none, none, none, none, none, none] 4 (some (V.ref a4)) : L2.St) = [some (.ref a), some (.ref r), some (.ref s), some (.str z), some (V.ref a4), none, none, none, none, none, none] from rfl]
    refine fun a5 d5 na5 nd5 ne5 => ?_
    show sp_At_init K [.ref a5, .int ((1440 : Nat) : Int)] _ _ _
    refine at_new (n := 1440) na5 nd5 ne5 fun G5 X5 ha5 => ⟨rfl, ?_⟩
    obtain ⟨dx5, hb5⟩ := id ha5
    refine ⟨(by show 1 ≤ sizeLine; decide), fun a6 na6 => ?_⟩
    have X6 := ex_new (o := HO.lst [V.ref a5]) na6
    have ha6 : upd G5 a6 (HO.lst [V.ref a5]) a6 = some (HO.lst [V.ref a5]) := upd_same
    generalize upd G5 a6 (HO.lst [V.ref a5]) = G6 at X6 ha6 ⊢
    refine fun a7 d7 na7 nd7 ne7 => ?_
    show sp_Spread_init K [.ref a7, V.ref a6] _ _ _
    refine spread_new (as := [a5]) (ts := [.at 1440]) na7 nd7 ne7 (.inl ha6) (shsR (by unfold ShAt; exact ha5.mono X6)) (by simp [nestL, Tr.nest]) (by simp [okL_, Tr.ok, momsL, Tr.moms]) (by first | decide | (simp [sprB, risB, momsL, Tr.moms, overN]; done) | (simp [sprB, risB, momsL, Tr.moms, overN]; decide)) fun G7 X7 ha7 => ⟨rfl, ?_⟩
    obtain ⟨dx7, kp7, hd7, as7, hb7, _⟩ := id ha7
    refine fun a8 d8 na8 nd8 ne8 => ?_
    show sp_At_init K [.ref a8, .int ((5 : Nat) : Int)] _ _ _
    refine at_new (n := 5) na8 nd8 ne8 fun G8 X8 ha8 => ⟨rfl, ?_⟩
    obtain ⟨dx8, hb8⟩ := id ha8
    refine ⟨_, _, rfl, rfl, ⟨by decide, by decide, by decide⟩, ?_⟩
    refine fun a9 d9 na9 nd9 ne9 => ?_
    show sp_At_init K [.ref a9, .int ((1000000000000000000000000000000 : Nat) : Int)] _ _ _
    refine at_new (n := 1000000000000000000000000000000) na9 nd9 ne9 fun G9 X9 ha9 => ⟨rfl, ?_⟩
    obtain ⟨dx9, hb9⟩ := id ha9
    refine ⟨(by show 2 ≤ sizeLine; decide), fun a10 na10 => ?_⟩
    have X10 := ex_new (o := HO.lst [V.ref a8, V.ref a9]) na10
    have ha10 : upd G9 a10 (HO.lst [V.ref a8, V.ref a9]) a10 = some (HO.lst [V.ref a8, V.ref a9]) := upd_same
    generalize upd G9 a10 (HO.lst [V.ref a8, V.ref a9]) = G10 at X10 ha10 ⊢
    refine fun a11 d11 na11 nd11 ne11 => ?_
    show sp_Spread_init K [.ref a11, V.ref a10] _ _ _
    refine spread_new (as := [a8, a9]) (ts := [.at 5, .at 1000000000000000000000000000000]) na11 nd11 ne11 (.inl ha10) (by unfold ShsAt; exact ⟨_, _, rfl, (by unfold ShAt; exact ha8.mono (X9.trans X10)), (shsR (by unfold ShAt; exact ha9.mono X10))⟩) (by simp [nestL, Tr.nest]) (by simp [okL_, Tr.ok, momsL, Tr.moms]) (by first | decide | (simp [sprB, risB, momsL, Tr.moms, overN]; done) | (simp [sprB, risB, momsL, Tr.moms, overN]; decide)) fun G11 X11 ha11 => ⟨rfl, ?_⟩
    obtain ⟨dx11, kp11, hd11, as11, hb11, _⟩ := id ha11
    refine fun a12 d12 na12 nd12 ne12 => ?_
    show sp_At_init K [.ref a12, .int ((1439 : Nat) : Int)] _ _ _
    refine at_new (n := 1439) na12 nd12 ne12 fun G12 X12 ha12 => ⟨rfl, ?_⟩
    obtain ⟨dx12, hb12⟩ := id ha12
    refine ⟨(by show 1 ≤ sizeLine; decide), fun a13 na13 => ?_⟩
    have X13 := ex_new (o := HO.lst [V.ref a12]) na13
    have ha13 : upd G12 a13 (HO.lst [V.ref a12]) a13 = some (HO.lst [V.ref a12]) := upd_same
    generalize upd G12 a13 (HO.lst [V.ref a12]) = G13 at X13 ha13 ⊢
    refine fun a14 d14 na14 nd14 ne14 => ⟨rfl, ?_⟩
    show sp_Over_init K [.ref a14, V.ref a13, .int ((2 : Nat) : Int), .int ((1 : Nat) : Int)] _ _ _
    refine over_newT (as := [a12]) (ts := [.at 1439]) (m := 2) (s := 1) na14 nd14 ne14 (.inl ha13) (shsR (by unfold ShAt; exact ha12.mono X13)) (by simp [okL_, Tr.ok, momsL, Tr.moms]) (by simp [nestL, Tr.nest]) fun G14 X14 ha14 => ⟨rfl, ?_⟩
    obtain ⟨dx14, kp14, as14, hb14, _⟩ := (by have hc := ha14; unfold ShAt at hc; exact hc : ∃ dx kp as, G14 a14 = some (.ins (OverC K) dx (overF kp 2 1)) ∧ G14 kp = some (.tup (as.map V.ref)) ∧ ShsAt K G14 [.at 1439] as)
    refine ⟨(by show 1 ≤ sizeLine; decide), fun a15 na15 => ?_⟩
    have X15 := ex_new (o := HO.lst [V.ref a14]) na15
    have ha15 : upd G14 a15 (HO.lst [V.ref a14]) a15 = some (HO.lst [V.ref a14]) := upd_same
    generalize upd G14 a15 (HO.lst [V.ref a14]) = G15 at X15 ha15 ⊢
    refine fun a16 d16 na16 nd16 ne16 => ?_
    show sp_Spread_init K [.ref a16, V.ref a15] _ _ _
    refine spread_new (as := [a14]) (ts := [.ov [.at 1439] 2 1]) na16 nd16 ne16 (.inl ha15) (shsR (ha14.mono X15)) (by simp [nestL, Tr.nest]) (by simp [okL_, Tr.ok, momsL, Tr.moms]) (by first | decide | (simp [sprB, risB, momsL, Tr.moms, overN]; done) | (simp [sprB, risB, momsL, Tr.moms, overN]; decide)) fun G16 X16 ha16 => ⟨rfl, ?_⟩
    obtain ⟨dx16, kp16, hd16, as16, hb16, _⟩ := id ha16
    refine ⟨(by show 3 ≤ sizeLine; decide), fun a17 na17 => ?_⟩
    have X17 := ex_new (o := HO.lst [V.ref a7, V.ref a11, V.ref a16]) na17
    have ha17 : upd G16 a17 (HO.lst [V.ref a7, V.ref a11, V.ref a16]) a17 = some (HO.lst [V.ref a7, V.ref a11, V.ref a16]) := upd_same
    generalize upd G16 a17 (HO.lst [V.ref a7, V.ref a11, V.ref a16]) = G17 at X17 ha17 ⊢
    dsimp only [gName]
    rw [show (List.set [some (.ref a), some (.ref r), some (.ref s), some (.str z), some (V.ref a4), none, none, none, none, none, none] 5 (some (V.ref a17)) : L2.St) = [some (.ref a), some (.ref r), some (.ref s), some (.str z), some (V.ref a4), some (V.ref a17), none, none, none, none, none] from rfl]
    refine fun a18 na18 => ?_
    have X18 := ex_new (o := HO.dK []) na18
    have ha18 : upd G17 a18 (HO.dK []) a18 = some (HO.dK []) := upd_same
    generalize upd G17 a18 (HO.dK []) = G18 at X18 ha18 ⊢
    refine ⟨(by show 1 ≤ sizeLine; decide), fun a19 na19 => ?_⟩
    have X19 := ex_new (o := HO.lst [V.str (Str.ofString "A")]) na19
    have ha19 : upd G18 a19 (HO.lst [V.str (Str.ofString "A")]) a19 = some (HO.lst [V.str (Str.ofString "A")]) := upd_same
    generalize upd G18 a19 (HO.lst [V.str (Str.ofString "A")]) = G19 at X19 ha19 ⊢
    refine ⟨(by show 1 ≤ sizeLine; decide), fun a20 na20 => ?_⟩
    have X20 := ex_new (o := HO.lst [V.str (Str.ofString "")]) na20
    have ha20 : upd G19 a20 (HO.lst [V.str (Str.ofString "")]) a20 = some (HO.lst [V.str (Str.ofString "")]) := upd_same
    generalize upd G19 a20 (HO.lst [V.str (Str.ofString "")]) = G20 at X20 ha20 ⊢
    refine ⟨(by show 1 ≤ sizeLine; decide), fun a21 na21 => ?_⟩
    have X21 := ex_new (o := HO.lst [V.str (Str.ofString "ninelette")]) na21
    have ha21 : upd G20 a21 (HO.lst [V.str (Str.ofString "ninelette")]) a21 = some (HO.lst [V.str (Str.ofString "ninelette")]) := upd_same
    generalize upd G20 a21 (HO.lst [V.str (Str.ofString "ninelette")]) = G21 at X21 ha21 ⊢
    refine ⟨(by show 1 ≤ sizeLine; decide), fun a22 na22 => ?_⟩
    have X22 := ex_new (o := HO.lst [V.int 1]) na22
    have ha22 : upd G21 a22 (HO.lst [V.int 1]) a22 = some (HO.lst [V.int 1]) := upd_same
    generalize upd G21 a22 (HO.lst [V.int 1]) = G22 at X22 ha22 ⊢
    refine ⟨(by show 1 ≤ sizeLine; decide), fun a23 na23 => ?_⟩
    have X23 := ex_new (o := HO.lst [V.non]) na23
    have ha23 : upd G22 a23 (HO.lst [V.non]) a23 = some (HO.lst [V.non]) := upd_same
    generalize upd G22 a23 (HO.lst [V.non]) = G23 at X23 ha23 ⊢
    refine ⟨(by show 0 ≤ sizeLine; decide), fun a24 na24 => ?_⟩
    have X24 := ex_new (o := HO.lst []) na24
    have ha24 : upd G23 a24 (HO.lst []) a24 = some (HO.lst []) := upd_same
    generalize upd G23 a24 (HO.lst []) = G24 at X24 ha24 ⊢
    refine ⟨(by show 1 ≤ sizeLine; decide), fun a25 na25 => ?_⟩
    have X25 := ex_new (o := HO.lst [V.ref a24]) na25
    have ha25 : upd G24 a25 (HO.lst [V.ref a24]) a25 = some (HO.lst [V.ref a24]) := upd_same
    generalize upd G24 a25 (HO.lst [V.ref a24]) = G25 at X25 ha25 ⊢
    refine ⟨_, rfl, _, rfl, (by show 2 ≤ sizeLine; decide), fun a26 na26 => ?_⟩
    have X26 := ex_new (o := HO.lst [.str z, .str z]) na26
    have ha26 : upd G25 a26 (HO.lst [.str z, .str z]) a26 = some (HO.lst [.str z, .str z]) := upd_same
    generalize upd G25 a26 (HO.lst [.str z, .str z]) = G26 at X26 ha26 ⊢
    refine ⟨(by show 12 ≤ sizeLine; decide), fun a27 na27 => ?_⟩
    have X27 := ex_new (o := HO.lst [V.str (Str.ofString ""), V.str (Str.ofString "ab"), V.int 5, V.bl true, V.ref a18, V.ref a19, V.ref a20, V.ref a21, V.ref a22, V.ref a23, V.ref a25, V.ref a26]) na27
    have ha27 : upd G26 a27 (HO.lst [V.str (Str.ofString ""), V.str (Str.ofString "ab"), V.int 5, V.bl true, V.ref a18, V.ref a19, V.ref a20, V.ref a21, V.ref a22, V.ref a23, V.ref a25, V.ref a26]) a27 = some (HO.lst [V.str (Str.ofString ""), V.str (Str.ofString "ab"), V.int 5, V.bl true, V.ref a18, V.ref a19, V.ref a20, V.ref a21, V.ref a22, V.ref a23, V.ref a25, V.ref a26]) := upd_same
    generalize upd G26 a27 (HO.lst [V.str (Str.ofString ""), V.str (Str.ofString "ab"), V.int 5, V.bl true, V.ref a18, V.ref a19, V.ref a20, V.ref a21, V.ref a22, V.ref a23, V.ref a25, V.ref a26]) = G27 at X27 ha27 ⊢
    dsimp only [gName]
    rw [show (List.set [some (.ref a), some (.ref r), some (.ref s), some (.str z), some (V.ref a4), some (V.ref a17), none, none, none, none, none] 6 (some (V.ref a27)) : L2.St) = [some (.ref a), some (.ref r), some (.ref s), some (.str z), some (V.ref a4), some (V.ref a17), some (V.ref a27), none, none, none, none] from rfl]
    refine ⟨_, rfl, _, rfl, (by show 2 ≤ sizeLine; decide), fun a28 na28 => ?_⟩
    have X28 := ex_new (o := HO.tup [.str z, V.str (Str.ofString "a1")]) na28
    have ha28 : upd G27 a28 (HO.tup [.str z, V.str (Str.ofString "a1")]) a28 = some (HO.tup [.str z, V.str (Str.ofString "a1")]) := upd_same
    generalize upd G27 a28 (HO.tup [.str z, V.str (Str.ofString "a1")]) = G28 at X28 ha28 ⊢
    refine ⟨_, rfl, (by show 2 ≤ sizeLine; decide), fun a29 na29 => ?_⟩
    have X29 := ex_new (o := HO.lst [.str z, V.str (Str.ofString "")]) na29
    have ha29 : upd G28 a29 (HO.lst [.str z, V.str (Str.ofString "")]) a29 = some (HO.lst [.str z, V.str (Str.ofString "")]) := upd_same
    generalize upd G28 a29 (HO.lst [.str z, V.str (Str.ofString "")]) = G29 at X29 ha29 ⊢
    refine ⟨_, rfl, _, rfl, (by show 2 ≤ sizeLine; decide), fun a30 na30 => ?_⟩
    have X30 := ex_new (o := HO.tup [.str z, .str z]) na30
    have ha30 : upd G29 a30 (HO.tup [.str z, .str z]) a30 = some (HO.tup [.str z, .str z]) := upd_same
    generalize upd G29 a30 (HO.tup [.str z, .str z]) = G30 at X30 ha30 ⊢
    refine ⟨(by show 3 ≤ sizeLine; decide), fun a31 na31 => ?_⟩
    have X31 := ex_new (o := HO.lst [V.ref a28, V.ref a29, V.ref a30]) na31
    have ha31 : upd G30 a31 (HO.lst [V.ref a28, V.ref a29, V.ref a30]) a31 = some (HO.lst [V.ref a28, V.ref a29, V.ref a30]) := upd_same
    generalize upd G30 a31 (HO.lst [V.ref a28, V.ref a29, V.ref a30]) = G31 at X31 ha31 ⊢
    refine ⟨_, _, _, _, rfl, rfl, ((X28.trans (X29.trans (X30.trans X31))) _ _ ha27), ha31, (by show 15 ≤ sizeLine; decide), fun a32 na32 => ?_⟩
    have X32 := ex_new (o := HO.lst ([V.str (Str.ofString ""), V.str (Str.ofString "ab"), V.int 5, V.bl true, V.ref a18, V.ref a19, V.ref a20, V.ref a21, V.ref a22, V.ref a23, V.ref a25, V.ref a26] ++ [V.ref a28, V.ref a29, V.ref a30])) na32
    have ha32 : upd G31 a32 (HO.lst ([V.str (Str.ofString ""), V.str (Str.ofString "ab"), V.int 5, V.bl true, V.ref a18, V.ref a19, V.ref a20, V.ref a21, V.ref a22, V.ref a23, V.ref a25, V.ref a26] ++ [V.ref a28, V.ref a29, V.ref a30])) a32 = some (HO.lst [V.str (Str.ofString ""), V.str (Str.ofString "ab"), V.int 5, V.bl true, V.ref a18, V.ref a19, V.ref a20, V.ref a21, V.ref a22, V.ref a23, V.ref a25, V.ref a26, V.ref a28, V.ref a29, V.ref a30]) := upd_same
    generalize upd G31 a32 (HO.lst ([V.str (Str.ofString ""), V.str (Str.ofString "ab"), V.int 5, V.bl true, V.ref a18, V.ref a19, V.ref a20, V.ref a21, V.ref a22, V.ref a23, V.ref a25, V.ref a26] ++ [V.ref a28, V.ref a29, V.ref a30])) = G32 at X32 ha32 ⊢
    dsimp only [gName]
    rw [show (List.set [some (.ref a), some (.ref r), some (.ref s), some (.str z), some (V.ref a4), some (V.ref a17), some (V.ref a27), none, none, none, none] 6 (some (V.ref a32)) : L2.St) = [some (.ref a), some (.ref r), some (.ref s), some (.str z), some (V.ref a4), some (V.ref a17), some (V.ref a32), none, none, none, none] from rfl]
    refine ⟨(by show 1 ≤ sizeLine; decide), fun a33 na33 => ?_⟩
    have X33 := ex_new (o := HO.lst [V.str (Str.ofString "a")]) na33
    have ha33 : upd G32 a33 (HO.lst [V.str (Str.ofString "a")]) a33 = some (HO.lst [V.str (Str.ofString "a")]) := upd_same
    generalize upd G32 a33 (HO.lst [V.str (Str.ofString "a")]) = G33 at X33 ha33 ⊢
    refine ⟨(by show 1 ≤ sizeLine; decide), fun a34 na34 => ?_⟩
    have X34 := ex_new (o := HO.tup [V.str (Str.ofString "a")]) na34
    have ha34 : upd G33 a34 (HO.tup [V.str (Str.ofString "a")]) a34 = some (HO.tup [V.str (Str.ofString "a")]) := upd_same
    generalize upd G33 a34 (HO.tup [V.str (Str.ofString "a")]) = G34 at X34 ha34 ⊢
    refine fun a35 na35 => ?_
    have X35 := ex_new (o := HO.dK []) na35
    have ha35 : upd G34 a35 (HO.dK []) a35 = some (HO.dK []) := upd_same
    generalize upd G34 a35 (HO.dK []) = G35 at X35 ha35 ⊢
    refine ⟨(by show 11 ≤ sizeLine; decide), fun a36 na36 => ?_⟩
    have X36 := ex_new (o := HO.lst [V.non, V.str (Str.ofString ""), V.str (Str.ofString "A"), V.str (Str.ofString "ninelette"), V.str (Str.ofString "a b"), V.int 5, V.bl true, V.ref a33, V.ref a34, V.str (Str.ofString "a1"), V.ref a35]) na36
    have ha36 : upd G35 a36 (HO.lst [V.non, V.str (Str.ofString ""), V.str (Str.ofString "A"), V.str (Str.ofString "ninelette"), V.str (Str.ofString "a b"), V.int 5, V.bl true, V.ref a33, V.ref a34, V.str (Str.ofString "a1"), V.ref a35]) a36 = some (HO.lst [V.non, V.str (Str.ofString ""), V.str (Str.ofString "A"), V.str (Str.ofString "ninelette"), V.str (Str.ofString "a b"), V.int 5, V.bl true, V.ref a33, V.ref a34, V.str (Str.ofString "a1"), V.ref a35]) := upd_same
    generalize upd G35 a36 (HO.lst [V.non, V.str (Str.ofString ""), V.str (Str.ofString "A"), V.str (Str.ofString "ninelette"), V.str (Str.ofString "a b"), V.int 5, V.bl true, V.ref a33, V.ref a34, V.str (Str.ofString "a1"), V.ref a35]) = G36 at X36 ha36 ⊢
    dsimp only [gName]
    rw [show (List.set [some (.ref a), some (.ref r), some (.ref s), some (.str z), some (V.ref a4), some (V.ref a17), some (V.ref a32), none, none, none, none] 7 (some (V.ref a36)) : L2.St) = [some (.ref a), some (.ref r), some (.ref s), some (.str z), some (V.ref a4), some (V.ref a17), some (V.ref a32), some (V.ref a36), none, none, none] from rfl]
    refine ⟨_, rfl, _, rfl, ?_⟩
    refine fun a37 d37 na37 nd37 ne37 => ?_
    show sp_At_init K [.ref a37, .int ((5 : Nat) : Int)] _ _ _
    refine at_new (n := 5) na37 nd37 ne37 fun G37 X37 ha37 => ⟨rfl, ?_⟩
    obtain ⟨dx37, hb37⟩ := id ha37
    refine fun a38 d38 na38 nd38 ne38 => ?_
    show sp_At_init K [.ref a38, .int ((0 : Nat) : Int)] _ _ _
    refine at_new (n := 0) na38 nd38 ne38 fun G38 X38 ha38 => ⟨rfl, ?_⟩
    obtain ⟨dx38, hb38⟩ := id ha38
    refine ⟨(by show 1 ≤ sizeLine; decide), fun a39 na39 => ?_⟩
    have X39 := ex_new (o := HO.lst [V.ref a38]) na39
    have ha39 : upd G38 a39 (HO.lst [V.ref a38]) a39 = some (HO.lst [V.ref a38]) := upd_same
    generalize upd G38 a39 (HO.lst [V.ref a38]) = G39 at X39 ha39 ⊢
    refine fun a40 d40 na40 nd40 ne40 => ⟨rfl, ?_⟩
    show sp_Over_init K [.ref a40, V.ref a39, .int ((2 : Nat) : Int), .int ((60 : Nat) : Int)] _ _ _
    refine over_newT (as := [a38]) (ts := [.at 0]) (m := 2) (s := 60) na40 nd40 ne40 (.inl ha39) (shsR (by unfold ShAt; exact ha38.mono X39)) (by simp [okL_, Tr.ok, momsL, Tr.moms]) (by simp [nestL, Tr.nest]) fun G40 X40 ha40 => ⟨rfl, ?_⟩
    obtain ⟨dx40, kp40, as40, hb40, _⟩ := (by have hc := ha40; unfold ShAt at hc; exact hc : ∃ dx kp as, G40 a40 = some (.ins (OverC K) dx (overF kp 2 60)) ∧ G40 kp = some (.tup (as.map V.ref)) ∧ ShsAt K G40 [.at 0] as)
    refine fun a41 d41 na41 nd41 ne41 => ?_
    show sp_At_init K [.ref a41, .int ((5 : Nat) : Int)] _ _ _
    refine at_new (n := 5) na41 nd41 ne41 fun G41 X41 ha41 => ⟨rfl, ?_⟩
    obtain ⟨dx41, hb41⟩ := id ha41
    refine ⟨(by show 1 ≤ sizeLine; decide), fun a42 na42 => ?_⟩
    have X42 := ex_new (o := HO.lst [V.ref a41]) na42
    have ha42 : upd G41 a42 (HO.lst [V.ref a41]) a42 = some (HO.lst [V.ref a41]) := upd_same
    generalize upd G41 a42 (HO.lst [V.ref a41]) = G42 at X42 ha42 ⊢
    refine ⟨(by show 4 ≤ sizeLine; decide), fun a43 na43 => ?_⟩
    have X43 := ex_new (o := HO.lst [V.ref r, V.ref a37, V.ref a40, V.ref a42]) na43
    have ha43 : upd G42 a43 (HO.lst [V.ref r, V.ref a37, V.ref a40, V.ref a42]) a43 = some (HO.lst [V.ref r, V.ref a37, V.ref a40, V.ref a42]) := upd_same
    generalize upd G42 a43 (HO.lst [V.ref r, V.ref a37, V.ref a40, V.ref a42]) = G43 at X43 ha43 ⊢
    refine ⟨_, _, _, _, rfl, rfl, ((X5.trans (X6.trans (X7.trans (X8.trans (X9.trans (X10.trans (X11.trans (X12.trans (X13.trans (X14.trans (X15.trans (X16.trans (X17.trans (X18.trans (X19.trans (X20.trans (X21.trans (X22.trans (X23.trans (X24.trans (X25.trans (X26.trans (X27.trans (X28.trans (X29.trans (X30.trans (X31.trans (X32.trans (X33.trans (X34.trans (X35.trans (X36.trans (X37.trans (X38.trans (X39.trans (X40.trans (X41.trans (X42.trans X43)))))))))))))))))))))))))))))))))))))) _ _ ha4), ha43, (by show 15 ≤ sizeLine; decide), fun a44 na44 => ?_⟩
    have X44 := ex_new (o := HO.lst ([V.non, V.bl true, V.int 0, V.int 7, V.str (Str.ofString ""), V.str (Str.ofString "a"), V.str (Str.ofString "1"), V.ref a1, V.ref a2, V.ref a3, V.ref a] ++ [V.ref r, V.ref a37, V.ref a40, V.ref a42])) na44
    have ha44 : upd G43 a44 (HO.lst ([V.non, V.bl true, V.int 0, V.int 7, V.str (Str.ofString ""), V.str (Str.ofString "a"), V.str (Str.ofString "1"), V.ref a1, V.ref a2, V.ref a3, V.ref a] ++ [V.ref r, V.ref a37, V.ref a40, V.ref a42])) a44 = some (HO.lst [V.non, V.bl true, V.int 0, V.int 7, V.str (Str.ofString ""), V.str (Str.ofString "a"), V.str (Str.ofString "1"), V.ref a1, V.ref a2, V.ref a3, V.ref a, V.ref r, V.ref a37, V.ref a40, V.ref a42]) := upd_same
    generalize upd G43 a44 (HO.lst ([V.non, V.bl true, V.int 0, V.int 7, V.str (Str.ofString ""), V.str (Str.ofString "a"), V.str (Str.ofString "1"), V.ref a1, V.ref a2, V.ref a3, V.ref a] ++ [V.ref r, V.ref a37, V.ref a40, V.ref a42])) = G44 at X44 ha44 ⊢
    dsimp only [gName]
    rw [show (List.set [some (.ref a), some (.ref r), some (.ref s), some (.str z), some (V.ref a4), some (V.ref a17), some (V.ref a32), some (V.ref a36), none, none, none] 8 (some (V.ref a44)) : L2.St) = [some (.ref a), some (.ref r), some (.ref s), some (.str z), some (V.ref a4), some (V.ref a17), some (V.ref a32), some (V.ref a36), some (V.ref a44), none, none] from rfl]
    have n1 : ∀ x ∈ [V.non, V.bl true, V.int 0, V.int 7, V.str (Str.ofString ""), V.str (Str.ofString "a"), V.str (Str.ofString "1"), V.ref a1, V.ref a2, V.ref a3, V.ref a, V.ref r, V.ref a37, V.ref a40, V.ref a42], SpIs K G44 x none := (allc (sp_none (.base .non) T.kit_NoneType_Spread) (allc (sp_none (.base (.bl _)) T.kit_bool_Spread) (allc (sp_none (.base (.int _)) T.kit_int_Spread) (allc (sp_none (.base (.int _)) T.kit_int_Spread) (allc (sp_none (.base (.str _)) T.kit_str_Spread) (allc (sp_none (.base (.str _)) T.kit_str_Spread) (allc (sp_none (.base (.str _)) T.kit_str_Spread) (allc (sp_none (.base (.tup ((X2.trans (X3.trans (X4.trans (X5.trans (X6.trans (X7.trans (X8.trans (X9.trans (X10.trans (X11.trans (X12.trans (X13.trans (X14.trans (X15.trans (X16.trans (X17.trans (X18.trans (X19.trans (X20.trans (X21.trans (X22.trans (X23.trans (X24.trans (X25.trans (X26.trans (X27.trans (X28.trans (X29.trans (X30.trans (X31.trans (X32.trans (X33.trans (X34.trans (X35.trans (X36.trans (X37.trans (X38.trans (X39.trans (X40.trans (X41.trans (X42.trans (X43.trans X44)))))))))))))))))))))))))))))))))))))))))) _ _ ha1))) T.kit_tuple_Spread) (allc (sp_none (.base (.lst ((X3.trans (X4.trans (X5.trans (X6.trans (X7.trans (X8.trans (X9.trans (X10.trans (X11.trans (X12.trans (X13.trans (X14.trans (X15.trans (X16.trans (X17.trans (X18.trans (X19.trans (X20.trans (X21.trans (X22.trans (X23.trans (X24.trans (X25.trans (X26.trans (X27.trans (X28.trans (X29.trans (X30.trans (X31.trans (X32.trans (X33.trans (X34.trans (X35.trans (X36.trans (X37.trans (X38.trans (X39.trans (X40.trans (X41.trans (X42.trans (X43.trans X44))))))))))))))))))))))))))))))))))))))))) _ _ ha2))) T.kit_list_Spread) (allc (sp_none (.base (.dK ((X4.trans (X5.trans (X6.trans (X7.trans (X8.trans (X9.trans (X10.trans (X11.trans (X12.trans (X13.trans (X14.trans (X15.trans (X16.trans (X17.trans (X18.trans (X19.trans (X20.trans (X21.trans (X22.trans (X23.trans (X24.trans (X25.trans (X26.trans (X27.trans (X28.trans (X29.trans (X30.trans (X31.trans (X32.trans (X33.trans (X34.trans (X35.trans (X36.trans (X37.trans (X38.trans (X39.trans (X40.trans (X41.trans (X42.trans (X43.trans X44)))))))))))))))))))))))))))))))))))))))) _ _ ha3))) T.kit_dict_Spread) (allc (leaf_no T (hA.mono (X1.trans (X2.trans (X3.trans (X4.trans (X5.trans (X6.trans (X7.trans (X8.trans (X9.trans (X10.trans (X11.trans (X12.trans (X13.trans (X14.trans (X15.trans (X16.trans (X17.trans (X18.trans (X19.trans (X20.trans (X21.trans (X22.trans (X23.trans (X24.trans (X25.trans (X26.trans (X27.trans (X28.trans (X29.trans (X30.trans (X31.trans (X32.trans (X33.trans (X34.trans (X35.trans (X36.trans (X37.trans (X38.trans (X39.trans (X40.trans (X41.trans (X42.trans (X43.trans X44)))))))))))))))))))))))))))))))))))))))))))) hL).1 (allc (sp_none (ty_ins T.i_Days T.c_Days ((X1.trans (X2.trans (X3.trans (X4.trans (X5.trans (X6.trans (X7.trans (X8.trans (X9.trans (X10.trans (X11.trans (X12.trans (X13.trans (X14.trans (X15.trans (X16.trans (X17.trans (X18.trans (X19.trans (X20.trans (X21.trans (X22.trans (X23.trans (X24.trans (X25.trans (X26.trans (X27.trans (X28.trans (X29.trans (X30.trans (X31.trans (X32.trans (X33.trans (X34.trans (X35.trans (X36.trans (X37.trans (X38.trans (X39.trans (X40.trans (X41.trans (X42.trans (X43.trans X44))))))))))))))))))))))))))))))))))))))))))) _ _ hr0)) T.kit_Days_Spread) (allc (sp_none (ty_ins T.i_At T.c_At ((X38.trans (X39.trans (X40.trans (X41.trans (X42.trans (X43.trans X44)))))) _ _ hb37)) T.kit_At_Spread) (allc (sp_none (ty_ins T.i_Over T.c_Over ((X41.trans (X42.trans (X43.trans X44))) _ _ hb40)) T.kit_Over_Spread) (allc (sp_none (.base (.lst ((X43.trans X44) _ _ ha42))) T.kit_list_Spread) alln)))))))))))))))
    have n2 : ∀ x ∈ [V.str (Str.ofString ""), V.str (Str.ofString "ab"), V.int 5, V.bl true, V.ref a18, V.ref a19, V.ref a20, V.ref a21, V.ref a22, V.ref a23, V.ref a25, V.ref a26, V.ref a28, V.ref a29, V.ref a30], NtX K G44 x none := (allc (nt_no nofun (.base (.str _)) (kit_ty (by decide +kernel)) (kit_ty (by decide +kernel))) (allc (nt_no nofun (.base (.str _)) (kit_ty (by decide +kernel)) (kit_ty (by decide +kernel))) (allc (nt_no nofun (.base (.int _)) (kit_ty (by decide +kernel)) (kit_ty (by decide +kernel))) (allc (nt_no nofun (.base (.bl _)) (kit_ty (by decide +kernel)) (kit_ty (by decide +kernel))) (allc (nt_no nofun (.base (.dK ((X19.trans (X20.trans (X21.trans (X22.trans (X23.trans (X24.trans (X25.trans (X26.trans (X27.trans (X28.trans (X29.trans (X30.trans (X31.trans (X32.trans (X33.trans (X34.trans (X35.trans (X36.trans (X37.trans (X38.trans (X39.trans (X40.trans (X41.trans (X42.trans (X43.trans X44))))))))))))))))))))))))) _ _ ha18))) (kit_ty (by decide +kernel)) (kit_ty (by decide +kernel))) (allc (nt_badS (.inl ((X20.trans (X21.trans (X22.trans (X23.trans (X24.trans (X25.trans (X26.trans (X27.trans (X28.trans (X29.trans (X30.trans (X31.trans (X32.trans (X33.trans (X34.trans (X35.trans (X36.trans (X37.trans (X38.trans (X39.trans (X40.trans (X41.trans (X42.trans (X43.trans X44)))))))))))))))))))))))) _ _ ha19)) (by show 1 ≤ 1000; decide) (allc (clS_str (by decide)) alln) (by first | rfl | decide | (simp [hz, isNm]; decide))) (allc (nt_badS (.inl ((X21.trans (X22.trans (X23.trans (X24.trans (X25.trans (X26.trans (X27.trans (X28.trans (X29.trans (X30.trans (X31.trans (X32.trans (X33.trans (X34.trans (X35.trans (X36.trans (X37.trans (X38.trans (X39.trans (X40.trans (X41.trans (X42.trans (X43.trans X44))))))))))))))))))))))) _ _ ha20)) (by show 1 ≤ 1000; decide) (allc (clS_str (by decide)) alln) (by first | rfl | decide | (simp [hz, isNm]; decide))) (allc (nt_badS (.inl ((X22.trans (X23.trans (X24.trans (X25.trans (X26.trans (X27.trans (X28.trans (X29.trans (X30.trans (X31.trans (X32.trans (X33.trans (X34.trans (X35.trans (X36.trans (X37.trans (X38.trans (X39.trans (X40.trans (X41.trans (X42.trans (X43.trans X44)))))))))))))))))))))) _ _ ha21)) (by show 1 ≤ 1000; decide) (allc (clS_str (by decide)) alln) (by first | rfl | decide | (simp [hz, isNm]; decide))) (allc (nt_badS (.inl ((X23.trans (X24.trans (X25.trans (X26.trans (X27.trans (X28.trans (X29.trans (X30.trans (X31.trans (X32.trans (X33.trans (X34.trans (X35.trans (X36.trans (X37.trans (X38.trans (X39.trans (X40.trans (X41.trans (X42.trans (X43.trans X44))))))))))))))))))))) _ _ ha22)) (by show 1 ≤ 1000; decide) (allc clS_int alln) (by first | rfl | decide | (simp [hz, isNm]; decide))) (allc (nt_badS (.inl ((X24.trans (X25.trans (X26.trans (X27.trans (X28.trans (X29.trans (X30.trans (X31.trans (X32.trans (X33.trans (X34.trans (X35.trans (X36.trans (X37.trans (X38.trans (X39.trans (X40.trans (X41.trans (X42.trans (X43.trans X44)))))))))))))))))))) _ _ ha23)) (by show 1 ≤ 1000; decide) (allc clS_non alln) (by first | rfl | decide | (simp [hz, isNm]; decide))) (allc (nt_badS (.inl ((X26.trans (X27.trans (X28.trans (X29.trans (X30.trans (X31.trans (X32.trans (X33.trans (X34.trans (X35.trans (X36.trans (X37.trans (X38.trans (X39.trans (X40.trans (X41.trans (X42.trans (X43.trans X44)))))))))))))))))) _ _ ha25)) (by show 1 ≤ 1000; decide) (allc (clS_lst ((X25.trans (X26.trans (X27.trans (X28.trans (X29.trans (X30.trans (X31.trans (X32.trans (X33.trans (X34.trans (X35.trans (X36.trans (X37.trans (X38.trans (X39.trans (X40.trans (X41.trans (X42.trans (X43.trans X44))))))))))))))))))) _ _ ha24)) alln) (by first | rfl | decide | (simp [hz, isNm]; decide))) (allc (nt_twice (ws := [z, z]) (.inl ((X27.trans (X28.trans (X29.trans (X30.trans (X31.trans (X32.trans (X33.trans (X34.trans (X35.trans (X36.trans (X37.trans (X38.trans (X39.trans (X40.trans (X41.trans (X42.trans (X43.trans X44))))))))))))))))) _ _ ha26)) (nms_two hz) (by simp) (by show 2 ≤ 1000; decide)) (allc (nt_badS (.inr ((X29.trans (X30.trans (X31.trans (X32.trans (X33.trans (X34.trans (X35.trans (X36.trans (X37.trans (X38.trans (X39.trans (X40.trans (X41.trans (X42.trans (X43.trans X44))))))))))))))) _ _ ha28)) (by show 2 ≤ 1000; decide) (allc (clS_str (nm_len hz)) (allc (clS_str (by decide)) alln)) (by first | rfl | decide | (simp [hz, isNm]; decide))) (allc (nt_badS (.inl ((X30.trans (X31.trans (X32.trans (X33.trans (X34.trans (X35.trans (X36.trans (X37.trans (X38.trans (X39.trans (X40.trans (X41.trans (X42.trans (X43.trans X44)))))))))))))) _ _ ha29)) (by show 2 ≤ 1000; decide) (allc (clS_str (nm_len hz)) (allc (clS_str (by decide)) alln)) (by first | rfl | decide | (simp [hz, isNm]; decide))) (allc (nt_twice (ws := [z, z]) (.inr ((X31.trans (X32.trans (X33.trans (X34.trans (X35.trans (X36.trans (X37.trans (X38.trans (X39.trans (X40.trans (X41.trans (X42.trans (X43.trans X44))))))))))))) _ _ ha30)) (nms_two hz) (by simp) (by show 2 ≤ 1000; decide)) alln)))))))))))))))
    have hsp : SpIs K G44 (.ref s) (some ts) := ⟨s, rfl, hS.mono (X1.trans (X2.trans (X3.trans (X4.trans (X5.trans (X6.trans (X7.trans (X8.trans (X9.trans (X10.trans (X11.trans (X12.trans (X13.trans (X14.trans (X15.trans (X16.trans (X17.trans (X18.trans (X19.trans (X20.trans (X21.trans (X22.trans (X23.trans (X24.trans (X25.trans (X26.trans (X27.trans (X28.trans (X29.trans (X30.trans (X31.trans (X32.trans (X33.trans (X34.trans (X35.trans (X36.trans (X37.trans (X38.trans (X39.trans (X40.trans (X41.trans (X42.trans (X43.trans X44))))))))))))))))))))))))))))))))))))))))))), nS, lS⟩
    have hdy : DyIs K G44 (.ref r) (some D) := ⟨r, rfl, hD.mono (X1.trans (X2.trans (X3.trans (X4.trans (X5.trans (X6.trans (X7.trans (X8.trans (X9.trans (X10.trans (X11.trans (X12.trans (X13.trans (X14.trans (X15.trans (X16.trans (X17.trans (X18.trans (X19.trans (X20.trans (X21.trans (X22.trans (X23.trans (X24.trans (X25.trans (X26.trans (X27.trans (X28.trans (X29.trans (X30.trans (X31.trans (X32.trans (X33.trans (X34.trans (X35.trans (X36.trans (X37.trans (X38.trans (X39.trans (X40.trans (X41.trans (X42.trans (X43.trans X44))))))))))))))))))))))))))))))))))))))))))), kD⟩
    refine ⟨_, rfl, _, rfl, ⟨_, sq_lst ha44⟩, ?_⟩
    refine fun D45 nD45 => lc_rows (K := K) (G0 := G44) (xs := [V.non, V.bl true, V.int 0, V.int 7, V.str (Str.ofString ""), V.str (Str.ofString "a"), V.str (Str.ofString "1"), V.ref a1, V.ref a2, V.ref a3, V.ref a, V.ref r, V.ref a37, V.ref a40, V.ref a42]) (wd := 1) nD45 L2.walk_list (fun H0 e0 => sq_lst (e0 _ _ ha44)) (by show 15 ≤ 2000; decide) (fun x H2 acc N hx X hD la kk => ?_) fun ys45 G45 X45 ly45 hR45 ha45 => ?_
    · refine ⟨rfl, ?_⟩
      simp only [tYes, reduceIte]
      refine ⟨_, rfl, (by show 3 ≤ sizeLine; decide), fun t nt => ⟨acc, ex_new nt _ _ hD, la, ?_⟩⟩
      exact kk t "once" [x, .non] _ (ex_new nt) upd_same (.once_s (n1 x hx))
    have ly45 : ys45.length ≤ 15 := ly45
    refine ⟨_, rfl, _, rfl, ⟨_, sq_lst ((X33.trans (X34.trans (X35.trans (X36.trans (X37.trans (X38.trans (X39.trans (X40.trans (X41.trans (X42.trans (X43.trans (X44.trans X45)))))))))))) _ _ ha32)⟩, ?_⟩
    refine fun D46 nD46 => lc_rows (K := K) (G0 := G45) (xs := [V.str (Str.ofString ""), V.str (Str.ofString "ab"), V.int 5, V.bl true, V.ref a18, V.ref a19, V.ref a20, V.ref a21, V.ref a22, V.ref a23, V.ref a25, V.ref a26, V.ref a28, V.ref a29, V.ref a30]) (wd := 1) nD46 L2.walk_list (fun H0 e0 => sq_lst (e0 _ _ ((X33.trans (X34.trans (X35.trans (X36.trans (X37.trans (X38.trans (X39.trans (X40.trans (X41.trans (X42.trans (X43.trans (X44.trans X45)))))))))))) _ _ ha32))) (by show 15 ≤ 2000; decide) (fun x H2 acc N hx X hD la kk => ?_) fun ys46 G46 X46 ly46 hR46 ha46 => ?_
    · refine ⟨rfl, ?_⟩
      simp only [tYes, reduceIte]
      refine ⟨_, rfl, _, rfl, (by show 3 ≤ sizeLine; decide), fun t nt => ⟨acc, ex_new nt _ _ hD, la, ?_⟩⟩
      exact kk t "once" [.ref s, x] _ (ex_new nt) upd_same (.once_n (hsp.mono X45) ((n2 x hx).mono X45))
    have ly46 : ys46.length ≤ 15 := ly46
    refine ⟨_, _, _, _, rfl, rfl, (X46 _ _ ha45), ha46, (sz_app ly45 ly46 (by decide)), fun a47 na47 => ?_⟩
    have X47 := ex_new (o := HO.lst (ys45 ++ ys46)) na47
    have ha47 : upd G46 a47 (HO.lst (ys45 ++ ys46)) a47 = some (HO.lst (ys45 ++ ys46)) := upd_same
    generalize upd G46 a47 (HO.lst (ys45 ++ ys46)) = G47 at X47 ha47 ⊢
    have ly47 : (ys45 ++ ys46).length ≤ 30 := len_app ly45 ly46
    dsimp only [gName]
    rw [show (List.set [some (.ref a), some (.ref r), some (.ref s), some (.str z), some (V.ref a4), some (V.ref a17), some (V.ref a32), some (V.ref a36), some (V.ref a44), none, none] 9 (some (V.ref a47)) : L2.St) = [some (.ref a), some (.ref r), some (.ref s), some (.str z), some (V.ref a4), some (V.ref a17), some (V.ref a32), some (V.ref a36), some (V.ref a44), some (V.ref a47), none] from rfl]
    refine ⟨_, rfl, ?_⟩
    refine ⟨_, rfl, ?_⟩
    refine ⟨_, rfl, ?_⟩
    refine ⟨_, _, _, _, rfl, rfl, ((X45.trans (X46.trans X47)) _ _ ha44), ((X18.trans (X19.trans (X20.trans (X21.trans (X22.trans (X23.trans (X24.trans (X25.trans (X26.trans (X27.trans (X28.trans (X29.trans (X30.trans (X31.trans (X32.trans (X33.trans (X34.trans (X35.trans (X36.trans (X37.trans (X38.trans (X39.trans (X40.trans (X41.trans (X42.trans (X43.trans (X44.trans (X45.trans (X46.trans X47))))))))))))))))))))))))))))) _ _ ha17), (by show 18 ≤ sizeLine; decide), fun a48 na48 => ?_⟩
    have X48 := ex_new (o := HO.lst ([V.non, V.bl true, V.int 0, V.int 7, V.str (Str.ofString ""), V.str (Str.ofString "a"), V.str (Str.ofString "1"), V.ref a1, V.ref a2, V.ref a3, V.ref a, V.ref r, V.ref a37, V.ref a40, V.ref a42] ++ [V.ref a7, V.ref a11, V.ref a16])) na48
    have ha48 : upd G47 a48 (HO.lst ([V.non, V.bl true, V.int 0, V.int 7, V.str (Str.ofString ""), V.str (Str.ofString "a"), V.str (Str.ofString "1"), V.ref a1, V.ref a2, V.ref a3, V.ref a, V.ref r, V.ref a37, V.ref a40, V.ref a42] ++ [V.ref a7, V.ref a11, V.ref a16])) a48 = some (HO.lst [V.non, V.bl true, V.int 0, V.int 7, V.str (Str.ofString ""), V.str (Str.ofString "a"), V.str (Str.ofString "1"), V.ref a1, V.ref a2, V.ref a3, V.ref a, V.ref r, V.ref a37, V.ref a40, V.ref a42, V.ref a7, V.ref a11, V.ref a16]) := upd_same
    generalize upd G47 a48 (HO.lst ([V.non, V.bl true, V.int 0, V.int 7, V.str (Str.ofString ""), V.str (Str.ofString "a"), V.str (Str.ofString "1"), V.ref a1, V.ref a2, V.ref a3, V.ref a, V.ref r, V.ref a37, V.ref a40, V.ref a42] ++ [V.ref a7, V.ref a11, V.ref a16])) = G48 at X48 ha48 ⊢
    have n3 : ∀ x ∈ [V.non, V.bl true, V.int 0, V.int 7, V.str (Str.ofString ""), V.str (Str.ofString "a"), V.str (Str.ofString "1"), V.ref a1, V.ref a2, V.ref a3, V.ref a, V.ref r, V.ref a37, V.ref a40, V.ref a42, V.ref a7, V.ref a11, V.ref a16], DnX K G48 "every" [.ref r, x, .non] 1 := (allc (.every_s (hdy.mono (X45.trans (X46.trans (X47.trans X48)))) (sp_none (.base .non) T.kit_NoneType_Spread)) (allc (.every_s (hdy.mono (X45.trans (X46.trans (X47.trans X48)))) (sp_none (.base (.bl _)) T.kit_bool_Spread)) (allc (.every_s (hdy.mono (X45.trans (X46.trans (X47.trans X48)))) (sp_none (.base (.int _)) T.kit_int_Spread)) (allc (.every_s (hdy.mono (X45.trans (X46.trans (X47.trans X48)))) (sp_none (.base (.int _)) T.kit_int_Spread)) (allc (.every_s (hdy.mono (X45.trans (X46.trans (X47.trans X48)))) (sp_none (.base (.str _)) T.kit_str_Spread)) (allc (.every_s (hdy.mono (X45.trans (X46.trans (X47.trans X48)))) (sp_none (.base (.str _)) T.kit_str_Spread)) (allc (.every_s (hdy.mono (X45.trans (X46.trans (X47.trans X48)))) (sp_none (.base (.str _)) T.kit_str_Spread)) (allc (.every_s (hdy.mono (X45.trans (X46.trans (X47.trans X48)))) (sp_none (.base (.tup ((X2.trans (X3.trans (X4.trans (X5.trans (X6.trans (X7.trans (X8.trans (X9.trans (X10.trans (X11.trans (X12.trans (X13.trans (X14.trans (X15.trans (X16.trans (X17.trans (X18.trans (X19.trans (X20.trans (X21.trans (X22.trans (X23.trans (X24.trans (X25.trans (X26.trans (X27.trans (X28.trans (X29.trans (X30.trans (X31.trans (X32.trans (X33.trans (X34.trans (X35.trans (X36.trans (X37.trans (X38.trans (X39.trans (X40.trans (X41.trans (X42.trans (X43.trans (X44.trans (X45.trans (X46.trans (X47.trans X48)))))))))))))))))))))))))))))))))))))))))))))) _ _ ha1))) T.kit_tuple_Spread)) (allc (.every_s (hdy.mono (X45.trans (X46.trans (X47.trans X48)))) (sp_none (.base (.lst ((X3.trans (X4.trans (X5.trans (X6.trans (X7.trans (X8.trans (X9.trans (X10.trans (X11.trans (X12.trans (X13.trans (X14.trans (X15.trans (X16.trans (X17.trans (X18.trans (X19.trans (X20.trans (X21.trans (X22.trans (X23.trans (X24.trans (X25.trans (X26.trans (X27.trans (X28.trans (X29.trans (X30.trans (X31.trans (X32.trans (X33.trans (X34.trans (X35.trans (X36.trans (X37.trans (X38.trans (X39.trans (X40.trans (X41.trans (X42.trans (X43.trans (X44.trans (X45.trans (X46.trans (X47.trans X48))))))))))))))))))))))))))))))))))))))))))))) _ _ ha2))) T.kit_list_Spread)) (allc (.every_s (hdy.mono (X45.trans (X46.trans (X47.trans X48)))) (sp_none (.base (.dK ((X4.trans (X5.trans (X6.trans (X7.trans (X8.trans (X9.trans (X10.trans (X11.trans (X12.trans (X13.trans (X14.trans (X15.trans (X16.trans (X17.trans (X18.trans (X19.trans (X20.trans (X21.trans (X22.trans (X23.trans (X24.trans (X25.trans (X26.trans (X27.trans (X28.trans (X29.trans (X30.trans (X31.trans (X32.trans (X33.trans (X34.trans (X35.trans (X36.trans (X37.trans (X38.trans (X39.trans (X40.trans (X41.trans (X42.trans (X43.trans (X44.trans (X45.trans (X46.trans (X47.trans X48)))))))))))))))))))))))))))))))))))))))))))) _ _ ha3))) T.kit_dict_Spread)) (allc (.every_s (hdy.mono (X45.trans (X46.trans (X47.trans X48)))) (leaf_no T (hA.mono (X1.trans (X2.trans (X3.trans (X4.trans (X5.trans (X6.trans (X7.trans (X8.trans (X9.trans (X10.trans (X11.trans (X12.trans (X13.trans (X14.trans (X15.trans (X16.trans (X17.trans (X18.trans (X19.trans (X20.trans (X21.trans (X22.trans (X23.trans (X24.trans (X25.trans (X26.trans (X27.trans (X28.trans (X29.trans (X30.trans (X31.trans (X32.trans (X33.trans (X34.trans (X35.trans (X36.trans (X37.trans (X38.trans (X39.trans (X40.trans (X41.trans (X42.trans (X43.trans (X44.trans (X45.trans (X46.trans (X47.trans X48)))))))))))))))))))))))))))))))))))))))))))))))) hL).1) (allc (.every_s (hdy.mono (X45.trans (X46.trans (X47.trans X48)))) (sp_none (ty_ins T.i_Days T.c_Days ((X1.trans (X2.trans (X3.trans (X4.trans (X5.trans (X6.trans (X7.trans (X8.trans (X9.trans (X10.trans (X11.trans (X12.trans (X13.trans (X14.trans (X15.trans (X16.trans (X17.trans (X18.trans (X19.trans (X20.trans (X21.trans (X22.trans (X23.trans (X24.trans (X25.trans (X26.trans (X27.trans (X28.trans (X29.trans (X30.trans (X31.trans (X32.trans (X33.trans (X34.trans (X35.trans (X36.trans (X37.trans (X38.trans (X39.trans (X40.trans (X41.trans (X42.trans (X43.trans (X44.trans (X45.trans (X46.trans (X47.trans X48))))))))))))))))))))))))))))))))))))))))))))))) _ _ hr0)) T.kit_Days_Spread)) (allc (.every_s (hdy.mono (X45.trans (X46.trans (X47.trans X48)))) (sp_none (ty_ins T.i_At T.c_At ((X38.trans (X39.trans (X40.trans (X41.trans (X42.trans (X43.trans (X44.trans (X45.trans (X46.trans (X47.trans X48)))))))))) _ _ hb37)) T.kit_At_Spread)) (allc (.every_s (hdy.mono (X45.trans (X46.trans (X47.trans X48)))) (sp_none (ty_ins T.i_Over T.c_Over ((X41.trans (X42.trans (X43.trans (X44.trans (X45.trans (X46.trans (X47.trans X48))))))) _ _ hb40)) T.kit_Over_Spread)) (allc (.every_s (hdy.mono (X45.trans (X46.trans (X47.trans X48)))) (sp_none (.base (.lst ((X43.trans (X44.trans (X45.trans (X46.trans (X47.trans X48))))) _ _ ha42))) T.kit_list_Spread)) (allc (.every_w (ts := [.at 1440]) (ws := []) (hdy.mono (X45.trans (X46.trans (X47.trans X48)))) (⟨_, rfl, ha7.mono (X8.trans (X9.trans (X10.trans (X11.trans (X12.trans (X13.trans (X14.trans (X15.trans (X16.trans (X17.trans (X18.trans (X19.trans (X20.trans (X21.trans (X22.trans (X23.trans (X24.trans (X25.trans (X26.trans (X27.trans (X28.trans (X29.trans (X30.trans (X31.trans (X32.trans (X33.trans (X34.trans (X35.trans (X36.trans (X37.trans (X38.trans (X39.trans (X40.trans (X41.trans (X42.trans (X43.trans (X44.trans (X45.trans (X46.trans (X47.trans X48)))))))))))))))))))))))))))))))))))))))), by decide, by decide⟩) (.inl ⟨rfl, rfl⟩) ⟨1440, by decide, by decide⟩) (allc (.every_w (ts := [.at 5, .at 1000000000000000000000000000000]) (ws := []) (hdy.mono (X45.trans (X46.trans (X47.trans X48)))) (⟨_, rfl, ha11.mono (X12.trans (X13.trans (X14.trans (X15.trans (X16.trans (X17.trans (X18.trans (X19.trans (X20.trans (X21.trans (X22.trans (X23.trans (X24.trans (X25.trans (X26.trans (X27.trans (X28.trans (X29.trans (X30.trans (X31.trans (X32.trans (X33.trans (X34.trans (X35.trans (X36.trans (X37.trans (X38.trans (X39.trans (X40.trans (X41.trans (X42.trans (X43.trans (X44.trans (X45.trans (X46.trans (X47.trans X48)))))))))))))))))))))))))))))))))))), by decide, by decide⟩) (.inl ⟨rfl, rfl⟩) ⟨1000000000000000000000000000000, by decide, by decide⟩) (allc (.every_w (ts := [.ov [.at 1439] 2 1]) (ws := []) (hdy.mono (X45.trans (X46.trans (X47.trans X48)))) (⟨_, rfl, ha16.mono (X17.trans (X18.trans (X19.trans (X20.trans (X21.trans (X22.trans (X23.trans (X24.trans (X25.trans (X26.trans (X27.trans (X28.trans (X29.trans (X30.trans (X31.trans (X32.trans (X33.trans (X34.trans (X35.trans (X36.trans (X37.trans (X38.trans (X39.trans (X40.trans (X41.trans (X42.trans (X43.trans (X44.trans (X45.trans (X46.trans (X47.trans X48))))))))))))))))))))))))))))))), by decide, by decide⟩) (.inl ⟨rfl, rfl⟩) ⟨1440, by decide, by decide⟩) alln))))))))))))))))))
    refine ⟨_, rfl, ⟨_, sq_lst ha48⟩, ?_⟩
    refine fun D49 nD49 => lc_rows (K := K) (G0 := G48) (xs := [V.non, V.bl true, V.int 0, V.int 7, V.str (Str.ofString ""), V.str (Str.ofString "a"), V.str (Str.ofString "1"), V.ref a1, V.ref a2, V.ref a3, V.ref a, V.ref r, V.ref a37, V.ref a40, V.ref a42, V.ref a7, V.ref a11, V.ref a16]) (wd := 1) nD49 L2.walk_list (fun H0 e0 => sq_lst (e0 _ _ ha48)) (by show 18 ≤ 2000; decide) (fun x H2 acc N hx X hD la kk => ?_) fun ys49 G49 X49 ly49 hR49 ha49 => ?_
    · refine ⟨rfl, ?_⟩
      simp only [tYes, reduceIte]
      refine ⟨_, rfl, _, rfl, (by show 4 ≤ sizeLine; decide), fun t nt => ⟨acc, ex_new nt _ _ hD, la, ?_⟩⟩
      exact kk t "every" [.ref r, x, .non] _ (ex_new nt) upd_same (n3 x hx)
    have ly49 : ys49.length ≤ 18 := ly49
    refine ⟨_, _, _, _, rfl, rfl, ((X48.trans X49) _ _ ha47), ha49, (sz_app ly47 ly49 (by decide)), fun a50 na50 => ?_⟩
    have X50 := ex_new (o := HO.lst ((ys45 ++ ys46) ++ ys49)) na50
    have ha50 : upd G49 a50 (HO.lst ((ys45 ++ ys46) ++ ys49)) a50 = some (HO.lst ((ys45 ++ ys46) ++ ys49)) := upd_same
    generalize upd G49 a50 (HO.lst ((ys45 ++ ys46) ++ ys49)) = G50 at X50 ha50 ⊢
    have ly50 : ((ys45 ++ ys46) ++ ys49).length ≤ 48 := len_app ly47 ly49
    dsimp only [gName]
    rw [show (List.set [some (.ref a), some (.ref r), some (.ref s), some (.str z), some (V.ref a4), some (V.ref a17), some (V.ref a32), some (V.ref a36), some (V.ref a44), some (V.ref a47), none] 9 (some (V.ref a50)) : L2.St) = [some (.ref a), some (.ref r), some (.ref s), some (.str z), some (V.ref a4), some (V.ref a17), some (V.ref a32), some (V.ref a36), some (V.ref a44), some (V.ref a50), none] from rfl]
    refine ⟨_, rfl, ?_⟩
    refine ⟨_, rfl, ?_⟩
    refine ⟨_, rfl, ?_⟩
    refine fun a51 d51 na51 nd51 ne51 => ?_
    show sp_Ring_init K [.ref a51, .str (SX.S [49])] _ _ _
    refine ring_new (l := [49]) na51 nd51 ne51 (by decide) fun G51 X51 ha51 => ⟨rfl, ?_⟩
    obtain ⟨dx51, hb51⟩ := id ha51
    refine ⟨(by show 2 ≤ sizeLine; decide), fun a52 na52 => ?_⟩
    have X52 := ex_new (o := HO.lst [V.ref s, V.ref a51]) na52
    have ha52 : upd G51 a52 (HO.lst [V.ref s, V.ref a51]) a52 = some (HO.lst [V.ref s, V.ref a51]) := upd_same
    generalize upd G51 a52 (HO.lst [V.ref s, V.ref a51]) = G52 at X52 ha52 ⊢
    refine ⟨_, _, _, _, rfl, rfl, ((X5.trans (X6.trans (X7.trans (X8.trans (X9.trans (X10.trans (X11.trans (X12.trans (X13.trans (X14.trans (X15.trans (X16.trans (X17.trans (X18.trans (X19.trans (X20.trans (X21.trans (X22.trans (X23.trans (X24.trans (X25.trans (X26.trans (X27.trans (X28.trans (X29.trans (X30.trans (X31.trans (X32.trans (X33.trans (X34.trans (X35.trans (X36.trans (X37.trans (X38.trans (X39.trans (X40.trans (X41.trans (X42.trans (X43.trans (X44.trans (X45.trans (X46.trans (X47.trans (X48.trans (X49.trans (X50.trans (X51.trans X52))))))))))))))))))))))))))))))))))))))))))))))) _ _ ha4), ha52, (by show 13 ≤ sizeLine; decide), fun a53 na53 => ?_⟩
    have X53 := ex_new (o := HO.lst ([V.non, V.bl true, V.int 0, V.int 7, V.str (Str.ofString ""), V.str (Str.ofString "a"), V.str (Str.ofString "1"), V.ref a1, V.ref a2, V.ref a3, V.ref a] ++ [V.ref s, V.ref a51])) na53
    have ha53 : upd G52 a53 (HO.lst ([V.non, V.bl true, V.int 0, V.int 7, V.str (Str.ofString ""), V.str (Str.ofString "a"), V.str (Str.ofString "1"), V.ref a1, V.ref a2, V.ref a3, V.ref a] ++ [V.ref s, V.ref a51])) a53 = some (HO.lst [V.non, V.bl true, V.int 0, V.int 7, V.str (Str.ofString ""), V.str (Str.ofString "a"), V.str (Str.ofString "1"), V.ref a1, V.ref a2, V.ref a3, V.ref a, V.ref s, V.ref a51]) := upd_same
    generalize upd G52 a53 (HO.lst ([V.non, V.bl true, V.int 0, V.int 7, V.str (Str.ofString ""), V.str (Str.ofString "a"), V.str (Str.ofString "1"), V.ref a1, V.ref a2, V.ref a3, V.ref a] ++ [V.ref s, V.ref a51])) = G53 at X53 ha53 ⊢
    have n4 : ∀ x ∈ [V.non, V.bl true, V.int 0, V.int 7, V.str (Str.ofString ""), V.str (Str.ofString "a"), V.str (Str.ofString "1"), V.ref a1, V.ref a2, V.ref a3, V.ref a, V.ref s, V.ref a51], DyIs K G53 x none := (allc (dy_none (.base .non) T.kit_NoneType_Days) (allc (dy_none (.base (.bl _)) T.kit_bool_Days) (allc (dy_none (.base (.int _)) T.kit_int_Days) (allc (dy_none (.base (.int _)) T.kit_int_Days) (allc (dy_none (.base (.str _)) T.kit_str_Days) (allc (dy_none (.base (.str _)) T.kit_str_Days) (allc (dy_none (.base (.str _)) T.kit_str_Days) (allc (dy_none (.base (.tup ((X2.trans (X3.trans (X4.trans (X5.trans (X6.trans (X7.trans (X8.trans (X9.trans (X10.trans (X11.trans (X12.trans (X13.trans (X14.trans (X15.trans (X16.trans (X17.trans (X18.trans (X19.trans (X20.trans (X21.trans (X22.trans (X23.trans (X24.trans (X25.trans (X26.trans (X27.trans (X28.trans (X29.trans (X30.trans (X31.trans (X32.trans (X33.trans (X34.trans (X35.trans (X36.trans (X37.trans (X38.trans (X39.trans (X40.trans (X41.trans (X42.trans (X43.trans (X44.trans (X45.trans (X46.trans (X47.trans (X48.trans (X49.trans (X50.trans (X51.trans (X52.trans X53))))))))))))))))))))))))))))))))))))))))))))))))))) _ _ ha1))) T.kit_tuple_Days) (allc (dy_none (.base (.lst ((X3.trans (X4.trans (X5.trans (X6.trans (X7.trans (X8.trans (X9.trans (X10.trans (X11.trans (X12.trans (X13.trans (X14.trans (X15.trans (X16.trans (X17.trans (X18.trans (X19.trans (X20.trans (X21.trans (X22.trans (X23.trans (X24.trans (X25.trans (X26.trans (X27.trans (X28.trans (X29.trans (X30.trans (X31.trans (X32.trans (X33.trans (X34.trans (X35.trans (X36.trans (X37.trans (X38.trans (X39.trans (X40.trans (X41.trans (X42.trans (X43.trans (X44.trans (X45.trans (X46.trans (X47.trans (X48.trans (X49.trans (X50.trans (X51.trans (X52.trans X53)))))))))))))))))))))))))))))))))))))))))))))))))) _ _ ha2))) T.kit_list_Days) (allc (dy_none (.base (.dK ((X4.trans (X5.trans (X6.trans (X7.trans (X8.trans (X9.trans (X10.trans (X11.trans (X12.trans (X13.trans (X14.trans (X15.trans (X16.trans (X17.trans (X18.trans (X19.trans (X20.trans (X21.trans (X22.trans (X23.trans (X24.trans (X25.trans (X26.trans (X27.trans (X28.trans (X29.trans (X30.trans (X31.trans (X32.trans (X33.trans (X34.trans (X35.trans (X36.trans (X37.trans (X38.trans (X39.trans (X40.trans (X41.trans (X42.trans (X43.trans (X44.trans (X45.trans (X46.trans (X47.trans (X48.trans (X49.trans (X50.trans (X51.trans (X52.trans X53))))))))))))))))))))))))))))))))))))))))))))))))) _ _ ha3))) T.kit_dict_Days) (allc (leaf_no T (hA.mono (X1.trans (X2.trans (X3.trans (X4.trans (X5.trans (X6.trans (X7.trans (X8.trans (X9.trans (X10.trans (X11.trans (X12.trans (X13.trans (X14.trans (X15.trans (X16.trans (X17.trans (X18.trans (X19.trans (X20.trans (X21.trans (X22.trans (X23.trans (X24.trans (X25.trans (X26.trans (X27.trans (X28.trans (X29.trans (X30.trans (X31.trans (X32.trans (X33.trans (X34.trans (X35.trans (X36.trans (X37.trans (X38.trans (X39.trans (X40.trans (X41.trans (X42.trans (X43.trans (X44.trans (X45.trans (X46.trans (X47.trans (X48.trans (X49.trans (X50.trans (X51.trans (X52.trans X53))))))))))))))))))))))))))))))))))))))))))))))))))))) hL).2 (allc (dy_none (ty_ins T.i_Spread T.c_Spread ((X1.trans (X2.trans (X3.trans (X4.trans (X5.trans (X6.trans (X7.trans (X8.trans (X9.trans (X10.trans (X11.trans (X12.trans (X13.trans (X14.trans (X15.trans (X16.trans (X17.trans (X18.trans (X19.trans (X20.trans (X21.trans (X22.trans (X23.trans (X24.trans (X25.trans (X26.trans (X27.trans (X28.trans (X29.trans (X30.trans (X31.trans (X32.trans (X33.trans (X34.trans (X35.trans (X36.trans (X37.trans (X38.trans (X39.trans (X40.trans (X41.trans (X42.trans (X43.trans (X44.trans (X45.trans (X46.trans (X47.trans (X48.trans (X49.trans (X50.trans (X51.trans (X52.trans X53)))))))))))))))))))))))))))))))))))))))))))))))))))) _ _ hs0)) T.kit_Spread_Days) (allc (dy_none (ty_ins T.i_Ring T.c_Ring ((X52.trans X53) _ _ hb51)) T.kit_Ring_Days) alln)))))))))))))
    refine ⟨_, rfl, ⟨_, sq_lst ha53⟩, ?_⟩
    refine fun D54 nD54 => lc_rows (K := K) (G0 := G53) (xs := [V.non, V.bl true, V.int 0, V.int 7, V.str (Str.ofString ""), V.str (Str.ofString "a"), V.str (Str.ofString "1"), V.ref a1, V.ref a2, V.ref a3, V.ref a, V.ref s, V.ref a51]) (wd := 1) nD54 L2.walk_list (fun H0 e0 => sq_lst (e0 _ _ ha53)) (by show 13 ≤ 2000; decide) (fun x H2 acc N hx X hD la kk => ?_) fun ys54 G54 X54 ly54 hR54 ha54 => ?_
    · refine ⟨rfl, ?_⟩
      simp only [tYes, reduceIte]
      refine ⟨_, rfl, _, rfl, (by show 4 ≤ sizeLine; decide), fun t nt => ⟨acc, ex_new nt _ _ hD, la, ?_⟩⟩
      exact kk t "every" [x, .ref s, .non] _ (ex_new nt) upd_same (.every_d (n4 x hx))
    have ly54 : ys54.length ≤ 13 := ly54
    refine ⟨_, _, _, _, rfl, rfl, ((X51.trans (X52.trans (X53.trans X54))) _ _ ha50), ha54, (sz_app ly50 ly54 (by decide)), fun a55 na55 => ?_⟩
    have X55 := ex_new (o := HO.lst (((ys45 ++ ys46) ++ ys49) ++ ys54)) na55
    have ha55 : upd G54 a55 (HO.lst (((ys45 ++ ys46) ++ ys49) ++ ys54)) a55 = some (HO.lst (((ys45 ++ ys46) ++ ys49) ++ ys54)) := upd_same
    generalize upd G54 a55 (HO.lst (((ys45 ++ ys46) ++ ys49) ++ ys54)) = G55 at X55 ha55 ⊢
    have ly55 : (((ys45 ++ ys46) ++ ys49) ++ ys54).length ≤ 61 := len_app ly50 ly54
    dsimp only [gName]
    rw [show (List.set [some (.ref a), some (.ref r), some (.ref s), some (.str z), some (V.ref a4), some (V.ref a17), some (V.ref a32), some (V.ref a36), some (V.ref a44), some (V.ref a50), none] 9 (some (V.ref a55)) : L2.St) = [some (.ref a), some (.ref r), some (.ref s), some (.str z), some (V.ref a4), some (V.ref a17), some (V.ref a32), some (V.ref a36), some (V.ref a44), some (V.ref a55), none] from rfl]
    refine ⟨_, rfl, ?_⟩
    refine ⟨_, rfl, _, rfl, ⟨_, sq_lst ((X33.trans (X34.trans (X35.trans (X36.trans (X37.trans (X38.trans (X39.trans (X40.trans (X41.trans (X42.trans (X43.trans (X44.trans (X45.trans (X46.trans (X47.trans (X48.trans (X49.trans (X50.trans (X51.trans (X52.trans (X53.trans (X54.trans X55)))))))))))))))))))))) _ _ ha32)⟩, ?_⟩
    refine fun D56 nD56 => lc_rows (K := K) (G0 := G55) (xs := [V.str (Str.ofString ""), V.str (Str.ofString "ab"), V.int 5, V.bl true, V.ref a18, V.ref a19, V.ref a20, V.ref a21, V.ref a22, V.ref a23, V.ref a25, V.ref a26, V.ref a28, V.ref a29, V.ref a30]) (wd := 1) nD56 L2.walk_list (fun H0 e0 => sq_lst (e0 _ _ ((X33.trans (X34.trans (X35.trans (X36.trans (X37.trans (X38.trans (X39.trans (X40.trans (X41.trans (X42.trans (X43.trans (X44.trans (X45.trans (X46.trans (X47.trans (X48.trans (X49.trans (X50.trans (X51.trans (X52.trans (X53.trans (X54.trans X55)))))))))))))))))))))) _ _ ha32))) (by show 15 ≤ 2000; decide) (fun x H2 acc N hx X hD la kk => ?_) fun ys56 G56 X56 ly56 hR56 ha56 => ?_
    · refine ⟨rfl, ?_⟩
      simp only [tYes, reduceIte]
      refine ⟨_, rfl, _, rfl, _, rfl, (by show 4 ≤ sizeLine; decide), fun t nt => ⟨acc, ex_new nt _ _ hD, la, ?_⟩⟩
      exact kk t "every" [.ref r, .ref s, x] _ (ex_new nt) upd_same (.every_n (hdy.mono (X45.trans (X46.trans (X47.trans (X48.trans (X49.trans (X50.trans (X51.trans (X52.trans (X53.trans (X54.trans X55))))))))))) (hsp.mono (X45.trans (X46.trans (X47.trans (X48.trans (X49.trans (X50.trans (X51.trans (X52.trans (X53.trans (X54.trans X55))))))))))) ((n2 x hx).mono (X45.trans (X46.trans (X47.trans (X48.trans (X49.trans (X50.trans (X51.trans (X52.trans (X53.trans (X54.trans X55))))))))))))
    have ly56 : ys56.length ≤ 15 := ly56
    refine ⟨_, _, _, _, rfl, rfl, (X56 _ _ ha55), ha56, (sz_app ly55 ly56 (by decide)), fun a57 na57 => ?_⟩
    have X57 := ex_new (o := HO.lst ((((ys45 ++ ys46) ++ ys49) ++ ys54) ++ ys56)) na57
    have ha57 : upd G56 a57 (HO.lst ((((ys45 ++ ys46) ++ ys49) ++ ys54) ++ ys56)) a57 = some (HO.lst ((((ys45 ++ ys46) ++ ys49) ++ ys54) ++ ys56)) := upd_same
    generalize upd G56 a57 (HO.lst ((((ys45 ++ ys46) ++ ys49) ++ ys54) ++ ys56)) = G57 at X57 ha57 ⊢
    have ly57 : ((((ys45 ++ ys46) ++ ys49) ++ ys54) ++ ys56).length ≤ 76 := len_app ly55 ly56
    have n6 : ∀ x ∈ [V.non, V.str (Str.ofString ""), V.str (Str.ofString "A"), V.str (Str.ofString "ninelette"), V.str (Str.ofString "a b"), V.int 5, V.bl true, V.ref a33, V.ref a34, V.str (Str.ofString "a1"), V.ref a35], NmIs K G57 x none := (allc ⟨clS_non, by first | rfl | decide⟩ (allc ⟨(clS_str (by decide)), by first | rfl | decide⟩ (allc ⟨(clS_str (by decide)), by first | rfl | decide⟩ (allc ⟨(clS_str (by decide)), by first | rfl | decide⟩ (allc ⟨(clS_str (by decide)), by first | rfl | decide⟩ (allc ⟨clS_int, by first | rfl | decide⟩ (allc ⟨clS_bl, by first | rfl | decide⟩ (allc ⟨(clS_lst ((X34.trans (X35.trans (X36.trans (X37.trans (X38.trans (X39.trans (X40.trans (X41.trans (X42.trans (X43.trans (X44.trans (X45.trans (X46.trans (X47.trans (X48.trans (X49.trans (X50.trans (X51.trans (X52.trans (X53.trans (X54.trans (X55.trans (X56.trans X57))))))))))))))))))))))) _ _ ha33)), by first | rfl | decide⟩ (allc ⟨(clS_tup ((X35.trans (X36.trans (X37.trans (X38.trans (X39.trans (X40.trans (X41.trans (X42.trans (X43.trans (X44.trans (X45.trans (X46.trans (X47.trans (X48.trans (X49.trans (X50.trans (X51.trans (X52.trans (X53.trans (X54.trans (X55.trans (X56.trans X57)))))))))))))))))))))) _ _ ha34)), by first | rfl | decide⟩ (allc ⟨(clS_str (by decide)), by first | rfl | decide⟩ (allc ⟨(clS_dK ((X36.trans (X37.trans (X38.trans (X39.trans (X40.trans (X41.trans (X42.trans (X43.trans (X44.trans (X45.trans (X46.trans (X47.trans (X48.trans (X49.trans (X50.trans (X51.trans (X52.trans (X53.trans (X54.trans (X55.trans (X56.trans X57))))))))))))))))))))) _ _ ha35)), by first | rfl | decide⟩ alln)))))))))))
    refine ⟨_, rfl, _, rfl, ⟨_, sq_lst ((X37.trans (X38.trans (X39.trans (X40.trans (X41.trans (X42.trans (X43.trans (X44.trans (X45.trans (X46.trans (X47.trans (X48.trans (X49.trans (X50.trans (X51.trans (X52.trans (X53.trans (X54.trans (X55.trans (X56.trans X57)))))))))))))))))))) _ _ ha36)⟩, ?_⟩
    refine fun D58 nD58 => lc_rows (K := K) (G0 := G57) (xs := [V.non, V.str (Str.ofString ""), V.str (Str.ofString "A"), V.str (Str.ofString "ninelette"), V.str (Str.ofString "a b"), V.int 5, V.bl true, V.ref a33, V.ref a34, V.str (Str.ofString "a1"), V.ref a35]) (wd := 1) nD58 L2.walk_list (fun H0 e0 => sq_lst (e0 _ _ ((X37.trans (X38.trans (X39.trans (X40.trans (X41.trans (X42.trans (X43.trans (X44.trans (X45.trans (X46.trans (X47.trans (X48.trans (X49.trans (X50.trans (X51.trans (X52.trans (X53.trans (X54.trans (X55.trans (X56.trans X57)))))))))))))))))))) _ _ ha36))) (by show 11 ≤ 2000; decide) (fun x H2 acc N hx X hD la kk => ?_) fun ys58 G58 X58 ly58 hR58 ha58 => ?_
    · refine ⟨rfl, ?_⟩
      simp only [tYes, reduceIte]
      refine ⟨_, rfl, (by show 2 ≤ sizeLine; decide), fun t nt => ⟨acc, ex_new nt _ _ hD, la, ?_⟩⟩
      exact kk t "as" [x] _ (ex_new nt) upd_same (.as_n (n6 x hx))
    have ly58 : ys58.length ≤ 11 := ly58
    refine ⟨_, _, _, _, rfl, rfl, (X58 _ _ ha57), ha58, (sz_app ly57 ly58 (by decide)), fun a59 na59 => ?_⟩
    have X59 := ex_new (o := HO.lst (((((ys45 ++ ys46) ++ ys49) ++ ys54) ++ ys56) ++ ys58)) na59
    have ha59 : upd G58 a59 (HO.lst (((((ys45 ++ ys46) ++ ys49) ++ ys54) ++ ys56) ++ ys58)) a59 = some (HO.lst (((((ys45 ++ ys46) ++ ys49) ++ ys54) ++ ys56) ++ ys58)) := upd_same
    generalize upd G58 a59 (HO.lst (((((ys45 ++ ys46) ++ ys49) ++ ys54) ++ ys56) ++ ys58)) = G59 at X59 ha59 ⊢
    have ly59 : (((((ys45 ++ ys46) ++ ys49) ++ ys54) ++ ys56) ++ ys58).length ≤ 87 := len_app ly57 ly58
    exact q _ _ _ (X1.trans (X2.trans (X3.trans (X4.trans (X5.trans (X6.trans (X7.trans (X8.trans (X9.trans (X10.trans (X11.trans (X12.trans (X13.trans (X14.trans (X15.trans (X16.trans (X17.trans (X18.trans (X19.trans (X20.trans (X21.trans (X22.trans (X23.trans (X24.trans (X25.trans (X26.trans (X27.trans (X28.trans (X29.trans (X30.trans (X31.trans (X32.trans (X33.trans (X34.trans (X35.trans (X36.trans (X37.trans (X38.trans (X39.trans (X40.trans (X41.trans (X42.trans (X43.trans (X44.trans (X45.trans (X46.trans (X47.trans (X48.trans (X49.trans (X50.trans (X51.trans (X52.trans (X53.trans (X54.trans (X55.trans (X56.trans (X57.trans (X58.trans X59)))))))))))))))))))))))))))))))))))))))))))))))))))))))))) (ex_fresh (X1.trans (X2.trans (X3.trans (X4.trans (X5.trans (X6.trans (X7.trans (X8.trans (X9.trans (X10.trans (X11.trans (X12.trans (X13.trans (X14.trans (X15.trans (X16.trans (X17.trans (X18.trans (X19.trans (X20.trans (X21.trans (X22.trans (X23.trans (X24.trans (X25.trans (X26.trans (X27.trans (X28.trans (X29.trans (X30.trans (X31.trans (X32.trans (X33.trans (X34.trans (X35.trans (X36.trans (X37.trans (X38.trans (X39.trans (X40.trans (X41.trans (X42.trans (X43.trans (X44.trans (X45.trans (X46.trans (X47.trans (X48.trans (X49.trans (X50.trans (X51.trans (X52.trans (X53.trans (X54.trans (X55.trans (X56.trans (X57.trans X58))))))))))))))))))))))))))))))))))))))))))))))))))))))))) na59) ha59 (RowsAt.app (RowsAt.app (RowsAt.app (RowsAt.app (RowsAt.app (hR45.mono (X45.trans (X46.trans (X47.trans (X48.trans (X49.trans (X50.trans (X51.trans (X52.trans (X53.trans (X54.trans (X55.trans (X56.trans (X57.trans (X58.trans X59)))))))))))))) (X46.trans (X47.trans (X48.trans (X49.trans (X50.trans (X51.trans (X52.trans (X53.trans (X54.trans (X55.trans (X56.trans (X57.trans (X58.trans X59)))))))))))))) (hR46.mono (X46.trans (X47.trans (X48.trans (X49.trans (X50.trans (X51.trans (X52.trans (X53.trans (X54.trans (X55.trans (X56.trans (X57.trans (X58.trans X59))))))))))))) (X47.trans (X48.trans (X49.trans (X50.trans (X51.trans (X52.trans (X53.trans (X54.trans (X55.trans (X56.trans (X57.trans (X58.trans X59)))))))))))))) (hR49.mono (X49.trans (X50.trans (X51.trans (X52.trans (X53.trans (X54.trans (X55.trans (X56.trans (X57.trans (X58.trans X59)))))))))) (X50.trans (X51.trans (X52.trans (X53.trans (X54.trans (X55.trans (X56.trans (X57.trans (X58.trans X59))))))))))) (hR54.mono (X54.trans (X55.trans (X56.trans (X57.trans (X58.trans X59))))) (X55.trans (X56.trans (X57.trans (X58.trans X59)))))) (hR56.mono (X56.trans (X57.trans (X58.trans X59))) (X57.trans (X58.trans X59)))) (hR58.mono (X58.trans X59) X59)) (Nat.le_trans ly59 (by decide))
theorem ok__law_no_leaves {P : Program} {w : World} {K : PySem.W.Frag} {mg : Str → Option Value} {base : Heap} (T : Env K mg) : Fc P w K mg base 66 (He.ga K "_law_no_leaves") [] (sp__law_no_leaves K ) := by
  obtain ⟨fd, D, F⟩ := fb__law_no_leaves T
  exact F.all (D.bindsN fun _ _ _ _ _ _ us hl => match us, hl with | [_, _, _, _], _ => rfl)
end
section
def sp__law_no_others (K : PySem.W.Frag) : Sp := fun vs H Q _ => ∃ (a r s : Addr) (c : CardD) (D : DaysD) (k : Nat), vs = [.ref a, .ref r, .ref s, .int (k : Nat)] ∧ CardAt K H c a ∧ DaysAt K H r D ∧ D.ok ∧ (∃ ts, SprAt K H s ts) ∧ k ≤ 5 ∧ Leaf c ∧ ∀ r xs H', Ex H H' → H r = none → H' r = some (.lst xs) → RowsAt K H' H' 1 xs → xs.length ≤ 900 → Q (.ref r) H'
theorem fb__law_no_others {P : Program} {w : World} {K : PySem.W.Frag} {mg : Str → Option Value} {base : Heap} (T : Env K mg) : ∃ fd, FunD K "_law_no_others" "_law_no_others" (defArgs s__law_no_others) (defBody s__law_no_others) (defScope s__law_no_others) [] [] (He.ga K "_law_no_others") fd ∧ Fb P w K mg base 4 (He.ga K "_law_no_others") fd ["_law_card", "_law_days", "_law_spread", "_law_at"] (sp__law_no_others K) := by
  obtain ⟨fd, F⟩ := T.f__law_no_others
  refine ⟨fd, F, fb_of F sc__law_no_others (fun vs H Q E h => ?_) (fun cdv A outer s H vs Q E hr h => ?_)⟩
  · obtain ⟨a, r, s, c, D, k, rfl, _⟩ := h
    rfl
  · obtain ⟨a, r, s, c, D, k, rfl, hA, hD, kD, ⟨ts, hS⟩, hk, hL, q⟩ := h
    refine ⟨_, (pss_cons (ps_set (i := 4) sc__law_no_others.nd rfl (Or.inl rfl) (pe_lst (pa_cons pe_non (pa_cons pe_bl (pa_cons pe_int (pa_cons pe_int (pa_cons pe_str (pa_cons pe_str (pa_cons (pe_tup pa_nil) (pa_cons (pe_lst pa_nil) (pa_cons pe_dnewK (pa_cons (pv 2) (pa_cons (pv 1) (pa_cons (pe_lst (pa_cons (pv 0) pa_nil)) (pa_cons (pe_tup (pa_cons (pv 0) pa_nil)) pa_nil)))))))))))))))
      (pss_cons (ps_setLc (i := 5) (own := [("_law_thing", 7)]) (by rfl) sc__law_no_others.nd rfl rfl (sw_true rfl rfl rfl (by decide +kernel)) (pi_list (pe_lst (pa_cons pe_non (pa_cons pe_bl (pa_cons pe_int (pa_cons pe_int (pa_cons pe_str (pa_cons pe_str (pa_cons (pe_tup pa_nil) (pa_cons (pe_lst pa_nil) (pa_cons pe_dnewK (pa_cons (pv 0) (pa_cons (pv 2) pa_nil))))))))))))) (blkOk_by (own := [("_law_thing", 7)]) (N := ["_law_card", "_law_days", "_law_spread", "_law_at", "_law_no_card", "_law_rows", "_law_sort", "_law_thing"]) (sc := defScope s__law_no_others) (by decide +kernel)) (fun _ _ _ _ _ => (pg_name (i := 7) sc__law_no_others.nd rfl (Or.inl rfl))) (fun _ _ _ _ _ => pts_nil) (fun _ _ _ _ _ => (pe_tup (pa_cons pe_str (pa_cons (pv 7) pa_nil)))))
      (pss_cons (ps_set (i := 5) sc__law_no_others.nd rfl (Or.inl rfl) (pe_op op_cat (pv 5) (pe_lc (own := [("_law_thing", 7)]) (by rfl) sc__law_no_others.nd (pi_list (pv 4)) (blkOk_by (own := [("_law_thing", 7)]) (N := ["_law_card", "_law_days", "_law_spread", "_law_at", "_law_no_card", "_law_rows", "_law_sort", "_law_thing"]) (sc := defScope s__law_no_others) (by decide +kernel)) (fun _ _ _ _ _ => (pg_name (i := 7) sc__law_no_others.nd rfl (Or.inl rfl))) (fun _ _ _ _ _ => pts_nil) (fun _ _ _ _ _ => (pe_tup (pa_cons pe_str (pa_cons (pe_op op_cat (pe_op op_cat (pe_op op_rep (pe_lst (pa_cons (pv 0) pa_nil)) (pv 3)) (pe_lst (pa_cons (pv 7) pa_nil))) (pe_op op_rep (pe_lst (pa_cons (pv 0) pa_nil)) (pe_op op_sub pe_int (pv 3)))) pa_nil)))))))
      (pss_cons (ps_set (i := 5) sc__law_no_others.nd rfl (Or.inl rfl) (pe_op op_cat (pv 5) (pe_lc (own := [("_law_thing", 7)]) (by rfl) sc__law_no_others.nd (pi_list (pv 4)) (blkOk_by (own := [("_law_thing", 7)]) (N := ["_law_card", "_law_days", "_law_spread", "_law_at", "_law_no_card", "_law_rows", "_law_sort", "_law_thing"]) (sc := defScope s__law_no_others) (by decide +kernel)) (fun _ _ _ _ _ => (pg_name (i := 7) sc__law_no_others.nd rfl (Or.inl rfl))) (fun _ _ _ _ _ => pts_nil) (fun _ _ _ _ _ => (pe_tup (pa_cons pe_str (pa_cons (pe_op (show OpR _ (binaryOp .Add) (rCatA K) from op_catA) (pe_op (op_repAK K) (pe_tup (pa_cons (pv 0) pa_nil)) (pv 3)) (pe_tup (pa_cons (pv 7) pa_nil))) pa_nil)))))))
      (pss_cons (ps_set (i := 5) sc__law_no_others.nd rfl (Or.inl rfl) (pe_op op_cat (pe_op op_cat (pv 5) (pe_lc (own := [("_law_thing", 7)]) (by rfl) sc__law_no_others.nd (pi_list (pv 4)) (blkOk_by (own := [("_law_thing", 7)]) (N := ["_law_card", "_law_days", "_law_spread", "_law_at", "_law_no_card", "_law_rows", "_law_sort", "_law_thing"]) (sc := defScope s__law_no_others) (by decide +kernel)) (fun _ _ _ _ _ => (pg_name (i := 7) sc__law_no_others.nd rfl (Or.inl rfl))) (fun _ _ _ _ _ => pts_nil) (fun _ _ _ _ _ => (pe_tup (pa_cons pe_str (pa_cons (pv 7) (pa_cons (pv 0) pa_nil))))))) (pe_lc (own := [("_law_thing", 7)]) (by rfl) sc__law_no_others.nd (pi_list (pv 4)) (blkOk_by (own := [("_law_thing", 7)]) (N := ["_law_card", "_law_days", "_law_spread", "_law_at", "_law_no_card", "_law_rows", "_law_sort", "_law_thing"]) (sc := defScope s__law_no_others) (by decide +kernel)) (fun _ _ _ _ _ => (pg_name (i := 7) sc__law_no_others.nd rfl (Or.inl rfl))) (fun _ _ _ _ _ => pts_nil) (fun _ _ _ _ _ => (pe_tup (pa_cons pe_str (pa_cons (pv 0) (pa_cons (pv 7) pa_nil))))))))
      (pss_cons (ps_set (i := 5) sc__law_no_others.nd rfl (Or.inl rfl) (pe_op op_cat (pv 5) (pe_lc (own := [("_law_thing", 7)]) (by rfl) sc__law_no_others.nd (pi_list (pv 4)) (blkOk_by (own := [("_law_thing", 7)]) (N := ["_law_card", "_law_days", "_law_spread", "_law_at", "_law_no_card", "_law_rows", "_law_sort", "_law_thing"]) (sc := defScope s__law_no_others) (by decide +kernel)) (fun _ _ _ _ _ => (pg_name (i := 7) sc__law_no_others.nd rfl (Or.inl rfl))) (fun _ _ _ _ _ => pts_nil) (fun _ _ _ _ _ => (pe_tup (pa_cons pe_str (pa_cons (pv 7) (pa_cons (pv 1) (pa_cons (pv 0) pa_nil)))))))))
      (pss_cons (ps_set (i := 5) sc__law_no_others.nd rfl (Or.inl rfl) (pe_op op_cat (pv 5) (pe_lc (own := [("_law_thing", 7)]) (by rfl) sc__law_no_others.nd (pi_list (pv 4)) (blkOk_by (own := [("_law_thing", 7)]) (N := ["_law_card", "_law_days", "_law_spread", "_law_at", "_law_no_card", "_law_rows", "_law_sort", "_law_thing"]) (sc := defScope s__law_no_others) (by decide +kernel)) (fun _ _ _ _ _ => (pg_name (i := 7) sc__law_no_others.nd rfl (Or.inl rfl))) (fun _ _ _ _ _ => pts_nil) (fun _ _ _ _ _ => (pe_tup (pa_cons pe_str (pa_cons (pv 0) (pa_cons (pv 1) (pa_cons (pv 7) pa_nil)))))))))
      (pss_cons (ps_set (i := 5) sc__law_no_others.nd rfl (Or.inl rfl) (pe_op op_cat (pv 5) (pe_lc (own := [("_law_thing", 7)]) (by rfl) sc__law_no_others.nd (pi_list (pe_lst (pa_cons pe_non (pa_cons pe_bl (pa_cons pe_int (pa_cons pe_str (pa_cons (pe_tup pa_nil) (pa_cons (pe_lst pa_nil) (pa_cons pe_dnewK (pa_cons (pv 2) (pa_cons (pv 0) (pa_cons (c_make T.mk_Ring (ok_Ring_init T) (hr.mono (by decide)) T.g_Ring takes0 (pa_cons pe_str pa_nil)) pa_nil)))))))))))) (blkOk_by (own := [("_law_thing", 7)]) (N := ["_law_card", "_law_days", "_law_spread", "_law_at", "_law_no_card", "_law_rows", "_law_sort", "_law_thing"]) (sc := defScope s__law_no_others) (by decide +kernel)) (fun _ _ _ _ _ => (pg_name (i := 7) sc__law_no_others.nd rfl (Or.inl rfl))) (fun _ _ _ _ _ => pts_nil) (fun _ _ _ _ _ => (pe_tup (pa_cons pe_str (pa_cons (pv 0) (pa_cons (pv 7) (pa_cons (pv 0) pa_nil)))))))))
      (pss_cons (ps_set (i := 5) sc__law_no_others.nd rfl (Or.inl rfl) (pe_op op_cat (pe_op op_cat (pv 5) (pe_lc (own := [("_law_thing", 7)]) (by rfl) sc__law_no_others.nd (pi_list (pv 4)) (blkOk_by (own := [("_law_thing", 7)]) (N := ["_law_card", "_law_days", "_law_spread", "_law_at", "_law_no_card", "_law_rows", "_law_sort", "_law_thing"]) (sc := defScope s__law_no_others) (by decide +kernel)) (fun _ _ _ _ _ => (pg_name (i := 7) sc__law_no_others.nd rfl (Or.inl rfl))) (fun _ _ _ _ _ => pts_nil) (fun _ _ _ _ _ => (pe_tup (pa_cons pe_str (pa_cons (pv 7) (pa_cons pe_int pa_nil))))))) (pe_lc (own := [("_law_thing", 7)]) (by rfl) sc__law_no_others.nd (pi_list (pv 4)) (blkOk_by (own := [("_law_thing", 7)]) (N := ["_law_card", "_law_days", "_law_spread", "_law_at", "_law_no_card", "_law_rows", "_law_sort", "_law_thing"]) (sc := defScope s__law_no_others) (by decide +kernel)) (fun _ _ _ _ _ => (pg_name (i := 7) sc__law_no_others.nd rfl (Or.inl rfl))) (fun _ _ _ _ _ => pts_nil) (fun _ _ _ _ _ => (pe_tup (pa_cons pe_str (pa_cons (pv 7) (pa_cons pe_str pa_nil))))))))
      (pss_cons (ps_set (i := 5) sc__law_no_others.nd rfl (Or.inl rfl) (pe_op op_cat (pv 5) (pe_lc (own := [("_law_thing", 7)]) (by rfl) sc__law_no_others.nd (pi_list (pe_lst (pa_cons (pe_un un_neg pe_int) (pa_cons pe_int (pa_cons pe_bl (pa_cons pe_bl (pa_cons pe_non (pa_cons pe_str (pa_cons (pe_tup (pa_cons pe_int pa_nil)) (pa_cons (pe_op op_pow pe_int pe_int) (pa_cons (pe_lst pa_nil) pa_nil))))))))))) (blkOk_by (own := [("_law_thing", 7)]) (N := ["_law_card", "_law_days", "_law_spread", "_law_at", "_law_no_card", "_law_rows", "_law_sort", "_law_thing"]) (sc := defScope s__law_no_others) (by decide +kernel)) (fun _ _ _ _ _ => (pg_name (i := 7) sc__law_no_others.nd rfl (Or.inl rfl))) (fun _ _ _ _ _ => pts_nil) (fun _ _ _ _ _ => (pe_tup (pa_cons pe_str (pa_cons (pv 0) (pa_cons (pv 7) pa_nil))))))))
      (pss_cons (ps_set (i := 5) sc__law_no_others.nd rfl (Or.inl rfl) (pe_op op_cat (pv 5) (pe_lc (own := [("_law_thing", 7)]) (by rfl) sc__law_no_others.nd (pi_list (pe_lst (pa_cons pe_non (pa_cons pe_str (pa_cons pe_str (pa_cons pe_str (pa_cons pe_str (pa_cons pe_int (pa_cons pe_bl (pa_cons (pe_lst (pa_cons pe_str pa_nil)) (pa_cons pe_str pa_nil))))))))))) (blkOk_by (own := [("_law_thing", 7)]) (N := ["_law_card", "_law_days", "_law_spread", "_law_at", "_law_no_card", "_law_rows", "_law_sort", "_law_thing"]) (sc := defScope s__law_no_others) (by decide +kernel)) (fun _ _ _ _ _ => (pg_name (i := 7) sc__law_no_others.nd rfl (Or.inl rfl))) (fun _ _ _ _ _ => pts_nil) (fun _ _ _ _ _ => (pe_tup (pa_cons pe_str (pa_cons (pv 0) (pa_cons (pv 7) pa_nil))))))))
      (pss_cons (ps_for (passes_of rfl) rfl (pi_list (pe_lst (pa_cons pe_str (pa_cons pe_str pa_nil)))) (pg_name (i := 6) sc__law_no_others.nd rfl (Or.inr rfl))
      (pss_one (ps_set (i := 5) sc__law_no_others.nd rfl (Or.inl rfl) (pe_op op_cat (pe_op op_cat (pv 5) (pe_lc (own := [("_law_thing", 7)]) (by rfl) sc__law_no_others.nd (pi_list (pv 4)) (blkOk_by (own := [("_law_thing", 7)]) (N := ["_law_card", "_law_days", "_law_spread", "_law_at", "_law_no_card", "_law_rows", "_law_sort", "_law_thing"]) (sc := defScope s__law_no_others) (by decide +kernel)) (fun _ _ _ _ _ => (pg_name (i := 7) sc__law_no_others.nd rfl (Or.inl rfl))) (fun _ _ _ _ _ => pts_nil) (fun _ _ _ _ _ => (pe_tup (pa_cons (pv 6) (pa_cons (pv 7) (pa_cons pe_int pa_nil))))))) (pe_lc (own := [("_law_thing", 7)]) (by rfl) sc__law_no_others.nd (pi_list (pv 4)) (blkOk_by (own := [("_law_thing", 7)]) (N := ["_law_card", "_law_days", "_law_spread", "_law_at", "_law_no_card", "_law_rows", "_law_sort", "_law_thing"]) (sc := defScope s__law_no_others) (by decide +kernel)) (fun _ _ _ _ _ => (pg_name (i := 7) sc__law_no_others.nd rfl (Or.inl rfl))) (fun _ _ _ _ _ => pts_nil) (fun _ _ _ _ _ => (pe_tup (pa_cons (pv 6) (pa_cons (pv 7) (pa_cons (pe_un un_neg pe_int) pa_nil))))))))))
      (pss_one (ps_ret (pv 5))))))))))))))), ?_⟩
    obtain ⟨dxr, rr0, por, par, hr0, _⟩ := id hD
    obtain ⟨dxs, kps, hds, ass, hs0, _⟩ := id hS
    rw [show (L2.start [Str.ofString "_law_card", Str.ofString "_law_days", Str.ofString "_law_spread", Str.ofString "_law_at", Str.ofString "_law_no_card", Str.ofString "_law_rows", Str.ofString "_law_sort", Str.ofString "_law_thing"] [.ref a, .ref r, .ref s, .int (k : Nat)] : L2.St) = [some (.ref a), some (.ref r), some (.ref s), some (.int (k : Nat)), none, none, none, none] from rfl]
    refine ⟨(by show 0 ≤ sizeLine; decide), fun a1 na1 => ?_⟩
    have X1 := ex_new (o := HO.tup []) na1
    have ha1 : upd H a1 (HO.tup []) a1 = some (HO.tup []) := upd_same
    generalize upd H a1 (HO.tup []) = G1 at X1 ha1 ⊢
    refine ⟨(by show 0 ≤ sizeLine; decide), fun a2 na2 => ?_⟩
    have X2 := ex_new (o := HO.lst []) na2
    have ha2 : upd G1 a2 (HO.lst []) a2 = some (HO.lst []) := upd_same
    generalize upd G1 a2 (HO.lst []) = G2 at X2 ha2 ⊢
    refine fun a3 na3 => ?_
    have X3 := ex_new (o := HO.dK []) na3
    have ha3 : upd G2 a3 (HO.dK []) a3 = some (HO.dK []) := upd_same
    generalize upd G2 a3 (HO.dK []) = G3 at X3 ha3 ⊢
    refine ⟨_, rfl, _, rfl, _, rfl, (by show 1 ≤ sizeLine; decide), fun a4 na4 => ?_⟩
    have X4 := ex_new (o := HO.lst [V.ref a]) na4
    have ha4 : upd G3 a4 (HO.lst [V.ref a]) a4 = some (HO.lst [V.ref a]) := upd_same
    generalize upd G3 a4 (HO.lst [V.ref a]) = G4 at X4 ha4 ⊢
    refine ⟨_, rfl, (by show 1 ≤ sizeLine; decide), fun a5 na5 => ?_⟩
    have X5 := ex_new (o := HO.tup [V.ref a]) na5
    have ha5 : upd G4 a5 (HO.tup [V.ref a]) a5 = some (HO.tup [V.ref a]) := upd_same
    generalize upd G4 a5 (HO.tup [V.ref a]) = G5 at X5 ha5 ⊢
    refine ⟨(by show 13 ≤ sizeLine; decide), fun a6 na6 => ?_⟩
    have X6 := ex_new (o := HO.lst [V.non, V.bl true, V.int 0, V.int 7, V.str (Str.ofString ""), V.str (Str.ofString "a"), V.ref a1, V.ref a2, V.ref a3, V.ref s, V.ref r, V.ref a4, V.ref a5]) na6
    have ha6 : upd G5 a6 (HO.lst [V.non, V.bl true, V.int 0, V.int 7, V.str (Str.ofString ""), V.str (Str.ofString "a"), V.ref a1, V.ref a2, V.ref a3, V.ref s, V.ref r, V.ref a4, V.ref a5]) a6 = some (HO.lst [V.non, V.bl true, V.int 0, V.int 7, V.str (Str.ofString ""), V.str (Str.ofString "a"), V.ref a1, V.ref a2, V.ref a3, V.ref s, V.ref r, V.ref a4, V.ref a5]) := upd_same
    generalize upd G5 a6 (HO.lst [V.non, V.bl true, V.int 0, V.int 7, V.str (Str.ofString ""), V.str (Str.ofString "a"), V.ref a1, V.ref a2, V.ref a3, V.ref s, V.ref r, V.ref a4, V.ref a5]) = G6 at X6 ha6 ⊢
    dsimp only [gName]
    rw [show (List.set [some (.ref a), some (.ref r), some (.ref s), some (.int (k : Nat)), none, none, none, none] 4 (some (V.ref a6)) : L2.St) = [some (.ref a), some (.ref r), some (.ref s), some (.int (k : Nat)), some (V.ref a6), none, none, none] from rfl]
    have n1 : ∀ x ∈ [V.non, V.bl true, V.int 0, V.int 7, V.str (Str.ofString ""), V.str (Str.ofString "a"), V.ref a1, V.ref a2, V.ref a3, V.ref s, V.ref r, V.ref a4, V.ref a5], CdX K G6 x none := (allc (cd_none (.base .non) T.kit_NoneType_Card) (allc (cd_none (.base (.bl _)) T.kit_bool_Card) (allc (cd_none (.base (.int _)) T.kit_int_Card) (allc (cd_none (.base (.int _)) T.kit_int_Card) (allc (cd_none (.base (.str _)) T.kit_str_Card) (allc (cd_none (.base (.str _)) T.kit_str_Card) (allc (cd_none (.base (.tup ((X2.trans (X3.trans (X4.trans (X5.trans X6)))) _ _ ha1))) T.kit_tuple_Card) (allc (cd_none (.base (.lst ((X3.trans (X4.trans (X5.trans X6))) _ _ ha2))) T.kit_list_Card) (allc (cd_none (.base (.dK ((X4.trans (X5.trans X6)) _ _ ha3))) T.kit_dict_Card) (allc (cd_none (ty_ins T.i_Spread T.c_Spread ((X1.trans (X2.trans (X3.trans (X4.trans (X5.trans X6))))) _ _ hs0)) T.kit_Spread_Card) (allc (cd_none (ty_ins T.i_Days T.c_Days ((X1.trans (X2.trans (X3.trans (X4.trans (X5.trans X6))))) _ _ hr0)) T.kit_Days_Card) (allc (cd_none (.base (.lst ((X5.trans X6) _ _ ha4))) T.kit_list_Card) (allc (cd_none (.base (.tup (X6 _ _ ha5))) T.kit_tuple_Card) alln)))))))))))))
    have hcd : CdX K G6 (.ref a) (some c) := ⟨a, rfl, hA.mono (X1.trans (X2.trans (X3.trans (X4.trans (X5.trans X6)))))⟩
    have hdy : DyIs K G6 (.ref r) (some D) := ⟨r, rfl, hD.mono (X1.trans (X2.trans (X3.trans (X4.trans (X5.trans X6))))), kD⟩
    refine ⟨(by show 0 ≤ sizeLine; decide), fun a7 na7 => ?_⟩
    have X7 := ex_new (o := HO.tup []) na7
    have ha7 : upd G6 a7 (HO.tup []) a7 = some (HO.tup []) := upd_same
    generalize upd G6 a7 (HO.tup []) = G7 at X7 ha7 ⊢
    refine ⟨(by show 0 ≤ sizeLine; decide), fun a8 na8 => ?_⟩
    have X8 := ex_new (o := HO.lst []) na8
    have ha8 : upd G7 a8 (HO.lst []) a8 = some (HO.lst []) := upd_same
    generalize upd G7 a8 (HO.lst []) = G8 at X8 ha8 ⊢
    refine fun a9 na9 => ?_
    have X9 := ex_new (o := HO.dK []) na9
    have ha9 : upd G8 a9 (HO.dK []) a9 = some (HO.dK []) := upd_same
    generalize upd G8 a9 (HO.dK []) = G9 at X9 ha9 ⊢
    refine ⟨_, rfl, _, rfl, (by show 11 ≤ sizeLine; decide), fun a10 na10 => ?_⟩
    have X10 := ex_new (o := HO.lst [V.non, V.bl true, V.int 0, V.int 7, V.str (Str.ofString ""), V.str (Str.ofString "a"), V.ref a7, V.ref a8, V.ref a9, V.ref a, V.ref s]) na10
    have ha10 : upd G9 a10 (HO.lst [V.non, V.bl true, V.int 0, V.int 7, V.str (Str.ofString ""), V.str (Str.ofString "a"), V.ref a7, V.ref a8, V.ref a9, V.ref a, V.ref s]) a10 = some (HO.lst [V.non, V.bl true, V.int 0, V.int 7, V.str (Str.ofString ""), V.str (Str.ofString "a"), V.ref a7, V.ref a8, V.ref a9, V.ref a, V.ref s]) := upd_same
    generalize upd G9 a10 (HO.lst [V.non, V.bl true, V.int 0, V.int 7, V.str (Str.ofString ""), V.str (Str.ofString "a"), V.ref a7, V.ref a8, V.ref a9, V.ref a, V.ref s]) = G10 at X10 ha10 ⊢
    have n0 : ∀ x ∈ [V.non, V.bl true, V.int 0, V.int 7, V.str (Str.ofString ""), V.str (Str.ofString "a"), V.ref a7, V.ref a8, V.ref a9, V.ref a, V.ref s], DnX K G10 "join" [x] 1 := (allc (jn_none (.base .non) (kit_ty (by decide +kernel)) (kit_ty (by decide +kernel))) (allc (jn_none (.base (.bl _)) (kit_ty (by decide +kernel)) (kit_ty (by decide +kernel))) (allc (jn_none (.base (.int _)) (kit_ty (by decide +kernel)) (kit_ty (by decide +kernel))) (allc (jn_none (.base (.int _)) (kit_ty (by decide +kernel)) (kit_ty (by decide +kernel))) (allc (jn_none (.base (.str _)) (kit_ty (by decide +kernel)) (kit_ty (by decide +kernel))) (allc (jn_none (.base (.str _)) (kit_ty (by decide +kernel)) (kit_ty (by decide +kernel))) (allc (jn_nil (.inr ((X8.trans (X9.trans X10)) _ _ ha7))) (allc (jn_nil (.inl ((X9.trans X10) _ _ ha8))) (allc (jn_none (.base (.dK (X10 _ _ ha9))) (kit_ty (by decide +kernel)) (kit_ty (by decide +kernel))) (allc (leaf_jn T (hA.mono (X1.trans (X2.trans (X3.trans (X4.trans (X5.trans (X6.trans (X7.trans (X8.trans (X9.trans X10)))))))))) hL) (allc (jn_none (ty_ins T.i_Spread T.c_Spread ((X1.trans (X2.trans (X3.trans (X4.trans (X5.trans (X6.trans (X7.trans (X8.trans (X9.trans X10))))))))) _ _ hs0)) T.kit_Spread_list T.kit_Spread_tuple) alln)))))))))))
    refine ⟨_, rfl, ⟨_, sq_lst ha10⟩, ?_⟩
    refine fun D11 nD11 => lc_rows (K := K) (G0 := G10) (xs := [V.non, V.bl true, V.int 0, V.int 7, V.str (Str.ofString ""), V.str (Str.ofString "a"), V.ref a7, V.ref a8, V.ref a9, V.ref a, V.ref s]) (wd := 1) nD11 L2.walk_list (fun H0 e0 => sq_lst (e0 _ _ ha10)) (by show 11 ≤ 2000; decide) (fun x H2 acc N hx X hD la kk => ?_) fun ys11 G11 X11 ly11 hR11 ha11 => ?_
    · refine ⟨rfl, ?_⟩
      simp only [tYes, reduceIte]
      refine ⟨_, rfl, (by show 2 ≤ sizeLine; decide), fun t nt => ⟨acc, ex_new nt _ _ hD, la, ?_⟩⟩
      exact kk t "join" [x] _ (ex_new nt) upd_same (n0 x hx)
    have ly11 : ys11.length ≤ 11 := ly11
    dsimp only [gName]
    rw [show (List.set [some (.ref a), some (.ref r), some (.ref s), some (.int (k : Nat)), some (V.ref a6), none, none, none] 5 (some (V.ref D11)) : L2.St) = [some (.ref a), some (.ref r), some (.ref s), some (.int (k : Nat)), some (V.ref a6), some (V.ref D11), none, none] from rfl]
    refine ⟨_, rfl, ?_⟩
    refine ⟨_, rfl, _, rfl, ⟨_, sq_lst ((X7.trans (X8.trans (X9.trans (X10.trans X11)))) _ _ ha6)⟩, ?_⟩
    refine fun D12 nD12 => lc_rowsN (K := K) (G0 := G11) (xs := [V.non, V.bl true, V.int 0, V.int 7, V.str (Str.ofString ""), V.str (Str.ofString "a"), V.ref a1, V.ref a2, V.ref a3, V.ref s, V.ref r, V.ref a4, V.ref a5]) (wd := 1) nD12 L2.walk_list (fun H0 e0 => sq_lst (e0 _ _ ((X7.trans (X8.trans (X9.trans (X10.trans X11)))) _ _ ha6))) (by show 13 ≤ 2000; decide) (fun x H2 acc N hx X hD la kk => ?_) fun ys12 G12 X12 ly12 hR12 ha12 => ?_
    · refine ⟨rfl, ?_⟩
      simp only [tYes, reduceIte]
      refine ⟨_, rfl, (by show 1 ≤ sizeLine; decide), fun b1 m1 => ?_⟩
      have E1 := ex_new (o := HO.lst [V.ref a]) m1
      have hb1 : upd H2 b1 (HO.lst [V.ref a]) b1 = some (HO.lst [V.ref a]) := upd_same
      generalize upd H2 b1 (HO.lst [V.ref a]) = F1 at E1 hb1 ⊢
      refine ⟨_, rfl, b1, (k : Nat), _, rfl, rfl, hb1, by omega, by omega, (by rw [Int.toNat_natCast, sizeLine_eq, List.length_singleton]; omega), fun b2 m2 => ?_⟩
      rw [Int.toNat_natCast, rep_one]
      have E2 := ex_new (o := HO.lst (List.replicate k (V.ref a))) m2
      have hb2 : upd F1 b2 (HO.lst (List.replicate k (V.ref a))) b2 = some (HO.lst (List.replicate k (V.ref a))) := upd_same
      generalize upd F1 b2 (HO.lst (List.replicate k (V.ref a))) = F2 at E2 hb2 ⊢
      refine ⟨_, rfl, (by show 1 ≤ sizeLine; decide), fun b3 m3 => ?_⟩
      have E3 := ex_new (o := HO.lst [x]) m3
      have hb3 : upd F2 b3 (HO.lst [x]) b3 = some (HO.lst [x]) := upd_same
      generalize upd F2 b3 (HO.lst [x]) = F3 at E3 hb3 ⊢
      refine ⟨b2, b3, _, _, rfl, rfl, E3 _ _ hb2, hb3, (by rw [List.length_replicate, sizeLine_eq, List.length_singleton]; omega), fun b4 m4 => ?_⟩
      have E4 := ex_new (o := HO.lst (List.replicate k (V.ref a) ++ [x])) m4
      have hb4 : upd F3 b4 (HO.lst (List.replicate k (V.ref a) ++ [x])) b4 = some (HO.lst (List.replicate k (V.ref a) ++ [x])) := upd_same
      generalize upd F3 b4 (HO.lst (List.replicate k (V.ref a) ++ [x])) = F4 at E4 hb4 ⊢
      refine ⟨_, rfl, (by show 1 ≤ sizeLine; decide), fun b5 m5 => ?_⟩
      have E5 := ex_new (o := HO.lst [V.ref a]) m5
      have hb5 : upd F4 b5 (HO.lst [V.ref a]) b5 = some (HO.lst [V.ref a]) := upd_same
      generalize upd F4 b5 (HO.lst [V.ref a]) = F5 at E5 hb5 ⊢
      refine ⟨_, rfl, _, _, rfl, rfl, b5, ((5 - k : Nat) : Int), _, rfl, (by show V.int (5 - (k : Int)) = _; rw [Int.ofNat_sub hk]; rfl), hb5, by omega, by omega, (by rw [Int.toNat_natCast, sizeLine_eq, List.length_singleton]; omega), fun b6 m6 => ?_⟩
      rw [Int.toNat_natCast, rep_one]
      have E6 := ex_new (o := HO.lst (List.replicate (5 - k) (V.ref a))) m6
      have hb6 : upd F5 b6 (HO.lst (List.replicate (5 - k) (V.ref a))) b6 = some (HO.lst (List.replicate (5 - k) (V.ref a))) := upd_same
      generalize upd F5 b6 (HO.lst (List.replicate (5 - k) (V.ref a))) = F6 at E6 hb6 ⊢
      refine ⟨b4, b6, _, _, rfl, rfl, E6 _ _ (E5 _ _ hb4), hb6, (by rw [List.length_append, List.length_replicate, List.length_replicate, sizeLine_eq, List.length_singleton]; omega), fun b7 m7 => ?_⟩
      have E7 := ex_new (o := HO.lst (List.replicate k (V.ref a) ++ [x] ++ List.replicate (5 - k) (V.ref a))) m7
      have hb7 : upd F6 b7 (HO.lst (List.replicate k (V.ref a) ++ [x] ++ List.replicate (5 - k) (V.ref a))) b7 = some (HO.lst (List.replicate k (V.ref a) ++ [x] ++ List.replicate (5 - k) (V.ref a))) := upd_same
      generalize upd F6 b7 (HO.lst (List.replicate k (V.ref a) ++ [x] ++ List.replicate (5 - k) (V.ref a))) = F7 at E7 hb7 ⊢
      have E := E1.trans (E2.trans (E3.trans (E4.trans (E5.trans (E6.trans E7)))))
      have nb : b7 ≠ D12 := fun z => by have z2 := E1.trans (E2.trans (E3.trans (E4.trans (E5.trans E6)))) _ _ hD; rw [← z, m7] at z2; cases z2
      refine ⟨(by show 2 ≤ sizeLine; decide), fun t nt => ⟨acc, ex_new nt _ _ (E _ _ hD), la, ?_⟩⟩
      refine kk t "join" [.ref b7] _ (E.trans (ex_new nt)) upd_same fun ys => ?_
      have XX : Ex G11 (upd (upd F7 t (.tup [.str (Str.ofString "join"), .ref b7])) D12 (.lst ys)) := ex_mut ((X.trans E).trans (ex_new nt)) nD12
      exact jn_mix (n := k) (m := 5 - k) (b := .ref a) (.inl (by rw [upd_ne nb]; exact ex_new nt _ _ hb7)) (by omega) ((hcd.mono (X7.trans (X8.trans (X9.trans (X10.trans X11))))).mono XX) (((n1 x hx).mono (X7.trans (X8.trans (X9.trans (X10.trans X11))))).mono XX)
    have ly12 : ys12.length ≤ 13 := ly12
    refine ⟨_, _, _, _, rfl, rfl, (X12 _ _ ha11), ha12, (sz_app ly11 ly12 (by decide)), fun a13 na13 => ?_⟩
    have X13 := ex_new (o := HO.lst (ys11 ++ ys12)) na13
    have ha13 : upd G12 a13 (HO.lst (ys11 ++ ys12)) a13 = some (HO.lst (ys11 ++ ys12)) := upd_same
    generalize upd G12 a13 (HO.lst (ys11 ++ ys12)) = G13 at X13 ha13 ⊢
    have ly13 : (ys11 ++ ys12).length ≤ 24 := len_app ly11 ly12
    dsimp only [gName]
    rw [show (List.set [some (.ref a), some (.ref r), some (.ref s), some (.int (k : Nat)), some (V.ref a6), some (V.ref D11), none, none] 5 (some (V.ref a13)) : L2.St) = [some (.ref a), some (.ref r), some (.ref s), some (.int (k : Nat)), some (V.ref a6), some (V.ref a13), none, none] from rfl]
    refine ⟨_, rfl, ?_⟩
    refine ⟨_, rfl, _, rfl, ⟨_, sq_lst ((X7.trans (X8.trans (X9.trans (X10.trans (X11.trans (X12.trans X13)))))) _ _ ha6)⟩, ?_⟩
    refine fun D14 nD14 => lc_rowsN (K := K) (G0 := G13) (xs := [V.non, V.bl true, V.int 0, V.int 7, V.str (Str.ofString ""), V.str (Str.ofString "a"), V.ref a1, V.ref a2, V.ref a3, V.ref s, V.ref r, V.ref a4, V.ref a5]) (wd := 1) nD14 L2.walk_list (fun H0 e0 => sq_lst (e0 _ _ ((X7.trans (X8.trans (X9.trans (X10.trans (X11.trans (X12.trans X13)))))) _ _ ha6))) (by show 13 ≤ 2000; decide) (fun x H2 acc N hx X hD la kk => ?_) fun ys14 G14 X14 ly14 hR14 ha14 => ?_
    · refine ⟨rfl, ?_⟩
      simp only [tYes, reduceIte]
      refine ⟨_, rfl, (by show 1 ≤ sizeLine; decide), fun b1 m1 => ?_⟩
      have E1 := ex_new (o := HO.tup [V.ref a]) m1
      have hb1 : upd H2 b1 (HO.tup [V.ref a]) b1 = some (HO.tup [V.ref a]) := upd_same
      generalize upd H2 b1 (HO.tup [V.ref a]) = F1 at E1 hb1 ⊢
      refine ⟨_, rfl, repH hb1 (by simp) (by omega) (by show 1 ≤ 1000; decide) fun b2 F2 E2 hb2 => ?_⟩
      rw [rep_one] at hb2
      refine ⟨_, rfl, (by show 1 ≤ sizeLine; decide), fun b3 m3 => ?_⟩
      have E3 := ex_new (o := HO.tup [x]) m3
      have hb3 : upd F2 b3 (HO.tup [x]) b3 = some (HO.tup [x]) := upd_same
      generalize upd F2 b3 (HO.tup [x]) = F3 at E3 hb3 ⊢
      refine catH (E3 _ _ hb2) hb3 (by rw [List.length_replicate, sizeLine_eq, List.length_singleton]; omega) fun b4 F4 E4 hb4 => ?_
      have E := E1.trans (E2.trans (E3.trans E4))
      have nb : b4 ≠ D14 := fun z => by have z2 := E _ _ hD; rw [← z, hb4] at z2; cases z2
      refine ⟨(by show 2 ≤ sizeLine; decide), fun t nt => ⟨acc, ex_new nt _ _ (E _ _ hD), la, ?_⟩⟩
      refine kk t "join" [.ref b4] _ (E.trans (ex_new nt)) upd_same fun ys => ?_
      have XX : Ex G13 (upd (upd F4 t (.tup [.str (Str.ofString "join"), .ref b4])) D14 (.lst ys)) := ex_mut ((X.trans E).trans (ex_new nt)) nD14
      exact jn_mix (n := k) (m := 0) (b := .ref a) (.inr (by show _ = some (HO.tup (_ ++ [])); rw [List.append_nil, upd_ne nb]; exact ex_new nt _ _ hb4)) (by omega) ((hcd.mono (X7.trans (X8.trans (X9.trans (X10.trans (X11.trans (X12.trans X13))))))).mono XX) (((n1 x hx).mono (X7.trans (X8.trans (X9.trans (X10.trans (X11.trans (X12.trans X13))))))).mono XX)
    have ly14 : ys14.length ≤ 13 := ly14
    refine ⟨_, _, _, _, rfl, rfl, (X14 _ _ ha13), ha14, (sz_app ly13 ly14 (by decide)), fun a15 na15 => ?_⟩
    have X15 := ex_new (o := HO.lst ((ys11 ++ ys12) ++ ys14)) na15
    have ha15 : upd G14 a15 (HO.lst ((ys11 ++ ys12) ++ ys14)) a15 = some (HO.lst ((ys11 ++ ys12) ++ ys14)) := upd_same
    generalize upd G14 a15 (HO.lst ((ys11 ++ ys12) ++ ys14)) = G15 at X15 ha15 ⊢
    have ly15 : ((ys11 ++ ys12) ++ ys14).length ≤ 37 := len_app ly13 ly14
    dsimp only [gName]
    rw [show (List.set [some (.ref a), some (.ref r), some (.ref s), some (.int (k : Nat)), some (V.ref a6), some (V.ref a13), none, none] 5 (some (V.ref a15)) : L2.St) = [some (.ref a), some (.ref r), some (.ref s), some (.int (k : Nat)), some (V.ref a6), some (V.ref a15), none, none] from rfl]
    refine ⟨_, rfl, ?_⟩
    refine ⟨_, rfl, _, rfl, ⟨_, sq_lst ((X7.trans (X8.trans (X9.trans (X10.trans (X11.trans (X12.trans (X13.trans (X14.trans X15)))))))) _ _ ha6)⟩, ?_⟩
    refine fun D16 nD16 => lc_rows (K := K) (G0 := G15) (xs := [V.non, V.bl true, V.int 0, V.int 7, V.str (Str.ofString ""), V.str (Str.ofString "a"), V.ref a1, V.ref a2, V.ref a3, V.ref s, V.ref r, V.ref a4, V.ref a5]) (wd := 1) nD16 L2.walk_list (fun H0 e0 => sq_lst (e0 _ _ ((X7.trans (X8.trans (X9.trans (X10.trans (X11.trans (X12.trans (X13.trans (X14.trans X15)))))))) _ _ ha6))) (by show 13 ≤ 2000; decide) (fun x H2 acc N hx X hD la kk => ?_) fun ys16 G16 X16 ly16 hR16 ha16 => ?_
    · refine ⟨rfl, ?_⟩
      simp only [tYes, reduceIte]
      refine ⟨_, rfl, _, rfl, (by show 3 ≤ sizeLine; decide), fun t nt => ⟨acc, ex_new nt _ _ hD, la, ?_⟩⟩
      exact kk t "less" [x, .ref a] _ (ex_new nt) upd_same (.less_n ((n1 x hx).mono (X7.trans (X8.trans (X9.trans (X10.trans (X11.trans (X12.trans (X13.trans (X14.trans X15))))))))) (hcd.mono (X7.trans (X8.trans (X9.trans (X10.trans (X11.trans (X12.trans (X13.trans (X14.trans X15))))))))) nofun)
    have ly16 : ys16.length ≤ 13 := ly16
    refine ⟨_, _, _, _, rfl, rfl, (X16 _ _ ha15), ha16, (sz_app ly15 ly16 (by decide)), fun a17 na17 => ?_⟩
    have X17 := ex_new (o := HO.lst (((ys11 ++ ys12) ++ ys14) ++ ys16)) na17
    have ha17 : upd G16 a17 (HO.lst (((ys11 ++ ys12) ++ ys14) ++ ys16)) a17 = some (HO.lst (((ys11 ++ ys12) ++ ys14) ++ ys16)) := upd_same
    generalize upd G16 a17 (HO.lst (((ys11 ++ ys12) ++ ys14) ++ ys16)) = G17 at X17 ha17 ⊢
    have ly17 : (((ys11 ++ ys12) ++ ys14) ++ ys16).length ≤ 50 := len_app ly15 ly16
    refine ⟨_, rfl, _, rfl, ⟨_, sq_lst ((X7.trans (X8.trans (X9.trans (X10.trans (X11.trans (X12.trans (X13.trans (X14.trans (X15.trans (X16.trans X17)))))))))) _ _ ha6)⟩, ?_⟩
    refine fun D18 nD18 => lc_rows (K := K) (G0 := G17) (xs := [V.non, V.bl true, V.int 0, V.int 7, V.str (Str.ofString ""), V.str (Str.ofString "a"), V.ref a1, V.ref a2, V.ref a3, V.ref s, V.ref r, V.ref a4, V.ref a5]) (wd := 1) nD18 L2.walk_list (fun H0 e0 => sq_lst (e0 _ _ ((X7.trans (X8.trans (X9.trans (X10.trans (X11.trans (X12.trans (X13.trans (X14.trans (X15.trans (X16.trans X17)))))))))) _ _ ha6))) (by show 13 ≤ 2000; decide) (fun x H2 acc N hx X hD la kk => ?_) fun ys18 G18 X18 ly18 hR18 ha18 => ?_
    · refine ⟨rfl, ?_⟩
      simp only [tYes, reduceIte]
      refine ⟨_, rfl, _, rfl, (by show 3 ≤ sizeLine; decide), fun t nt => ⟨acc, ex_new nt _ _ hD, la, ?_⟩⟩
      exact kk t "less" [.ref a, x] _ (ex_new nt) upd_same (.less_n (hcd.mono (X7.trans (X8.trans (X9.trans (X10.trans (X11.trans (X12.trans (X13.trans (X14.trans (X15.trans (X16.trans X17))))))))))) ((n1 x hx).mono (X7.trans (X8.trans (X9.trans (X10.trans (X11.trans (X12.trans (X13.trans (X14.trans (X15.trans (X16.trans X17))))))))))) (fun _ _ _ e => nomatch e))
    have ly18 : ys18.length ≤ 13 := ly18
    refine ⟨_, _, _, _, rfl, rfl, (X18 _ _ ha17), ha18, (sz_app ly17 ly18 (by decide)), fun a19 na19 => ?_⟩
    have X19 := ex_new (o := HO.lst ((((ys11 ++ ys12) ++ ys14) ++ ys16) ++ ys18)) na19
    have ha19 : upd G18 a19 (HO.lst ((((ys11 ++ ys12) ++ ys14) ++ ys16) ++ ys18)) a19 = some (HO.lst ((((ys11 ++ ys12) ++ ys14) ++ ys16) ++ ys18)) := upd_same
    generalize upd G18 a19 (HO.lst ((((ys11 ++ ys12) ++ ys14) ++ ys16) ++ ys18)) = G19 at X19 ha19 ⊢
    have ly19 : ((((ys11 ++ ys12) ++ ys14) ++ ys16) ++ ys18).length ≤ 63 := len_app ly17 ly18
    dsimp only [gName]
    rw [show (List.set [some (.ref a), some (.ref r), some (.ref s), some (.int (k : Nat)), some (V.ref a6), some (V.ref a15), none, none] 5 (some (V.ref a19)) : L2.St) = [some (.ref a), some (.ref r), some (.ref s), some (.int (k : Nat)), some (V.ref a6), some (V.ref a19), none, none] from rfl]
    refine ⟨_, rfl, ?_⟩
    refine ⟨_, rfl, _, rfl, ⟨_, sq_lst ((X7.trans (X8.trans (X9.trans (X10.trans (X11.trans (X12.trans (X13.trans (X14.trans (X15.trans (X16.trans (X17.trans (X18.trans X19)))))))))))) _ _ ha6)⟩, ?_⟩
    refine fun D20 nD20 => lc_rows (K := K) (G0 := G19) (xs := [V.non, V.bl true, V.int 0, V.int 7, V.str (Str.ofString ""), V.str (Str.ofString "a"), V.ref a1, V.ref a2, V.ref a3, V.ref s, V.ref r, V.ref a4, V.ref a5]) (wd := 1) nD20 L2.walk_list (fun H0 e0 => sq_lst (e0 _ _ ((X7.trans (X8.trans (X9.trans (X10.trans (X11.trans (X12.trans (X13.trans (X14.trans (X15.trans (X16.trans (X17.trans (X18.trans X19)))))))))))) _ _ ha6))) (by show 13 ≤ 2000; decide) (fun x H2 acc N hx X hD la kk => ?_) fun ys20 G20 X20 ly20 hR20 ha20 => ?_
    · refine ⟨rfl, ?_⟩
      simp only [tYes, reduceIte]
      refine ⟨_, rfl, _, rfl, _, rfl, (by show 4 ≤ sizeLine; decide), fun t nt => ⟨acc, ex_new nt _ _ hD, la, ?_⟩⟩
      exact kk t "swap" [x, .ref r, .ref a] _ (ex_new nt) upd_same (.swap_n (rd := some D) (hdy.mono (X7.trans (X8.trans (X9.trans (X10.trans (X11.trans (X12.trans (X13.trans (X14.trans (X15.trans (X16.trans (X17.trans (X18.trans X19))))))))))))) (fun _ => ⟨((n1 x hx).mono (X7.trans (X8.trans (X9.trans (X10.trans (X11.trans (X12.trans (X13.trans (X14.trans (X15.trans (X16.trans (X17.trans (X18.trans X19))))))))))))), (hcd.mono (X7.trans (X8.trans (X9.trans (X10.trans (X11.trans (X12.trans (X13.trans (X14.trans (X15.trans (X16.trans (X17.trans (X18.trans X19)))))))))))))⟩) (fun _ _ _ e => nomatch e))
    have ly20 : ys20.length ≤ 13 := ly20
    refine ⟨_, _, _, _, rfl, rfl, (X20 _ _ ha19), ha20, (sz_app ly19 ly20 (by decide)), fun a21 na21 => ?_⟩
    have X21 := ex_new (o := HO.lst (((((ys11 ++ ys12) ++ ys14) ++ ys16) ++ ys18) ++ ys20)) na21
    have ha21 : upd G20 a21 (HO.lst (((((ys11 ++ ys12) ++ ys14) ++ ys16) ++ ys18) ++ ys20)) a21 = some (HO.lst (((((ys11 ++ ys12) ++ ys14) ++ ys16) ++ ys18) ++ ys20)) := upd_same
    generalize upd G20 a21 (HO.lst (((((ys11 ++ ys12) ++ ys14) ++ ys16) ++ ys18) ++ ys20)) = G21 at X21 ha21 ⊢
    have ly21 : (((((ys11 ++ ys12) ++ ys14) ++ ys16) ++ ys18) ++ ys20).length ≤ 76 := len_app ly19 ly20
    dsimp only [gName]
    rw [show (List.set [some (.ref a), some (.ref r), some (.ref s), some (.int (k : Nat)), some (V.ref a6), some (V.ref a19), none, none] 5 (some (V.ref a21)) : L2.St) = [some (.ref a), some (.ref r), some (.ref s), some (.int (k : Nat)), some (V.ref a6), some (V.ref a21), none, none] from rfl]
    refine ⟨_, rfl, ?_⟩
    refine ⟨_, rfl, _, rfl, ⟨_, sq_lst ((X7.trans (X8.trans (X9.trans (X10.trans (X11.trans (X12.trans (X13.trans (X14.trans (X15.trans (X16.trans (X17.trans (X18.trans (X19.trans (X20.trans X21)))))))))))))) _ _ ha6)⟩, ?_⟩
    refine fun D22 nD22 => lc_rows (K := K) (G0 := G21) (xs := [V.non, V.bl true, V.int 0, V.int 7, V.str (Str.ofString ""), V.str (Str.ofString "a"), V.ref a1, V.ref a2, V.ref a3, V.ref s, V.ref r, V.ref a4, V.ref a5]) (wd := 1) nD22 L2.walk_list (fun H0 e0 => sq_lst (e0 _ _ ((X7.trans (X8.trans (X9.trans (X10.trans (X11.trans (X12.trans (X13.trans (X14.trans (X15.trans (X16.trans (X17.trans (X18.trans (X19.trans (X20.trans X21)))))))))))))) _ _ ha6))) (by show 13 ≤ 2000; decide) (fun x H2 acc N hx X hD la kk => ?_) fun ys22 G22 X22 ly22 hR22 ha22 => ?_
    · refine ⟨rfl, ?_⟩
      simp only [tYes, reduceIte]
      refine ⟨_, rfl, _, rfl, _, rfl, (by show 4 ≤ sizeLine; decide), fun t nt => ⟨acc, ex_new nt _ _ hD, la, ?_⟩⟩
      exact kk t "swap" [.ref a, .ref r, x] _ (ex_new nt) upd_same (.swap_n (rd := some D) (hdy.mono (X7.trans (X8.trans (X9.trans (X10.trans (X11.trans (X12.trans (X13.trans (X14.trans (X15.trans (X16.trans (X17.trans (X18.trans (X19.trans (X20.trans X21))))))))))))))) (fun _ => ⟨(hcd.mono (X7.trans (X8.trans (X9.trans (X10.trans (X11.trans (X12.trans (X13.trans (X14.trans (X15.trans (X16.trans (X17.trans (X18.trans (X19.trans (X20.trans X21))))))))))))))), ((n1 x hx).mono (X7.trans (X8.trans (X9.trans (X10.trans (X11.trans (X12.trans (X13.trans (X14.trans (X15.trans (X16.trans (X17.trans (X18.trans (X19.trans (X20.trans X21)))))))))))))))⟩) (fun _ _ _ _ e => nomatch e))
    have ly22 : ys22.length ≤ 13 := ly22
    refine ⟨_, _, _, _, rfl, rfl, (X22 _ _ ha21), ha22, (sz_app ly21 ly22 (by decide)), fun a23 na23 => ?_⟩
    have X23 := ex_new (o := HO.lst ((((((ys11 ++ ys12) ++ ys14) ++ ys16) ++ ys18) ++ ys20) ++ ys22)) na23
    have ha23 : upd G22 a23 (HO.lst ((((((ys11 ++ ys12) ++ ys14) ++ ys16) ++ ys18) ++ ys20) ++ ys22)) a23 = some (HO.lst ((((((ys11 ++ ys12) ++ ys14) ++ ys16) ++ ys18) ++ ys20) ++ ys22)) := upd_same
    generalize upd G22 a23 (HO.lst ((((((ys11 ++ ys12) ++ ys14) ++ ys16) ++ ys18) ++ ys20) ++ ys22)) = G23 at X23 ha23 ⊢
    have ly23 : ((((((ys11 ++ ys12) ++ ys14) ++ ys16) ++ ys18) ++ ys20) ++ ys22).length ≤ 89 := len_app ly21 ly22
    dsimp only [gName]
    rw [show (List.set [some (.ref a), some (.ref r), some (.ref s), some (.int (k : Nat)), some (V.ref a6), some (V.ref a21), none, none] 5 (some (V.ref a23)) : L2.St) = [some (.ref a), some (.ref r), some (.ref s), some (.int (k : Nat)), some (V.ref a6), some (V.ref a23), none, none] from rfl]
    refine ⟨_, rfl, ?_⟩
    refine ⟨(by show 0 ≤ sizeLine; decide), fun a24 na24 => ?_⟩
    have X24 := ex_new (o := HO.tup []) na24
    have ha24 : upd G23 a24 (HO.tup []) a24 = some (HO.tup []) := upd_same
    generalize upd G23 a24 (HO.tup []) = G24 at X24 ha24 ⊢
    refine ⟨(by show 0 ≤ sizeLine; decide), fun a25 na25 => ?_⟩
    have X25 := ex_new (o := HO.lst []) na25
    have ha25 : upd G24 a25 (HO.lst []) a25 = some (HO.lst []) := upd_same
    generalize upd G24 a25 (HO.lst []) = G25 at X25 ha25 ⊢
    refine fun a26 na26 => ?_
    have X26 := ex_new (o := HO.dK []) na26
    have ha26 : upd G25 a26 (HO.dK []) a26 = some (HO.dK []) := upd_same
    generalize upd G25 a26 (HO.dK []) = G26 at X26 ha26 ⊢
    refine ⟨_, rfl, _, rfl, ?_⟩
    refine fun a27 d27 na27 nd27 ne27 => ?_
    show sp_Ring_init K [.ref a27, .str (SX.S [49])] _ _ _
    refine ring_new (l := [49]) na27 nd27 ne27 (by decide) fun G27 X27 ha27 => ⟨rfl, ?_⟩
    obtain ⟨dx27, hb27⟩ := id ha27
    refine ⟨(by show 10 ≤ sizeLine; decide), fun a28 na28 => ?_⟩
    have X28 := ex_new (o := HO.lst [V.non, V.bl true, V.int 0, V.str (Str.ofString "1"), V.ref a24, V.ref a25, V.ref a26, V.ref s, V.ref a, V.ref a27]) na28
    have ha28 : upd G27 a28 (HO.lst [V.non, V.bl true, V.int 0, V.str (Str.ofString "1"), V.ref a24, V.ref a25, V.ref a26, V.ref s, V.ref a, V.ref a27]) a28 = some (HO.lst [V.non, V.bl true, V.int 0, V.str (Str.ofString "1"), V.ref a24, V.ref a25, V.ref a26, V.ref s, V.ref a, V.ref a27]) := upd_same
    generalize upd G27 a28 (HO.lst [V.non, V.bl true, V.int 0, V.str (Str.ofString "1"), V.ref a24, V.ref a25, V.ref a26, V.ref s, V.ref a, V.ref a27]) = G28 at X28 ha28 ⊢
    have n4 : ∀ x ∈ [V.non, V.bl true, V.int 0, V.str (Str.ofString "1"), V.ref a24, V.ref a25, V.ref a26, V.ref s, V.ref a, V.ref a27], DyIs K G28 x none := (allc (dy_none (.base .non) T.kit_NoneType_Days) (allc (dy_none (.base (.bl _)) T.kit_bool_Days) (allc (dy_none (.base (.int _)) T.kit_int_Days) (allc (dy_none (.base (.str _)) T.kit_str_Days) (allc (dy_none (.base (.tup ((X25.trans (X26.trans (X27.trans X28))) _ _ ha24))) T.kit_tuple_Days) (allc (dy_none (.base (.lst ((X26.trans (X27.trans X28)) _ _ ha25))) T.kit_list_Days) (allc (dy_none (.base (.dK ((X27.trans X28) _ _ ha26))) T.kit_dict_Days) (allc (dy_none (ty_ins T.i_Spread T.c_Spread ((X1.trans (X2.trans (X3.trans (X4.trans (X5.trans (X6.trans (X7.trans (X8.trans (X9.trans (X10.trans (X11.trans (X12.trans (X13.trans (X14.trans (X15.trans (X16.trans (X17.trans (X18.trans (X19.trans (X20.trans (X21.trans (X22.trans (X23.trans (X24.trans (X25.trans (X26.trans (X27.trans X28))))))))))))))))))))))))))) _ _ hs0)) T.kit_Spread_Days) (allc (leaf_no T (hA.mono (X1.trans (X2.trans (X3.trans (X4.trans (X5.trans (X6.trans (X7.trans (X8.trans (X9.trans (X10.trans (X11.trans (X12.trans (X13.trans (X14.trans (X15.trans (X16.trans (X17.trans (X18.trans (X19.trans (X20.trans (X21.trans (X22.trans (X23.trans (X24.trans (X25.trans (X26.trans (X27.trans X28)))))))))))))))))))))))))))) hL).2 (allc (dy_none (ty_ins T.i_Ring T.c_Ring (X28 _ _ hb27)) T.kit_Ring_Days) alln))))))))))
    refine ⟨_, rfl, ⟨_, sq_lst ha28⟩, ?_⟩
    refine fun D29 nD29 => lc_rows (K := K) (G0 := G28) (xs := [V.non, V.bl true, V.int 0, V.str (Str.ofString "1"), V.ref a24, V.ref a25, V.ref a26, V.ref s, V.ref a, V.ref a27]) (wd := 1) nD29 L2.walk_list (fun H0 e0 => sq_lst (e0 _ _ ha28)) (by show 10 ≤ 2000; decide) (fun x H2 acc N hx X hD la kk => ?_) fun ys29 G29 X29 ly29 hR29 ha29 => ?_
    · refine ⟨rfl, ?_⟩
      simp only [tYes, reduceIte]
      refine ⟨_, rfl, _, rfl, _, rfl, (by show 4 ≤ sizeLine; decide), fun t nt => ⟨acc, ex_new nt _ _ hD, la, ?_⟩⟩
      exact kk t "swap" [.ref a, x, .ref a] _ (ex_new nt) upd_same (.swap_n (r1 := none) (r2 := none) (n4 x hx) (fun e => nomatch e) nofun)
    have ly29 : ys29.length ≤ 10 := ly29
    refine ⟨_, _, _, _, rfl, rfl, ((X24.trans (X25.trans (X26.trans (X27.trans (X28.trans X29))))) _ _ ha23), ha29, (sz_app ly23 ly29 (by decide)), fun a30 na30 => ?_⟩
    have X30 := ex_new (o := HO.lst (((((((ys11 ++ ys12) ++ ys14) ++ ys16) ++ ys18) ++ ys20) ++ ys22) ++ ys29)) na30
    have ha30 : upd G29 a30 (HO.lst (((((((ys11 ++ ys12) ++ ys14) ++ ys16) ++ ys18) ++ ys20) ++ ys22) ++ ys29)) a30 = some (HO.lst (((((((ys11 ++ ys12) ++ ys14) ++ ys16) ++ ys18) ++ ys20) ++ ys22) ++ ys29)) := upd_same
    generalize upd G29 a30 (HO.lst (((((((ys11 ++ ys12) ++ ys14) ++ ys16) ++ ys18) ++ ys20) ++ ys22) ++ ys29)) = G30 at X30 ha30 ⊢
    have ly30 : (((((((ys11 ++ ys12) ++ ys14) ++ ys16) ++ ys18) ++ ys20) ++ ys22) ++ ys29).length ≤ 99 := len_app ly23 ly29
    dsimp only [gName]
    rw [show (List.set [some (.ref a), some (.ref r), some (.ref s), some (.int (k : Nat)), some (V.ref a6), some (V.ref a23), none, none] 5 (some (V.ref a30)) : L2.St) = [some (.ref a), some (.ref r), some (.ref s), some (.int (k : Nat)), some (V.ref a6), some (V.ref a30), none, none] from rfl]
    refine ⟨_, rfl, ?_⟩
    refine ⟨_, rfl, _, rfl, ⟨_, sq_lst ((X7.trans (X8.trans (X9.trans (X10.trans (X11.trans (X12.trans (X13.trans (X14.trans (X15.trans (X16.trans (X17.trans (X18.trans (X19.trans (X20.trans (X21.trans (X22.trans (X23.trans (X24.trans (X25.trans (X26.trans (X27.trans (X28.trans (X29.trans X30))))))))))))))))))))))) _ _ ha6)⟩, ?_⟩
    refine fun D31 nD31 => lc_rows (K := K) (G0 := G30) (xs := [V.non, V.bl true, V.int 0, V.int 7, V.str (Str.ofString ""), V.str (Str.ofString "a"), V.ref a1, V.ref a2, V.ref a3, V.ref s, V.ref r, V.ref a4, V.ref a5]) (wd := 1) nD31 L2.walk_list (fun H0 e0 => sq_lst (e0 _ _ ((X7.trans (X8.trans (X9.trans (X10.trans (X11.trans (X12.trans (X13.trans (X14.trans (X15.trans (X16.trans (X17.trans (X18.trans (X19.trans (X20.trans (X21.trans (X22.trans (X23.trans (X24.trans (X25.trans (X26.trans (X27.trans (X28.trans (X29.trans X30))))))))))))))))))))))) _ _ ha6))) (by show 13 ≤ 2000; decide) (fun x H2 acc N hx X hD la kk => ?_) fun ys31 G31 X31 ly31 hR31 ha31 => ?_
    · refine ⟨rfl, ?_⟩
      simp only [tYes, reduceIte]
      refine ⟨_, rfl, (by show 3 ≤ sizeLine; decide), fun t nt => ⟨acc, ex_new nt _ _ hD, la, ?_⟩⟩
      exact kk t "later" [x, .int 5] _ (ex_new nt) upd_same (.later_n (rm := some 5) (mn_ok (m := 5) (by decide)) (fun _ => ((n1 x hx).mono (X7.trans (X8.trans (X9.trans (X10.trans (X11.trans (X12.trans (X13.trans (X14.trans (X15.trans (X16.trans (X17.trans (X18.trans (X19.trans (X20.trans (X21.trans (X22.trans (X23.trans (X24.trans (X25.trans (X26.trans (X27.trans (X28.trans (X29.trans X30))))))))))))))))))))))))) nofun)
    have ly31 : ys31.length ≤ 13 := ly31
    refine ⟨_, _, _, _, rfl, rfl, (X31 _ _ ha30), ha31, (sz_app ly30 ly31 (by decide)), fun a32 na32 => ?_⟩
    have X32 := ex_new (o := HO.lst ((((((((ys11 ++ ys12) ++ ys14) ++ ys16) ++ ys18) ++ ys20) ++ ys22) ++ ys29) ++ ys31)) na32
    have ha32 : upd G31 a32 (HO.lst ((((((((ys11 ++ ys12) ++ ys14) ++ ys16) ++ ys18) ++ ys20) ++ ys22) ++ ys29) ++ ys31)) a32 = some (HO.lst ((((((((ys11 ++ ys12) ++ ys14) ++ ys16) ++ ys18) ++ ys20) ++ ys22) ++ ys29) ++ ys31)) := upd_same
    generalize upd G31 a32 (HO.lst ((((((((ys11 ++ ys12) ++ ys14) ++ ys16) ++ ys18) ++ ys20) ++ ys22) ++ ys29) ++ ys31)) = G32 at X32 ha32 ⊢
    have ly32 : ((((((((ys11 ++ ys12) ++ ys14) ++ ys16) ++ ys18) ++ ys20) ++ ys22) ++ ys29) ++ ys31).length ≤ 112 := len_app ly30 ly31
    refine ⟨_, rfl, _, rfl, ⟨_, sq_lst ((X7.trans (X8.trans (X9.trans (X10.trans (X11.trans (X12.trans (X13.trans (X14.trans (X15.trans (X16.trans (X17.trans (X18.trans (X19.trans (X20.trans (X21.trans (X22.trans (X23.trans (X24.trans (X25.trans (X26.trans (X27.trans (X28.trans (X29.trans (X30.trans (X31.trans X32))))))))))))))))))))))))) _ _ ha6)⟩, ?_⟩
    refine fun D33 nD33 => lc_rows (K := K) (G0 := G32) (xs := [V.non, V.bl true, V.int 0, V.int 7, V.str (Str.ofString ""), V.str (Str.ofString "a"), V.ref a1, V.ref a2, V.ref a3, V.ref s, V.ref r, V.ref a4, V.ref a5]) (wd := 1) nD33 L2.walk_list (fun H0 e0 => sq_lst (e0 _ _ ((X7.trans (X8.trans (X9.trans (X10.trans (X11.trans (X12.trans (X13.trans (X14.trans (X15.trans (X16.trans (X17.trans (X18.trans (X19.trans (X20.trans (X21.trans (X22.trans (X23.trans (X24.trans (X25.trans (X26.trans (X27.trans (X28.trans (X29.trans (X30.trans (X31.trans X32))))))))))))))))))))))))) _ _ ha6))) (by show 13 ≤ 2000; decide) (fun x H2 acc N hx X hD la kk => ?_) fun ys33 G33 X33 ly33 hR33 ha33 => ?_
    · refine ⟨rfl, ?_⟩
      simp only [tYes, reduceIte]
      refine ⟨_, rfl, (by show 3 ≤ sizeLine; decide), fun t nt => ⟨acc, ex_new nt _ _ hD, la, ?_⟩⟩
      exact kk t "noted" [x, .str "a"] _ (ex_new nt) upd_same (.noted_n (rn := some (Str.ofString "a")) ⟨rfl, by decide⟩ (fun _ => ((n1 x hx).mono (X7.trans (X8.trans (X9.trans (X10.trans (X11.trans (X12.trans (X13.trans (X14.trans (X15.trans (X16.trans (X17.trans (X18.trans (X19.trans (X20.trans (X21.trans (X22.trans (X23.trans (X24.trans (X25.trans (X26.trans (X27.trans (X28.trans (X29.trans (X30.trans (X31.trans X32))))))))))))))))))))))))))) nofun)
    have ly33 : ys33.length ≤ 13 := ly33
    refine ⟨_, _, _, _, rfl, rfl, (X33 _ _ ha32), ha33, (sz_app ly32 ly33 (by decide)), fun a34 na34 => ?_⟩
    have X34 := ex_new (o := HO.lst (((((((((ys11 ++ ys12) ++ ys14) ++ ys16) ++ ys18) ++ ys20) ++ ys22) ++ ys29) ++ ys31) ++ ys33)) na34
    have ha34 : upd G33 a34 (HO.lst (((((((((ys11 ++ ys12) ++ ys14) ++ ys16) ++ ys18) ++ ys20) ++ ys22) ++ ys29) ++ ys31) ++ ys33)) a34 = some (HO.lst (((((((((ys11 ++ ys12) ++ ys14) ++ ys16) ++ ys18) ++ ys20) ++ ys22) ++ ys29) ++ ys31) ++ ys33)) := upd_same
    generalize upd G33 a34 (HO.lst (((((((((ys11 ++ ys12) ++ ys14) ++ ys16) ++ ys18) ++ ys20) ++ ys22) ++ ys29) ++ ys31) ++ ys33)) = G34 at X34 ha34 ⊢
    have ly34 : (((((((((ys11 ++ ys12) ++ ys14) ++ ys16) ++ ys18) ++ ys20) ++ ys22) ++ ys29) ++ ys31) ++ ys33).length ≤ 125 := len_app ly32 ly33
    dsimp only [gName]
    rw [show (List.set [some (.ref a), some (.ref r), some (.ref s), some (.int (k : Nat)), some (V.ref a6), some (V.ref a30), none, none] 5 (some (V.ref a34)) : L2.St) = [some (.ref a), some (.ref r), some (.ref s), some (.int (k : Nat)), some (V.ref a6), some (V.ref a34), none, none] from rfl]
    refine ⟨_, rfl, ?_⟩
    refine ⟨_, rfl, (by show 1 ≤ sizeLine; decide), fun a35 na35 => ?_⟩
    have X35 := ex_new (o := HO.tup [V.int 5]) na35
    have ha35 : upd G34 a35 (HO.tup [V.int 5]) a35 = some (HO.tup [V.int 5]) := upd_same
    generalize upd G34 a35 (HO.tup [V.int 5]) = G35 at X35 ha35 ⊢
    refine ⟨_, _, rfl, rfl, ⟨by decide, by decide, by decide⟩, (by show 0 ≤ sizeLine; decide), fun a36 na36 => ?_⟩
    have X36 := ex_new (o := HO.lst []) na36
    have ha36 : upd G35 a36 (HO.lst []) a36 = some (HO.lst []) := upd_same
    generalize upd G35 a36 (HO.lst []) = G36 at X36 ha36 ⊢
    refine ⟨(by show 9 ≤ sizeLine; decide), fun a37 na37 => ?_⟩
    have X37 := ex_new (o := HO.lst [V.int (-1), V.int 10081, V.bl true, V.bl false, V.non, V.str (Str.ofString "5"), V.ref a35, V.int ((10 : Int) ^ Int.toNat 59), V.ref a36]) na37
    have ha37 : upd G36 a37 (HO.lst [V.int (-1), V.int 10081, V.bl true, V.bl false, V.non, V.str (Str.ofString "5"), V.ref a35, V.int ((10 : Int) ^ Int.toNat 59), V.ref a36]) a37 = some (HO.lst [V.int (-1), V.int 10081, V.bl true, V.bl false, V.non, V.str (Str.ofString "5"), V.ref a35, V.int ((10 : Int) ^ Int.toNat 59), V.ref a36]) := upd_same
    generalize upd G36 a37 (HO.lst [V.int (-1), V.int 10081, V.bl true, V.bl false, V.non, V.str (Str.ofString "5"), V.ref a35, V.int ((10 : Int) ^ Int.toNat 59), V.ref a36]) = G37 at X37 ha37 ⊢
    have n5 : ∀ x ∈ [V.int (-1), V.int 10081, V.bl true, V.bl false, V.non, V.str (Str.ofString "5"), V.ref a35, V.int ((10 : Int) ^ Int.toNat 59), V.ref a36], MnIs K G37 x none := (allc (mn_no (cl_int _) (fun m e => by injection e with e; omega)) (allc (mn_no (cl_int _) (fun m e => by injection e with e; omega)) (allc (mn_no (cl_bl _) (nofun)) (allc (mn_no (cl_bl _) (nofun)) (allc (mn_no (cl_non) (nofun)) (allc (mn_no (cl_str _) (nofun)) (allc (mn_no (cl_tup ((X36.trans X37) _ _ ha35)) (nofun)) (allc (mn_no (cl_int _) (fun m e => by injection e with e; have hb : (10081 : Int) ≤ (10 : Int) ^ Int.toNat 59 := (by decide +kernel); omega)) (allc (mn_no (cl_lst (X37 _ _ ha36)) (nofun)) alln)))))))))
    refine ⟨_, rfl, ⟨_, sq_lst ha37⟩, ?_⟩
    refine fun D38 nD38 => lc_rows (K := K) (G0 := G37) (xs := [V.int (-1), V.int 10081, V.bl true, V.bl false, V.non, V.str (Str.ofString "5"), V.ref a35, V.int ((10 : Int) ^ Int.toNat 59), V.ref a36]) (wd := 1) nD38 L2.walk_list (fun H0 e0 => sq_lst (e0 _ _ ha37)) (by show 9 ≤ 2000; decide) (fun x H2 acc N hx X hD la kk => ?_) fun ys38 G38 X38 ly38 hR38 ha38 => ?_
    · refine ⟨rfl, ?_⟩
      simp only [tYes, reduceIte]
      refine ⟨_, rfl, _, rfl, (by show 3 ≤ sizeLine; decide), fun t nt => ⟨acc, ex_new nt _ _ hD, la, ?_⟩⟩
      exact kk t "later" [.ref a, x] _ (ex_new nt) upd_same (.later_n (r1 := none) (n5 x hx) (fun e => nomatch e) nofun)
    have ly38 : ys38.length ≤ 9 := ly38
    refine ⟨_, _, _, _, rfl, rfl, ((X35.trans (X36.trans (X37.trans X38))) _ _ ha34), ha38, (sz_app ly34 ly38 (by decide)), fun a39 na39 => ?_⟩
    have X39 := ex_new (o := HO.lst ((((((((((ys11 ++ ys12) ++ ys14) ++ ys16) ++ ys18) ++ ys20) ++ ys22) ++ ys29) ++ ys31) ++ ys33) ++ ys38)) na39
    have ha39 : upd G38 a39 (HO.lst ((((((((((ys11 ++ ys12) ++ ys14) ++ ys16) ++ ys18) ++ ys20) ++ ys22) ++ ys29) ++ ys31) ++ ys33) ++ ys38)) a39 = some (HO.lst ((((((((((ys11 ++ ys12) ++ ys14) ++ ys16) ++ ys18) ++ ys20) ++ ys22) ++ ys29) ++ ys31) ++ ys33) ++ ys38)) := upd_same
    generalize upd G38 a39 (HO.lst ((((((((((ys11 ++ ys12) ++ ys14) ++ ys16) ++ ys18) ++ ys20) ++ ys22) ++ ys29) ++ ys31) ++ ys33) ++ ys38)) = G39 at X39 ha39 ⊢
    have ly39 : ((((((((((ys11 ++ ys12) ++ ys14) ++ ys16) ++ ys18) ++ ys20) ++ ys22) ++ ys29) ++ ys31) ++ ys33) ++ ys38).length ≤ 134 := len_app ly34 ly38
    dsimp only [gName]
    rw [show (List.set [some (.ref a), some (.ref r), some (.ref s), some (.int (k : Nat)), some (V.ref a6), some (V.ref a34), none, none] 5 (some (V.ref a39)) : L2.St) = [some (.ref a), some (.ref r), some (.ref s), some (.int (k : Nat)), some (V.ref a6), some (V.ref a39), none, none] from rfl]
    refine ⟨_, rfl, ?_⟩
    refine ⟨(by show 1 ≤ sizeLine; decide), fun a40 na40 => ?_⟩
    have X40 := ex_new (o := HO.lst [V.str (Str.ofString "a")]) na40
    have ha40 : upd G39 a40 (HO.lst [V.str (Str.ofString "a")]) a40 = some (HO.lst [V.str (Str.ofString "a")]) := upd_same
    generalize upd G39 a40 (HO.lst [V.str (Str.ofString "a")]) = G40 at X40 ha40 ⊢
    refine ⟨(by show 9 ≤ sizeLine; decide), fun a41 na41 => ?_⟩
    have X41 := ex_new (o := HO.lst [V.non, V.str (Str.ofString ""), V.str (Str.ofString "A"), V.str (Str.ofString "ninelette"), V.str (Str.ofString "a b"), V.int 5, V.bl true, V.ref a40, V.str (Str.ofString "a1")]) na41
    have ha41 : upd G40 a41 (HO.lst [V.non, V.str (Str.ofString ""), V.str (Str.ofString "A"), V.str (Str.ofString "ninelette"), V.str (Str.ofString "a b"), V.int 5, V.bl true, V.ref a40, V.str (Str.ofString "a1")]) a41 = some (HO.lst [V.non, V.str (Str.ofString ""), V.str (Str.ofString "A"), V.str (Str.ofString "ninelette"), V.str (Str.ofString "a b"), V.int 5, V.bl true, V.ref a40, V.str (Str.ofString "a1")]) := upd_same
    generalize upd G40 a41 (HO.lst [V.non, V.str (Str.ofString ""), V.str (Str.ofString "A"), V.str (Str.ofString "ninelette"), V.str (Str.ofString "a b"), V.int 5, V.bl true, V.ref a40, V.str (Str.ofString "a1")]) = G41 at X41 ha41 ⊢
    have n6 : ∀ x ∈ [V.non, V.str (Str.ofString ""), V.str (Str.ofString "A"), V.str (Str.ofString "ninelette"), V.str (Str.ofString "a b"), V.int 5, V.bl true, V.ref a40, V.str (Str.ofString "a1")], NmIs K G41 x none := (allc ⟨clS_non, by first | rfl | decide⟩ (allc ⟨(clS_str (by decide)), by first | rfl | decide⟩ (allc ⟨(clS_str (by decide)), by first | rfl | decide⟩ (allc ⟨(clS_str (by decide)), by first | rfl | decide⟩ (allc ⟨(clS_str (by decide)), by first | rfl | decide⟩ (allc ⟨clS_int, by first | rfl | decide⟩ (allc ⟨clS_bl, by first | rfl | decide⟩ (allc ⟨(clS_lst (X41 _ _ ha40)), by first | rfl | decide⟩ (allc ⟨(clS_str (by decide)), by first | rfl | decide⟩ alln)))))))))
    refine ⟨_, rfl, ⟨_, sq_lst ha41⟩, ?_⟩
    refine fun D42 nD42 => lc_rows (K := K) (G0 := G41) (xs := [V.non, V.str (Str.ofString ""), V.str (Str.ofString "A"), V.str (Str.ofString "ninelette"), V.str (Str.ofString "a b"), V.int 5, V.bl true, V.ref a40, V.str (Str.ofString "a1")]) (wd := 1) nD42 L2.walk_list (fun H0 e0 => sq_lst (e0 _ _ ha41)) (by show 9 ≤ 2000; decide) (fun x H2 acc N hx X hD la kk => ?_) fun ys42 G42 X42 ly42 hR42 ha42 => ?_
    · refine ⟨rfl, ?_⟩
      simp only [tYes, reduceIte]
      refine ⟨_, rfl, _, rfl, (by show 3 ≤ sizeLine; decide), fun t nt => ⟨acc, ex_new nt _ _ hD, la, ?_⟩⟩
      exact kk t "noted" [.ref a, x] _ (ex_new nt) upd_same (.noted_n (r1 := none) (n6 x hx) (fun e => nomatch e) nofun)
    have ly42 : ys42.length ≤ 9 := ly42
    refine ⟨_, _, _, _, rfl, rfl, ((X40.trans (X41.trans X42)) _ _ ha39), ha42, (sz_app ly39 ly42 (by decide)), fun a43 na43 => ?_⟩
    have X43 := ex_new (o := HO.lst (((((((((((ys11 ++ ys12) ++ ys14) ++ ys16) ++ ys18) ++ ys20) ++ ys22) ++ ys29) ++ ys31) ++ ys33) ++ ys38) ++ ys42)) na43
    have ha43 : upd G42 a43 (HO.lst (((((((((((ys11 ++ ys12) ++ ys14) ++ ys16) ++ ys18) ++ ys20) ++ ys22) ++ ys29) ++ ys31) ++ ys33) ++ ys38) ++ ys42)) a43 = some (HO.lst (((((((((((ys11 ++ ys12) ++ ys14) ++ ys16) ++ ys18) ++ ys20) ++ ys22) ++ ys29) ++ ys31) ++ ys33) ++ ys38) ++ ys42)) := upd_same
    generalize upd G42 a43 (HO.lst (((((((((((ys11 ++ ys12) ++ ys14) ++ ys16) ++ ys18) ++ ys20) ++ ys22) ++ ys29) ++ ys31) ++ ys33) ++ ys38) ++ ys42)) = G43 at X43 ha43 ⊢
    have ly43 : (((((((((((ys11 ++ ys12) ++ ys14) ++ ys16) ++ ys18) ++ ys20) ++ ys22) ++ ys29) ++ ys31) ++ ys33) ++ ys38) ++ ys42).length ≤ 143 := len_app ly39 ly42
    dsimp only [gName]
    rw [show (List.set [some (.ref a), some (.ref r), some (.ref s), some (.int (k : Nat)), some (V.ref a6), some (V.ref a39), none, none] 5 (some (V.ref a43)) : L2.St) = [some (.ref a), some (.ref r), some (.ref s), some (.int (k : Nat)), some (V.ref a6), some (V.ref a43), none, none] from rfl]
    refine ⟨(by show 2 ≤ sizeLine; decide), fun a44 na44 => ?_⟩
    have X44 := ex_new (o := HO.lst [V.str (Str.ofString "at"), V.str (Str.ofString "on")]) na44
    have ha44 : upd G43 a44 (HO.lst [V.str (Str.ofString "at"), V.str (Str.ofString "on")]) a44 = some (HO.lst [V.str (Str.ofString "at"), V.str (Str.ofString "on")]) := upd_same
    generalize upd G43 a44 (HO.lst [V.str (Str.ofString "at"), V.str (Str.ofString "on")]) = G44 at X44 ha44 ⊢
    refine ⟨_, rfl, ⟨_, sq_lst ha44⟩, for_on ["at", "on"] (fun z => V.str (Str.ofString z)) L2.walk_list (fun i σ F => Ex G44 F ∧ ∃ (rr : Addr) (ys : List V) (v6 : Option V), σ = [some (.ref a), some (.ref r), some (.ref s), some (.int (k : Nat)), some (V.ref a6), some (.ref rr), v6, none] ∧ H rr = none ∧ F rr = some (.lst ys) ∧ RowsAt K F F 1 ys ∧ ys.length ≤ 143 + i * 26) ⟨.refl _, _, _, _, rfl, (ex_fresh (X1.trans (X2.trans (X3.trans (X4.trans (X5.trans (X6.trans (X7.trans (X8.trans (X9.trans (X10.trans (X11.trans (X12.trans (X13.trans (X14.trans (X15.trans (X16.trans (X17.trans (X18.trans (X19.trans (X20.trans (X21.trans (X22.trans (X23.trans (X24.trans (X25.trans (X26.trans (X27.trans (X28.trans (X29.trans (X30.trans (X31.trans (X32.trans (X33.trans (X34.trans (X35.trans (X36.trans (X37.trans (X38.trans (X39.trans (X40.trans (X41.trans X42))))))))))))))))))))))))))))))))))))))))) na43), (X44 _ _ ha43), (RowsAt.app (RowsAt.app (RowsAt.app (RowsAt.app (RowsAt.app (RowsAt.app (RowsAt.app (RowsAt.app (RowsAt.app (RowsAt.app (RowsAt.app (hR11.mono (X11.trans (X12.trans (X13.trans (X14.trans (X15.trans (X16.trans (X17.trans (X18.trans (X19.trans (X20.trans (X21.trans (X22.trans (X23.trans (X24.trans (X25.trans (X26.trans (X27.trans (X28.trans (X29.trans (X30.trans (X31.trans (X32.trans (X33.trans (X34.trans (X35.trans (X36.trans (X37.trans (X38.trans (X39.trans (X40.trans (X41.trans (X42.trans (X43.trans X44))))))))))))))))))))))))))))))))) (X12.trans (X13.trans (X14.trans (X15.trans (X16.trans (X17.trans (X18.trans (X19.trans (X20.trans (X21.trans (X22.trans (X23.trans (X24.trans (X25.trans (X26.trans (X27.trans (X28.trans (X29.trans (X30.trans (X31.trans (X32.trans (X33.trans (X34.trans (X35.trans (X36.trans (X37.trans (X38.trans (X39.trans (X40.trans (X41.trans (X42.trans (X43.trans X44))))))))))))))))))))))))))))))))) (hR12.mono (X13.trans (X14.trans (X15.trans (X16.trans (X17.trans (X18.trans (X19.trans (X20.trans (X21.trans (X22.trans (X23.trans (X24.trans (X25.trans (X26.trans (X27.trans (X28.trans (X29.trans (X30.trans (X31.trans (X32.trans (X33.trans (X34.trans (X35.trans (X36.trans (X37.trans (X38.trans (X39.trans (X40.trans (X41.trans (X42.trans (X43.trans X44))))))))))))))))))))))))))))))) (X13.trans (X14.trans (X15.trans (X16.trans (X17.trans (X18.trans (X19.trans (X20.trans (X21.trans (X22.trans (X23.trans (X24.trans (X25.trans (X26.trans (X27.trans (X28.trans (X29.trans (X30.trans (X31.trans (X32.trans (X33.trans (X34.trans (X35.trans (X36.trans (X37.trans (X38.trans (X39.trans (X40.trans (X41.trans (X42.trans (X43.trans X44))))))))))))))))))))))))))))))))) (hR14.mono (X15.trans (X16.trans (X17.trans (X18.trans (X19.trans (X20.trans (X21.trans (X22.trans (X23.trans (X24.trans (X25.trans (X26.trans (X27.trans (X28.trans (X29.trans (X30.trans (X31.trans (X32.trans (X33.trans (X34.trans (X35.trans (X36.trans (X37.trans (X38.trans (X39.trans (X40.trans (X41.trans (X42.trans (X43.trans X44))))))))))))))))))))))))))))) (X15.trans (X16.trans (X17.trans (X18.trans (X19.trans (X20.trans (X21.trans (X22.trans (X23.trans (X24.trans (X25.trans (X26.trans (X27.trans (X28.trans (X29.trans (X30.trans (X31.trans (X32.trans (X33.trans (X34.trans (X35.trans (X36.trans (X37.trans (X38.trans (X39.trans (X40.trans (X41.trans (X42.trans (X43.trans X44))))))))))))))))))))))))))))))) (hR16.mono (X16.trans (X17.trans (X18.trans (X19.trans (X20.trans (X21.trans (X22.trans (X23.trans (X24.trans (X25.trans (X26.trans (X27.trans (X28.trans (X29.trans (X30.trans (X31.trans (X32.trans (X33.trans (X34.trans (X35.trans (X36.trans (X37.trans (X38.trans (X39.trans (X40.trans (X41.trans (X42.trans (X43.trans X44)))))))))))))))))))))))))))) (X17.trans (X18.trans (X19.trans (X20.trans (X21.trans (X22.trans (X23.trans (X24.trans (X25.trans (X26.trans (X27.trans (X28.trans (X29.trans (X30.trans (X31.trans (X32.trans (X33.trans (X34.trans (X35.trans (X36.trans (X37.trans (X38.trans (X39.trans (X40.trans (X41.trans (X42.trans (X43.trans X44))))))))))))))))))))))))))))) (hR18.mono (X18.trans (X19.trans (X20.trans (X21.trans (X22.trans (X23.trans (X24.trans (X25.trans (X26.trans (X27.trans (X28.trans (X29.trans (X30.trans (X31.trans (X32.trans (X33.trans (X34.trans (X35.trans (X36.trans (X37.trans (X38.trans (X39.trans (X40.trans (X41.trans (X42.trans (X43.trans X44)))))))))))))))))))))))))) (X19.trans (X20.trans (X21.trans (X22.trans (X23.trans (X24.trans (X25.trans (X26.trans (X27.trans (X28.trans (X29.trans (X30.trans (X31.trans (X32.trans (X33.trans (X34.trans (X35.trans (X36.trans (X37.trans (X38.trans (X39.trans (X40.trans (X41.trans (X42.trans (X43.trans X44))))))))))))))))))))))))))) (hR20.mono (X20.trans (X21.trans (X22.trans (X23.trans (X24.trans (X25.trans (X26.trans (X27.trans (X28.trans (X29.trans (X30.trans (X31.trans (X32.trans (X33.trans (X34.trans (X35.trans (X36.trans (X37.trans (X38.trans (X39.trans (X40.trans (X41.trans (X42.trans (X43.trans X44)))))))))))))))))))))))) (X21.trans (X22.trans (X23.trans (X24.trans (X25.trans (X26.trans (X27.trans (X28.trans (X29.trans (X30.trans (X31.trans (X32.trans (X33.trans (X34.trans (X35.trans (X36.trans (X37.trans (X38.trans (X39.trans (X40.trans (X41.trans (X42.trans (X43.trans X44))))))))))))))))))))))))) (hR22.mono (X22.trans (X23.trans (X24.trans (X25.trans (X26.trans (X27.trans (X28.trans (X29.trans (X30.trans (X31.trans (X32.trans (X33.trans (X34.trans (X35.trans (X36.trans (X37.trans (X38.trans (X39.trans (X40.trans (X41.trans (X42.trans (X43.trans X44)))))))))))))))))))))) (X23.trans (X24.trans (X25.trans (X26.trans (X27.trans (X28.trans (X29.trans (X30.trans (X31.trans (X32.trans (X33.trans (X34.trans (X35.trans (X36.trans (X37.trans (X38.trans (X39.trans (X40.trans (X41.trans (X42.trans (X43.trans X44))))))))))))))))))))))) (hR29.mono (X29.trans (X30.trans (X31.trans (X32.trans (X33.trans (X34.trans (X35.trans (X36.trans (X37.trans (X38.trans (X39.trans (X40.trans (X41.trans (X42.trans (X43.trans X44))))))))))))))) (X30.trans (X31.trans (X32.trans (X33.trans (X34.trans (X35.trans (X36.trans (X37.trans (X38.trans (X39.trans (X40.trans (X41.trans (X42.trans (X43.trans X44)))))))))))))))) (hR31.mono (X31.trans (X32.trans (X33.trans (X34.trans (X35.trans (X36.trans (X37.trans (X38.trans (X39.trans (X40.trans (X41.trans (X42.trans (X43.trans X44))))))))))))) (X32.trans (X33.trans (X34.trans (X35.trans (X36.trans (X37.trans (X38.trans (X39.trans (X40.trans (X41.trans (X42.trans (X43.trans X44)))))))))))))) (hR33.mono (X33.trans (X34.trans (X35.trans (X36.trans (X37.trans (X38.trans (X39.trans (X40.trans (X41.trans (X42.trans (X43.trans X44))))))))))) (X34.trans (X35.trans (X36.trans (X37.trans (X38.trans (X39.trans (X40.trans (X41.trans (X42.trans (X43.trans X44)))))))))))) (hR38.mono (X38.trans (X39.trans (X40.trans (X41.trans (X42.trans (X43.trans X44)))))) (X39.trans (X40.trans (X41.trans (X42.trans (X43.trans X44))))))) (hR42.mono (X42.trans (X43.trans X44)) (X43.trans X44))), ly43⟩ (fun i σ F p => sq_lst (p.1 _ _ ha44)) ?_ ?_⟩
    · rintro i z σ F hz ⟨XF, rr, ys, v6, rfl, nr, hr, hR, ly⟩
      have hs := sort_in hz
      have hi : i < 2 := (List.getElem?_eq_some_iff.mp hz).1
      dsimp only [gName]
      rw [show (List.set [some (.ref a), some (.ref r), some (.ref s), some (.int (k : Nat)), some (V.ref a6), some (.ref rr), v6, none] 6 (some (.str (Str.ofString z))) : L2.St) = [some (.ref a), some (.ref r), some (.ref s), some (.int (k : Nat)), some (V.ref a6), some (.ref rr), some (.str (Str.ofString z)), none] from rfl]
      refine ⟨_, rfl, ?_⟩
      refine ⟨_, rfl, _, rfl, ⟨_, sq_lst (XF _ _ ((X7.trans (X8.trans (X9.trans (X10.trans (X11.trans (X12.trans (X13.trans (X14.trans (X15.trans (X16.trans (X17.trans (X18.trans (X19.trans (X20.trans (X21.trans (X22.trans (X23.trans (X24.trans (X25.trans (X26.trans (X27.trans (X28.trans (X29.trans (X30.trans (X31.trans (X32.trans (X33.trans (X34.trans (X35.trans (X36.trans (X37.trans (X38.trans (X39.trans (X40.trans (X41.trans (X42.trans (X43.trans X44))))))))))))))))))))))))))))))))))))) _ _ ha6))⟩, ?_⟩
      refine fun D45 nD45 => lc_rows (K := K) (G0 := F) (xs := [V.non, V.bl true, V.int 0, V.int 7, V.str (Str.ofString ""), V.str (Str.ofString "a"), V.ref a1, V.ref a2, V.ref a3, V.ref s, V.ref r, V.ref a4, V.ref a5]) (wd := 1) nD45 L2.walk_list (fun H0 e0 => sq_lst (e0 _ _ (XF _ _ ((X7.trans (X8.trans (X9.trans (X10.trans (X11.trans (X12.trans (X13.trans (X14.trans (X15.trans (X16.trans (X17.trans (X18.trans (X19.trans (X20.trans (X21.trans (X22.trans (X23.trans (X24.trans (X25.trans (X26.trans (X27.trans (X28.trans (X29.trans (X30.trans (X31.trans (X32.trans (X33.trans (X34.trans (X35.trans (X36.trans (X37.trans (X38.trans (X39.trans (X40.trans (X41.trans (X42.trans (X43.trans X44))))))))))))))))))))))))))))))))))))) _ _ ha6)))) (by show 13 ≤ 2000; decide) (fun x H2 acc N hx X hD la kk => ?_) fun ys45 G45 X45 ly45 hR45 ha45 => ?_
      · refine ⟨rfl, ?_⟩
        simp only [tYes, reduceIte]
        refine ⟨_, rfl, _, rfl, (by show 3 ≤ sizeLine; decide), fun t nt => ⟨acc, ex_new nt _ _ hD, la, ?_⟩⟩
        exact kk t z [x, .int 5] _ (ex_new nt) upd_same (goc hs (((n1 x hx).mono ((X7.trans (X8.trans (X9.trans (X10.trans (X11.trans (X12.trans (X13.trans (X14.trans (X15.trans (X16.trans (X17.trans (X18.trans (X19.trans (X20.trans (X21.trans (X22.trans (X23.trans (X24.trans (X25.trans (X26.trans (X27.trans (X28.trans (X29.trans (X30.trans (X31.trans (X32.trans (X33.trans (X34.trans (X35.trans (X36.trans (X37.trans (X38.trans (X39.trans (X40.trans (X41.trans (X42.trans (X43.trans X44))))))))))))))))))))))))))))))))))))).trans (XF.trans (.refl _)))).is T))
      have ly45 : ys45.length ≤ 13 := ly45
      refine ⟨_, _, _, _, rfl, rfl, (X45 _ _ hr), ha45, (sz_app ly ly45 (by omega)), fun a46 na46 => ?_⟩
      have X46 := ex_new (o := HO.lst (ys ++ ys45)) na46
      have ha46 : upd G45 a46 (HO.lst (ys ++ ys45)) a46 = some (HO.lst (ys ++ ys45)) := upd_same
      generalize upd G45 a46 (HO.lst (ys ++ ys45)) = G46 at X46 ha46 ⊢
      have ly46 : (ys ++ ys45).length ≤ (143 + i * 26) + 13 := len_app ly ly45
      refine ⟨_, rfl, _, rfl, ⟨_, sq_lst ((X45.trans X46) _ _ (XF _ _ ((X7.trans (X8.trans (X9.trans (X10.trans (X11.trans (X12.trans (X13.trans (X14.trans (X15.trans (X16.trans (X17.trans (X18.trans (X19.trans (X20.trans (X21.trans (X22.trans (X23.trans (X24.trans (X25.trans (X26.trans (X27.trans (X28.trans (X29.trans (X30.trans (X31.trans (X32.trans (X33.trans (X34.trans (X35.trans (X36.trans (X37.trans (X38.trans (X39.trans (X40.trans (X41.trans (X42.trans (X43.trans X44))))))))))))))))))))))))))))))))))))) _ _ ha6)))⟩, ?_⟩
      refine fun D47 nD47 => lc_rows (K := K) (G0 := G46) (xs := [V.non, V.bl true, V.int 0, V.int 7, V.str (Str.ofString ""), V.str (Str.ofString "a"), V.ref a1, V.ref a2, V.ref a3, V.ref s, V.ref r, V.ref a4, V.ref a5]) (wd := 1) nD47 L2.walk_list (fun H0 e0 => sq_lst (e0 _ _ ((X45.trans X46) _ _ (XF _ _ ((X7.trans (X8.trans (X9.trans (X10.trans (X11.trans (X12.trans (X13.trans (X14.trans (X15.trans (X16.trans (X17.trans (X18.trans (X19.trans (X20.trans (X21.trans (X22.trans (X23.trans (X24.trans (X25.trans (X26.trans (X27.trans (X28.trans (X29.trans (X30.trans (X31.trans (X32.trans (X33.trans (X34.trans (X35.trans (X36.trans (X37.trans (X38.trans (X39.trans (X40.trans (X41.trans (X42.trans (X43.trans X44))))))))))))))))))))))))))))))))))))) _ _ ha6))))) (by show 13 ≤ 2000; decide) (fun x H2 acc N hx X hD la kk => ?_) fun ys47 G47 X47 ly47 hR47 ha47 => ?_
      · refine ⟨rfl, ?_⟩
        simp only [tYes, reduceIte]
        refine ⟨_, rfl, _, rfl, _, rfl, (by show 3 ≤ sizeLine; decide), fun t nt => ⟨acc, ex_new nt _ _ hD, la, ?_⟩⟩
        exact kk t z [x, .int (-1)] _ (ex_new nt) upd_same (goc hs (((n1 x hx).mono ((X7.trans (X8.trans (X9.trans (X10.trans (X11.trans (X12.trans (X13.trans (X14.trans (X15.trans (X16.trans (X17.trans (X18.trans (X19.trans (X20.trans (X21.trans (X22.trans (X23.trans (X24.trans (X25.trans (X26.trans (X27.trans (X28.trans (X29.trans (X30.trans (X31.trans (X32.trans (X33.trans (X34.trans (X35.trans (X36.trans (X37.trans (X38.trans (X39.trans (X40.trans (X41.trans (X42.trans (X43.trans X44))))))))))))))))))))))))))))))))))))).trans (XF.trans (X45.trans X46)))).is T))
      have ly47 : ys47.length ≤ 13 := ly47
      refine ⟨_, _, _, _, rfl, rfl, (X47 _ _ ha46), ha47, (sz_app ly46 ly47 (by omega)), fun a48 na48 => ?_⟩
      have X48 := ex_new (o := HO.lst ((ys ++ ys45) ++ ys47)) na48
      have ha48 : upd G47 a48 (HO.lst ((ys ++ ys45) ++ ys47)) a48 = some (HO.lst ((ys ++ ys45) ++ ys47)) := upd_same
      generalize upd G47 a48 (HO.lst ((ys ++ ys45) ++ ys47)) = G48 at X48 ha48 ⊢
      have ly48 : ((ys ++ ys45) ++ ys47).length ≤ (143 + i * 26) + 13 + 13 := len_app ly46 ly47
      dsimp only [gName]
      rw [show (List.set [some (.ref a), some (.ref r), some (.ref s), some (.int (k : Nat)), some (V.ref a6), some (.ref rr), some (.str (Str.ofString z)), none] 5 (some (V.ref a48)) : L2.St) = [some (.ref a), some (.ref r), some (.ref s), some (.int (k : Nat)), some (V.ref a6), some (V.ref a48), some (.str (Str.ofString z)), none] from rfl]
      exact ⟨XF.trans (X45.trans (X46.trans (X47.trans X48))), _, _, _, rfl, ex_fresh ((X1.trans (X2.trans (X3.trans (X4.trans (X5.trans (X6.trans (X7.trans (X8.trans (X9.trans (X10.trans (X11.trans (X12.trans (X13.trans (X14.trans (X15.trans (X16.trans (X17.trans (X18.trans (X19.trans (X20.trans (X21.trans (X22.trans (X23.trans (X24.trans (X25.trans (X26.trans (X27.trans (X28.trans (X29.trans (X30.trans (X31.trans (X32.trans (X33.trans (X34.trans (X35.trans (X36.trans (X37.trans (X38.trans (X39.trans (X40.trans (X41.trans (X42.trans (X43.trans X44))))))))))))))))))))))))))))))))))))))))))).trans (XF.trans (X45.trans (X46.trans X47)))) na48, ha48, (RowsAt.app (RowsAt.app (hR.mono (X45.trans (X46.trans (X47.trans X48))) (X45.trans (X46.trans (X47.trans X48)))) (hR45.mono (X45.trans (X46.trans (X47.trans X48))) (X46.trans (X47.trans X48)))) (hR47.mono (X47.trans X48) X48)), Nat.le_trans ly48 (by omega)⟩
    · rintro σ F ⟨XF, rr, ys, v6, rfl, nr, hr, hR, ly⟩
      exact ⟨_, rfl, q rr ys F ((X1.trans (X2.trans (X3.trans (X4.trans (X5.trans (X6.trans (X7.trans (X8.trans (X9.trans (X10.trans (X11.trans (X12.trans (X13.trans (X14.trans (X15.trans (X16.trans (X17.trans (X18.trans (X19.trans (X20.trans (X21.trans (X22.trans (X23.trans (X24.trans (X25.trans (X26.trans (X27.trans (X28.trans (X29.trans (X30.trans (X31.trans (X32.trans (X33.trans (X34.trans (X35.trans (X36.trans (X37.trans (X38.trans (X39.trans (X40.trans (X41.trans (X42.trans (X43.trans X44))))))))))))))))))))))))))))))))))))))))))).trans XF) nr hr hR (Nat.le_trans ly (by decide))⟩
theorem ok__law_no_others {P : Program} {w : World} {K : PySem.W.Frag} {mg : Str → Option Value} {base : Heap} (T : Env K mg) : Fc P w K mg base 4 (He.ga K "_law_no_others") [] (sp__law_no_others K ) := by
  obtain ⟨fd, D, F⟩ := fb__law_no_others T
  exact F.all (D.bindsN fun _ _ _ _ _ _ us hl => match us, hl with | [_, _, _, _], _ => rfl)
end
section
/-- G keeps what H' has, but for lists that stood in H -/
def Kpl (H H' G : Hp) : Prop := (∀ b o, (∀ ys, o ≠ .lst ys) → H' b = some o → G b = some o) ∧ ∀ b o, H b = none → H' b = some o → G b = some o
theorem Kpl.refl (H H' : Hp) : Kpl H H' H' := ⟨fun _ _ _ e => e, fun _ _ _ e => e⟩
theorem Kpl.weak {H H1 H1' H' G : Hp} (k : Kpl H H' G) (X : Ex H H1) (Y : Ex H1' H') : Kpl H1 H1' G := ⟨fun b o n e => k.1 b o n (Y _ _ e), fun b o n e => k.2 b o (ex_fresh X n) (Y _ _ e)⟩
def PutC (K : PySem.W.Frag) (H H' : Hp) (c : CardD) (a : Addr) : Prop := ∀ G, Kpl H H' G → CardAt K G c a
def PutCs (K : PySem.W.Frag) (H H' : Hp) (cs : List CardD) (as : List Addr) : Prop := ∀ G, Kpl H H' G → CardsAt K G cs as
theorem PutC.at {K : PySem.W.Frag} {H H' : Hp} {c : CardD} {a : Addr} (h : PutC K H H' c a) : CardAt K H' c a := h H' (.refl _ _)
theorem PutCs.at {K : PySem.W.Frag} {H H' : Hp} {c : List CardD} {a : List Addr} (h : PutCs K H H' c a) : CardsAt K H' c a := h H' (.refl _ _)
theorem PutC.mono {K : PySem.W.Frag} {H H1 H1' H' : Hp} {c : CardD} {a : Addr} (h : PutC K H1 H1' c a) (X : Ex H H1) (Y : Ex H1' H') : PutC K H H' c a := fun G k => h G (k.weak X Y)
theorem PutCs.mono {K : PySem.W.Frag} {H H1 H1' H' : Hp} {c : List CardD} {a : List Addr} (h : PutCs K H1 H1' c a) (X : Ex H H1) (Y : Ex H1' H') : PutCs K H H' c a := fun G k => h G (k.weak X Y)
theorem DaysAt.kpl {K : PySem.W.Frag} {H H' G : Hp} {r : Addr} {D : DaysD} (k : Kpl H H' G) (a : DaysAt K H' r D) : DaysAt K G r D := by
  obtain ⟨dr, r1, po, pa, m1, ⟨dq, m2⟩, m3, m4⟩ := a
  exact ⟨dr, r1, po, pa, k.1 _ _ nofun m1, ⟨dq, k.1 _ _ nofun m2⟩, k.1 _ _ nofun m3, k.1 _ _ nofun m4⟩
mutual
theorem ShAt.kpl {K : PySem.W.Frag} {H H' G : Hp} (k : Kpl H H' G) : ∀ {t : Tr} {a : Addr}, ShAt K H' t a → ShAt K G t a
  | .at n, a, h => by
    unfold ShAt at h ⊢
    obtain ⟨dx, h⟩ := h
    exact ⟨dx, k.1 _ _ nofun h⟩
  | .ov ps m s, a, h => by
    unfold ShAt at h ⊢
    obtain ⟨dx, kp, as, h1, h2, h3⟩ := h
    exact ⟨dx, kp, as, k.1 _ _ nofun h1, k.1 _ _ nofun h2, ShsAt.kpl k h3⟩
theorem ShsAt.kpl {K : PySem.W.Frag} {H H' G : Hp} (k : Kpl H H' G) : ∀ {ts : List Tr} {as : List Addr}, ShsAt K H' ts as → ShsAt K G ts as
  | [], as, h => by
    unfold ShsAt at h ⊢
    exact h
  | t :: ts, as, h => by
    unfold ShsAt at h ⊢
    obtain ⟨a, r, h1, h2, h3⟩ := h
    exact ⟨a, r, h1, ShAt.kpl k h2, ShsAt.kpl k h3⟩
end
theorem SprAt.kpl {K : PySem.W.Frag} {M : Addr → Prop} {H H' G : Hp} {s : Addr} {ts : List Tr} (k : Kpl H H' G) (h : SprAt K H' s ts) (hH : HeldN K M H' s) (hM : ∀ b, M b → H b = none) : SprAt K G s ts := by
  obtain ⟨dx, kp, hd, as, h1, h2, h3, h4⟩ := h
  exact ⟨dx, kp, hd, as, k.1 _ _ nofun h1, k.1 _ _ nofun h2, k.2 _ _ (hM _ (hH _ _ _ h1)) h3, h4.kpl k⟩
theorem putC_once {K : PySem.W.Frag} {H H' : Hp} {x s : Addr} {ts : List Tr} {ws : List Str} {N M : Addr → Prop} (hs : SprAt K H' s ts) (hH : HeldN K M H' s) (hA : CardAt K H' (.once ts ws) x) (hC : CdN N (.ref s) H' x) (hN : ∀ b, N b → H b = none) (hM : ∀ b, M b → H b = none) : PutC K H H' (.once ts ws) x := fun G k => by
  unfold CardAt at hA ⊢
  obtain ⟨dx, hd, s', nt, ow, h1, h2, h3, h4, h5⟩ := hA
  obtain ⟨n1, l1⟩ := hC _ _ _ _ _ h1
  have es : s' = s := by
    have z : some (V.ref s') = some (V.ref s) := l1
    injection z with z
    injection z with z
  subst es
  exact ⟨dx, hd, s', nt, ow, k.1 _ _ nofun h1, k.2 _ _ (hN _ n1) h2, hs.kpl k hH hM, k.1 _ _ nofun h4, k.1 _ _ nofun h5⟩
theorem putC_every {K : PySem.W.Frag} {H H' : Hp} {x s : Addr} {D : DaysD} {ts : List Tr} {ws : List Str} {N M : Addr → Prop} (hs : SprAt K H' s ts) (hH : HeldN K M H' s) (hA : CardAt K H' (.every D ts ws) x) (hC : CdN N (.ref s) H' x) (hN : ∀ b, N b → H b = none) (hM : ∀ b, M b → H b = none) : PutC K H H' (.every D ts ws) x := fun G k => by
  unfold CardAt at hA ⊢
  obtain ⟨dx, hd, r, s', nt, ow, h1, h2, h0, h3, h4, h5⟩ := hA
  obtain ⟨n1, l1⟩ := hC _ _ _ _ _ h1
  have es : s' = s := by
    have z : some (V.ref s') = some (V.ref s) := l1
    injection z with z
    injection z with z
  subst es
  exact ⟨dx, hd, r, s', nt, ow, k.1 _ _ nofun h1, k.2 _ _ (hN _ n1) h2, h0.kpl k, hs.kpl k hH hM, k.1 _ _ nofun h4, k.1 _ _ nofun h5⟩
theorem put_join {K : PySem.W.Frag} {H H' : Hp} {x dx hd : Addr} {as : List Addr} {cs : List CardD} (nh : H hd = none) (e : H' x = some (.ins (He.ga K "Join") dx (cdF hd (1 + wtL cs) []))) (eh : H' hd = some (.lst (as.map V.ref))) (hp : PutCs K H H' cs as) : PutC K H H' (.join cs) x := fun G k => by
  unfold CardAt
  exact ⟨dx, hd, as, k.1 _ _ nofun e, k.2 _ _ nh eh, hp G k⟩
theorem put_later {K : PySem.W.Frag} {H H' : Hp} {x dx hd b : Addr} {c : CardD} {m : Nat} (nh : H hd = none) (h1 : H' x = some (.ins (He.ga K "Later") dx (cdF hd (1 + c.wt) [("minutes", .int (m : Nat))]))) (h2 : H' hd = some (.lst [.ref b])) (hb : PutC K H H' c b) : PutC K H H' (.later c m) x := fun G k => by
  unfold CardAt
  exact ⟨dx, hd, b, k.1 _ _ nofun h1, k.2 _ _ nh h2, hb G k⟩
theorem put_noted {K : PySem.W.Frag} {H H' : Hp} {x dx hd b : Addr} {c : CardD} {w : Str} (nh : H hd = none) (h1 : H' x = some (.ins (He.ga K "Noted") dx (cdF hd (1 + c.wt) [("note", .str w)]))) (h2 : H' hd = some (.lst [.ref b])) (hb : PutC K H H' c b) : PutC K H H' (.noted c w) x := fun G k => by
  unfold CardAt
  exact ⟨dx, hd, b, k.1 _ _ nofun h1, k.2 _ _ nh h2, hb G k⟩
end
section
theorem PotOnN.lists {m : Nat} {H H' : Hp} {p : Addr} {n : Nat} (P : PotOnN m H H' p) (h : PotN n H p) : ∀ b o, (∀ ys, o ≠ .lst ys) → H b = some o → H' b = some o := fun b o ho e => P.2 b o (fun z => by
  obtain ⟨u1, u2, u3, u4, _⟩ := h
  rw [z, u4] at e
  cases e
  exact ho _ rfl) e
theorem PotN.keep {m : Nat} {G G' : Hp} {p : Addr} (h : PotN m G p) (k : ∀ o, G p = some o → G' p = some o) : PotN m G' p := by
  obtain ⟨x, y, z, e, r⟩ := h
  exact ⟨x, y, z, k _ e, r⟩
theorem PotN.some {m : Nat} {G : Hp} {p b : Addr} (h : PotN m G p) (n : G b = none) : b ≠ p := fun z => by
  obtain ⟨x, y, w, e, r⟩ := h
  rw [z, e] at n
  cases n
end
section
theorem kpl_pot {B G F : Hp} {p : Addr} {m n k : Nat} (hB : PotN m B p) (hG : PotN n G p) (Q : PotOnN k G F p) : Kpl B G F := ⟨fun b o ho e => Q.lists hG b o ho e, fun b o nb e => Q.2 b o (hB.some nb) e⟩
theorem dom_pot {B G F : Hp} {p : Addr} {k : Nat} (nn : ∀ b, G b = none → B b = none) (Q : PotOnN k G F p) : ∀ b, F b = none → B b = none := fun b e => nn b (by
  by_cases c : b = p
  · subst c
    obtain ⟨x, y, w, h, _⟩ := Q.1
    rw [h] at e
    cases e
  · cases h : G b with
    | none => rfl
    | some o =>
      rw [Q.2 b o c h] at e
      cases e)
theorem Kpl.go {H H' G F : Hp} (k : Kpl H H' G) (j : Kpl H G F) : Kpl H H' F := ⟨fun b o n e => j.1 b o n (k.1 b o n e), fun b o n e => j.2 b o n (k.2 b o n e)⟩
theorem Kpl.of {H H' G : Hp} (X : Ex H' G) : Kpl H H' G := ⟨fun b o _ e => X b o e, fun b o _ e => X b o e⟩
theorem PutC.go {K : PySem.W.Frag} {H H' G : Hp} {c : CardD} {a : Addr} (h : PutC K H H' c a) (k : Kpl H H' G) : PutC K H G c a := fun F j => h F (k.go j)
theorem PutCs.one {K : PySem.W.Frag} {H H' : Hp} {c : CardD} {a : Addr} (h : PutC K H H' c a) : PutCs K H H' [c] [a] := fun G k => by
  unfold CardsAt
  exact ⟨a, [], rfl, h G k, by unfold CardsAt; rfl⟩
theorem sprU {K : PySem.W.Frag} {M : Addr → Prop} {H H' G : Hp} {s : Addr} {ts : List Tr} (k : Kpl H H' G) (h : SprAt K H' s ts) (u : HeldN K M H' s) (hM : ∀ b, M b → H b = none) : SprAt K G s ts ∧ HeldN K M G s := by
  refine ⟨h.kpl k u hM, u.ex h fun o ho => ?_⟩
  obtain ⟨dx, kp, hd, as, h1, _⟩ := h
  rw [h1] at ho
  cases ho
  exact k.1 _ _ nofun h1
end
section
/-- a card and the pots: what is drawn, and how the card stays -/
def sp__law_around (K : PySem.W.Frag) : Sp := fun vs H Q _ => ∃ (p a : Addr) (z : Str) (c : CardD) (H0 : Hp) (m n : Nat), vs = [.ref p, .ref a, .str z] ∧ PotN n H0 p ∧ PotN m H p ∧ m ≤ 4611686018427380000 ∧ (∀ b, H b = none → H0 b = none) ∧ PutC K H0 H c a ∧ nmN z.cps.toList = true ∧ c.wt < 60 ∧
  ∀ b d H', d.wt = 1 + c.wt → Kpl H0 H H' → (∀ e, H' e = none → H0 e = none) → PotN (m + 1) H' p → PutC K H0 H' d b → Q (.ref b) H'
theorem fb__law_around {P : Program} {w : World} {K : PySem.W.Frag} {mg : Str → Option Value} {base : Heap} (T : Env K mg) : ∃ fd, FunD K "_law_around" "_law_around" (defArgs s__law_around) (defBody s__law_around) (defScope s__law_around) [] [] (He.ga K "_law_around") fd ∧ Fb P w K mg base 5 (He.ga K "_law_around") fd ["_law_pot_here", "_law_card", "_law_name_here"] (sp__law_around K) := by
  obtain ⟨fd, F⟩ := T.f__law_around
  refine ⟨fd, F, fb_of F sc__law_around (fun vs H Q E h => ?_) (fun cdv A outer s H vs Q E hr h => ?_)⟩
  · obtain ⟨p, a, z, c, H0, m, n, rfl, _⟩ := h
    rfl
  · obtain ⟨p, a, z, c, H0, m, n, rfl, P0, P, hm, nn, hA, hz, hw, q⟩ := h
    refine ⟨_, (pss_cons (ps_set (i := 3) sc__law_around.nd rfl (Or.inl rfl) (c_call (ok__law_take T) (hr.mono (by decide)) T.g__law_take T.k__law_take takes0 (pa_cons (pv 0) (pa_cons pe_int pa_nil))))
      (pss_one (ps_ret (pe_ifExp (pt_cmpR op_eq (pv 3) pe_int (nomark _)) (c_make T.mk_Noted (ok_Noted_init T) (hr.mono (by decide)) T.g_Noted takes0 (pa_cons (pv 1) (pa_cons (pv 2) pa_nil))) (pe_ifExp (pt_cmpR op_eq (pv 3) pe_int (nomark _)) (c_make T.mk_Later (ok_Later_init T) (hr.mono (by decide)) T.g_Later takes0 (pa_cons (pv 1) (pa_cons pe_int pa_nil))) (c_make T.mk_Join (ok_Join_init T) (hr.mono (by decide)) T.g_Join takes0 (pa_cons (pe_lst (pa_cons (pv 1) pa_nil)) pa_nil))))))), ?_⟩
    refine ⟨_, rfl, p, m, 3, rfl, P, by omega, by decide, by decide, fun d H1 d0 d3 P1 => ?_⟩
    have k1 := kpl_pot P0 P P1
    have n1 := dom_pot nn P1
    have A1 := hA.go k1
    refine ⟨_, rfl, rfl, _, rfl, ?_⟩
    dsimp only
    refine ite2 (fun _ => ?_) (fun _ => ?_)
    · refine ⟨_, rfl, _, rfl, fun x dx nx nd ne => ?_⟩
      show sp_Noted_init K [.ref x, .ref a, .str z] _ _ _
      refine noted_new nx nd ne A1.at hz hw fun hd H2 X2 nh h1 h2 _ => ⟨rfl, ?_⟩
      exact q x (.noted c z) H2 rfl (k1.go (Kpl.of X2)) (fun e h => n1 e (ex_fresh X2 h)) (P1.1.ex X2) (put_noted (n1 _ nh) h2 h1 (A1.go (Kpl.of X2)))
    · refine ⟨_, rfl, rfl, _, rfl, ?_⟩
      dsimp only
      refine ite2 (fun _ => ?_) (fun _ => ?_)
      · refine ⟨_, rfl, fun x dx nx nd ne => ⟨rfl, ?_⟩⟩
        show sp_Later_init K [.ref x, .ref a, .int ((5 : Nat) : Int)] _ _ _
        refine later_new nx nd ne A1.at (by decide) hw fun hd H2 X2 nh h1 h2 _ => ⟨rfl, ?_⟩
        exact q x (.later c 5) H2 rfl (k1.go (Kpl.of X2)) (fun e h => n1 e (ex_fresh X2 h)) (P1.1.ex X2) (put_later (n1 _ nh) h2 h1 (A1.go (Kpl.of X2)))
      · refine ⟨_, rfl, (by show 1 ≤ sizeLine; decide), fun l nl => ?_⟩
        have Xl := ex_new (o := HO.lst [V.ref a]) nl
        have hl : upd H1 l (HO.lst [V.ref a]) l = some (HO.lst [V.ref a]) := upd_same
        generalize upd H1 l (HO.lst [V.ref a]) = G at Xl hl ⊢
        have A2 := A1.go (Kpl.of Xl)
        refine fun x dx nx nd ne => ?_
        show sp_Join_init K [.ref x, .ref l] _ _ _
        refine join_new nx nd ne (as := [a]) (cs := [c]) (.inl hl) (PutCs.one A2).at (by simp) (by simp [wtL]; omega) fun hd H2 X2 nh h1 h2 _ => ⟨rfl, ?_⟩
        have X12 := Xl.trans X2
        exact q x (.join [c]) H2 (by simp [CardD.wt, wtL]) (k1.go (Kpl.of X12)) (fun e h => n1 e (ex_fresh X12 h)) (P1.1.ex X12) (put_join (n1 _ (ex_fresh Xl nh)) h2 h1 (PutCs.one (A2.go (Kpl.of X2))))
theorem ok__law_around {P : Program} {w : World} {K : PySem.W.Frag} {mg : Str → Option Value} {base : Heap} (T : Env K mg) : Fc P w K mg base 5 (He.ga K "_law_around") [] (sp__law_around K ) := by
  obtain ⟨fd, D, F⟩ := fb__law_around T
  exact F.all (D.bindsN fun _ _ _ _ _ _ us hl => match us, hl with | [_, _, _], _ => rfl)
end
section
theorem log_small {i : Int} (h : i.natAbs < 2 ^ 60) : i.natAbs.log2 < 1920 := by
  by_cases c : i.natAbs = 0
  · rw [c]
    decide
  · exact Nat.lt_of_lt_of_le ((Nat.log2_lt c).mpr h) (by decide)
theorem cd_size {K : PySem.W.Frag} {mg : Str → Option Value} (T : Env K mg) : ∀ c : CardD, Meth K (cdCls K c) "size" (He.ma K (CardC K) "size")
  | .once _ _ => T.e_Once_size ▸ T.m_Once_size
  | .every _ _ _ => T.e_Every_size ▸ T.m_Every_size
  | .join _ => T.e_Join_size ▸ T.m_Join_size
  | .less _ _ => T.e_Less_size ▸ T.m_Less_size
  | .swap _ _ _ => T.e_Swap_size ▸ T.m_Swap_size
  | .later _ _ => T.e_Later_size ▸ T.m_Later_size
  | .noted _ _ => T.e_Noted_size ▸ T.m_Noted_size
  | .as_ _ => T.e_As_size ▸ T.m_As_size
def sp__law_sizes_right (K : PySem.W.Frag) : Sp := fun vs H Q _ => ∃ (p a r : Addr) (z : Str) (c : CardD) (D : DaysD) (H0 : Hp) (m n : Nat), vs = [.ref p, .ref a, .ref r, .str z] ∧ PotN n H0 p ∧ PotN m H p ∧ m ≤ 4611686018427370000 ∧ (∀ b, H b = none → H0 b = none) ∧ PutC K H0 H c a ∧ c.wt = 1 ∧ DaysAt K H r D ∧ D.ok ∧ nmN z.cps.toList = true ∧
  ∀ H', Kpl H0 H H' → (∀ e, H' e = none → H0 e = none) → PotN (m + 59) H' p → Q (.bl true) H'
theorem fb__law_sizes_right {P : Program} {w : World} {K : PySem.W.Frag} {mg : Str → Option Value} {base : Heap} (T : Env K mg) : ∃ fd, FunD K "_law_sizes_right" "_law_sizes_right" (defArgs s__law_sizes_right) (defBody s__law_sizes_right) (defScope s__law_sizes_right) [] [] (He.ga K "_law_sizes_right") fd ∧ Fb P w K mg base 110 (He.ga K "_law_sizes_right") fd ["_law_pot_here", "_law_leaf", "_law_days", "_law_name_here"] (sp__law_sizes_right K) := by
  obtain ⟨fd, F⟩ := T.f__law_sizes_right
  refine ⟨fd, F, fb_of F sc__law_sizes_right (fun vs H Q E h => ?_) (fun cdv A outer s H vs Q E hr h => ?_)⟩
  · obtain ⟨p, a, r, z, c, D, H0, m, n, rfl, _⟩ := h
    rfl
  · obtain ⟨p, a, r, z, c, D, H0, m, n, rfl, P0, P, hm, nn, hA, hw, hD, kD, hz, q⟩ := h
    refine ⟨_, (pss_cons (ps_set (i := 4) sc__law_sizes_right.nd rfl (Or.inl rfl) (pv 1))
      (pss_cons (ps_for (passes_of rfl) rfl (pi_range1 (by rfl) T.n_range (pa_cons pe_int pa_nil)) (pg_name (i := 5) sc__law_sizes_right.nd rfl (Or.inl rfl))
      (pss_cons (ps_set (i := 4) sc__law_sizes_right.nd rfl (Or.inl rfl) (c_call (ok__law_around T) (hr.mono (by decide)) T.g__law_around T.k__law_around takes0 (pa_cons (pv 0) (pa_cons (pv 4) (pa_cons (pv 3) pa_nil)))))
      (pss_one (ps_if (pt_cmpR op_ne (pe_callB SkE.call_repr_int (by rfl) T.n_repr (by decide +kernel) (pa_cons (c_methV0 (k := 3) (pv 4) (hr.mono (by decide)) takes0) pa_nil)) (pe_callB SkE.call_repr_int (by rfl) T.n_repr (by decide +kernel) (pa_cons (pe_op op_add (pv 5) pe_int) pa_nil)) (nomark _))
      (pss_one (ps_ret pe_bl))
      pss_nil))))
      (pss_cons (ps_set (i := 6) sc__law_sizes_right.nd rfl (Or.inl rfl) (pe_lst (pa_cons (pe_tup (pa_cons pe_str (pa_cons (pv 4) (pa_cons (pv 3) pa_nil)))) (pa_cons (pe_tup (pa_cons pe_str (pa_cons (pv 4) (pa_cons pe_int pa_nil)))) (pa_cons (pe_tup (pa_cons pe_str (pa_cons (pe_lst (pa_cons (pv 4) pa_nil)) pa_nil))) (pa_cons (pe_tup (pa_cons pe_str (pa_cons (pe_lst (pa_cons (pv 1) (pa_cons (pv 4) pa_nil))) pa_nil))) (pa_cons (pe_tup (pa_cons pe_str (pa_cons (pv 4) (pa_cons (pv 1) pa_nil)))) pa_nil)))))))
      (pss_cons (ps_set (i := 6) sc__law_sizes_right.nd rfl (Or.inl rfl) (pe_op op_cat (pv 6) (pe_lst (pa_cons (pe_tup (pa_cons pe_str (pa_cons (pv 1) (pa_cons (pv 4) pa_nil)))) (pa_cons (pe_tup (pa_cons pe_str (pa_cons (pv 1) (pa_cons (pv 2) (pa_cons (pv 4) pa_nil))))) (pa_cons (pe_tup (pa_cons pe_str (pa_cons (pv 4) (pa_cons (pv 2) (pa_cons (pv 1) pa_nil))))) (pa_cons (pe_tup (pa_cons pe_str (pa_cons (pv 4) (pa_cons (pv 4) pa_nil)))) pa_nil)))))))
      (pss_one (ps_ret (pe_and (c_call (ok__law_all T) (hr.mono (by decide)) T.g__law_all T.k__law_all takes0 (pa_cons (pv 6) (pa_cons pe_str pa_nil))) (pe_one (pe_cmpR op_eq (c_methV0 (k := 3) (pv 4) (hr.mono (by decide)) takes0) pe_int (nomark _)))))))))), ?_⟩
    refine ⟨_, rfl, ?_⟩
    refine ⟨59, rfl, by decide, by decide, for_range (n := 59) (fun i σ G => ∃ (b : Addr) (d : CardD) (v5 : Option V), σ = [some (.ref p), some (.ref a), some (.ref r), some (.str z), some (.ref b), v5, none] ∧ d.wt = i + 1 ∧ Kpl H0 H G ∧ (∀ e, G e = none → H0 e = none) ∧ PotN (m + i) G p ∧ PutC K H0 G d b) ⟨a, c, none, rfl, hw, .refl _ _, nn, P, hA⟩ ?_ ?_⟩
    · rintro i σ G hi ⟨b, d, v5, rfl, ed, k, nG, PG, hB⟩
      refine ⟨_, rfl, _, rfl, _, rfl, p, b, z, d, H0, m + i, n, rfl, P0, PG, by omega, nG, hB, hz, by omega, fun b2 d2 H2 e2 k2 n2 P2 hB2 => ?_⟩
      obtain ⟨dx, hd, as, fs, h1, _, _, cc, _, _, _, ls⟩ := card_gen T hB2.at
      have e : ((d2.wt : Nat) : Int) = 0 + (i : Int) + 2 := by omega
      have s1 : ((d2.wt : Nat) : Int).natAbs.log2 < 1920 := log_small (by omega)
      refine ⟨_, rfl, b2, _, dx, _, _, rfl, h1, cc.cls, cd_size T d2, ls, _, (ok_Card_size T).mono (by decide), b2, _, dx, hd, _, _, rfl, h1, cc.cls, cc.weight, ?_⟩
      refine ⟨_, rfl, s1, _, rfl, _, _, rfl, rfl, _, rfl, by rw [← e]; exact s1, rfl, false, by rw [e]; simp, iteF ?_⟩
      exact ⟨b2, d2, _, rfl, by omega, k.go k2, n2, P2, hB2⟩
    · rintro σ G ⟨b, d, v5, rfl, ed, k, nG, PG, hB⟩
      have hA2 := hA.go k
      have hD2 := hD.kpl k
      -- rows
      refine ⟨_, rfl, _, rfl, (by show 3 ≤ sizeLine; decide), fun a1 na1 => ?_⟩
      have X1 := ex_new (o := HO.tup [V.str (Str.ofString "noted"), V.ref b, .str z]) na1
      have ha1 : upd G a1 (HO.tup [V.str (Str.ofString "noted"), V.ref b, .str z]) a1 = some (HO.tup [V.str (Str.ofString "noted"), V.ref b, .str z]) := upd_same
      generalize upd G a1 (HO.tup [V.str (Str.ofString "noted"), V.ref b, .str z]) = G1 at X1 ha1 ⊢
      refine ⟨_, rfl, (by show 3 ≤ sizeLine; decide), fun a2 na2 => ?_⟩
      have X2 := ex_new (o := HO.tup [V.str (Str.ofString "later"), V.ref b, V.int 0]) na2
      have ha2 : upd G1 a2 (HO.tup [V.str (Str.ofString "later"), V.ref b, V.int 0]) a2 = some (HO.tup [V.str (Str.ofString "later"), V.ref b, V.int 0]) := upd_same
      generalize upd G1 a2 (HO.tup [V.str (Str.ofString "later"), V.ref b, V.int 0]) = G2 at X2 ha2 ⊢
      refine ⟨_, rfl, (by show 1 ≤ sizeLine; decide), fun a3 na3 => ?_⟩
      have X3 := ex_new (o := HO.lst [V.ref b]) na3
      have ha3 : upd G2 a3 (HO.lst [V.ref b]) a3 = some (HO.lst [V.ref b]) := upd_same
      generalize upd G2 a3 (HO.lst [V.ref b]) = G3 at X3 ha3 ⊢
      refine ⟨(by show 2 ≤ sizeLine; decide), fun a4 na4 => ?_⟩
      have X4 := ex_new (o := HO.tup [V.str (Str.ofString "join"), V.ref a3]) na4
      have ha4 : upd G3 a4 (HO.tup [V.str (Str.ofString "join"), V.ref a3]) a4 = some (HO.tup [V.str (Str.ofString "join"), V.ref a3]) := upd_same
      generalize upd G3 a4 (HO.tup [V.str (Str.ofString "join"), V.ref a3]) = G4 at X4 ha4 ⊢
      refine ⟨_, rfl, _, rfl, (by show 2 ≤ sizeLine; decide), fun a5 na5 => ?_⟩
      have X5 := ex_new (o := HO.lst [V.ref a, V.ref b]) na5
      have ha5 : upd G4 a5 (HO.lst [V.ref a, V.ref b]) a5 = some (HO.lst [V.ref a, V.ref b]) := upd_same
      generalize upd G4 a5 (HO.lst [V.ref a, V.ref b]) = G5 at X5 ha5 ⊢
      refine ⟨(by show 2 ≤ sizeLine; decide), fun a6 na6 => ?_⟩
      have X6 := ex_new (o := HO.tup [V.str (Str.ofString "join"), V.ref a5]) na6
      have ha6 : upd G5 a6 (HO.tup [V.str (Str.ofString "join"), V.ref a5]) a6 = some (HO.tup [V.str (Str.ofString "join"), V.ref a5]) := upd_same
      generalize upd G5 a6 (HO.tup [V.str (Str.ofString "join"), V.ref a5]) = G6 at X6 ha6 ⊢
      refine ⟨_, rfl, _, rfl, (by show 3 ≤ sizeLine; decide), fun a7 na7 => ?_⟩
      have X7 := ex_new (o := HO.tup [V.str (Str.ofString "less"), V.ref b, V.ref a]) na7
      have ha7 : upd G6 a7 (HO.tup [V.str (Str.ofString "less"), V.ref b, V.ref a]) a7 = some (HO.tup [V.str (Str.ofString "less"), V.ref b, V.ref a]) := upd_same
      generalize upd G6 a7 (HO.tup [V.str (Str.ofString "less"), V.ref b, V.ref a]) = G7 at X7 ha7 ⊢
      refine ⟨(by show 5 ≤ sizeLine; decide), fun a8 na8 => ?_⟩
      have X8 := ex_new (o := HO.lst [V.ref a1, V.ref a2, V.ref a4, V.ref a6, V.ref a7]) na8
      have ha8 : upd G7 a8 (HO.lst [V.ref a1, V.ref a2, V.ref a4, V.ref a6, V.ref a7]) a8 = some (HO.lst [V.ref a1, V.ref a2, V.ref a4, V.ref a6, V.ref a7]) := upd_same
      generalize upd G7 a8 (HO.lst [V.ref a1, V.ref a2, V.ref a4, V.ref a6, V.ref a7]) = G8 at X8 ha8 ⊢
      dsimp only [gName]
      rw [show (List.set [some (.ref p), some (.ref a), some (.ref r), some (.str z), some (.ref b), v5, none] 6 (some (V.ref a8)) : L2.St) = [some (.ref p), some (.ref a), some (.ref r), some (.str z), some (.ref b), v5, some (V.ref a8)] from rfl]
      refine ⟨_, rfl, _, rfl, _, rfl, (by show 3 ≤ sizeLine; decide), fun a9 na9 => ?_⟩
      have X9 := ex_new (o := HO.tup [V.str (Str.ofString "less"), V.ref a, V.ref b]) na9
      have ha9 : upd G8 a9 (HO.tup [V.str (Str.ofString "less"), V.ref a, V.ref b]) a9 = some (HO.tup [V.str (Str.ofString "less"), V.ref a, V.ref b]) := upd_same
      generalize upd G8 a9 (HO.tup [V.str (Str.ofString "less"), V.ref a, V.ref b]) = G9 at X9 ha9 ⊢
      refine ⟨_, rfl, _, rfl, _, rfl, (by show 4 ≤ sizeLine; decide), fun a10 na10 => ?_⟩
      have X10 := ex_new (o := HO.tup [V.str (Str.ofString "swap"), V.ref a, V.ref r, V.ref b]) na10
      have ha10 : upd G9 a10 (HO.tup [V.str (Str.ofString "swap"), V.ref a, V.ref r, V.ref b]) a10 = some (HO.tup [V.str (Str.ofString "swap"), V.ref a, V.ref r, V.ref b]) := upd_same
      generalize upd G9 a10 (HO.tup [V.str (Str.ofString "swap"), V.ref a, V.ref r, V.ref b]) = G10 at X10 ha10 ⊢
      refine ⟨_, rfl, _, rfl, _, rfl, (by show 4 ≤ sizeLine; decide), fun a11 na11 => ?_⟩
      have X11 := ex_new (o := HO.tup [V.str (Str.ofString "swap"), V.ref b, V.ref r, V.ref a]) na11
      have ha11 : upd G10 a11 (HO.tup [V.str (Str.ofString "swap"), V.ref b, V.ref r, V.ref a]) a11 = some (HO.tup [V.str (Str.ofString "swap"), V.ref b, V.ref r, V.ref a]) := upd_same
      generalize upd G10 a11 (HO.tup [V.str (Str.ofString "swap"), V.ref b, V.ref r, V.ref a]) = G11 at X11 ha11 ⊢
      refine ⟨_, rfl, _, rfl, (by show 3 ≤ sizeLine; decide), fun a12 na12 => ?_⟩
      have X12 := ex_new (o := HO.tup [V.str (Str.ofString "less"), V.ref b, V.ref b]) na12
      have ha12 : upd G11 a12 (HO.tup [V.str (Str.ofString "less"), V.ref b, V.ref b]) a12 = some (HO.tup [V.str (Str.ofString "less"), V.ref b, V.ref b]) := upd_same
      generalize upd G11 a12 (HO.tup [V.str (Str.ofString "less"), V.ref b, V.ref b]) = G12 at X12 ha12 ⊢
      refine ⟨(by show 4 ≤ sizeLine; decide), fun a13 na13 => ?_⟩
      have X13 := ex_new (o := HO.lst [V.ref a9, V.ref a10, V.ref a11, V.ref a12]) na13
      have ha13 : upd G12 a13 (HO.lst [V.ref a9, V.ref a10, V.ref a11, V.ref a12]) a13 = some (HO.lst [V.ref a9, V.ref a10, V.ref a11, V.ref a12]) := upd_same
      generalize upd G12 a13 (HO.lst [V.ref a9, V.ref a10, V.ref a11, V.ref a12]) = G13 at X13 ha13 ⊢
      refine ⟨_, _, _, _, rfl, rfl, ((X9.trans (X10.trans (X11.trans (X12.trans X13)))) _ _ ha8), ha13, (by show 9 ≤ sizeLine; decide), fun a14 na14 => ?_⟩
      have X14 := ex_new (o := HO.lst ([V.ref a1, V.ref a2, V.ref a4, V.ref a6, V.ref a7] ++ [V.ref a9, V.ref a10, V.ref a11, V.ref a12])) na14
      have ha14 : upd G13 a14 (HO.lst ([V.ref a1, V.ref a2, V.ref a4, V.ref a6, V.ref a7] ++ [V.ref a9, V.ref a10, V.ref a11, V.ref a12])) a14 = some (HO.lst [V.ref a1, V.ref a2, V.ref a4, V.ref a6, V.ref a7, V.ref a9, V.ref a10, V.ref a11, V.ref a12]) := upd_same
      generalize upd G13 a14 (HO.lst ([V.ref a1, V.ref a2, V.ref a4, V.ref a6, V.ref a7] ++ [V.ref a9, V.ref a10, V.ref a11, V.ref a12])) = G14 at X14 ha14 ⊢
      dsimp only [gName]
      rw [show (List.set [some (.ref p), some (.ref a), some (.ref r), some (.str z), some (.ref b), v5, some (V.ref a8)] 6 (some (V.ref a14)) : L2.St) = [some (.ref p), some (.ref a), some (.ref r), some (.str z), some (.ref b), v5, some (V.ref a14)] from rfl]
      have cB : CdX K G14 (.ref b) (some d) := ⟨b, rfl, hB.at.mono (X1.trans (X2.trans (X3.trans (X4.trans (X5.trans (X6.trans (X7.trans (X8.trans (X9.trans (X10.trans (X11.trans (X12.trans (X13.trans X14)))))))))))))⟩
      have cA : CdX K G14 (.ref a) (some c) := ⟨a, rfl, hA2.at.mono (X1.trans (X2.trans (X3.trans (X4.trans (X5.trans (X6.trans (X7.trans (X8.trans (X9.trans (X10.trans (X11.trans (X12.trans (X13.trans X14)))))))))))))⟩
      have dD : DyIs K G14 (.ref r) (some D) := ⟨r, rfl, hD2.mono (X1.trans (X2.trans (X3.trans (X4.trans (X5.trans (X6.trans (X7.trans (X8.trans (X9.trans (X10.trans (X11.trans (X12.trans (X13.trans X14))))))))))))), kD⟩
      have hR : RowsAt K G14 G14 1 [V.ref a1, V.ref a2, V.ref a4, V.ref a6, V.ref a7, V.ref a9, V.ref a10, V.ref a11, V.ref a12] := (allc ⟨_, "noted", _, rfl, ((X2.trans (X3.trans (X4.trans (X5.trans (X6.trans (X7.trans (X8.trans (X9.trans (X10.trans (X11.trans (X12.trans (X13.trans X14)))))))))))) _ _ ha1), .noted_n (r1 := some d) (rn := some z) ⟨rfl, hz⟩ (fun _ => cB) (fun c1 c2 e1 e2 => by cases e1; omega)⟩ (allc ⟨_, "later", _, rfl, ((X3.trans (X4.trans (X5.trans (X6.trans (X7.trans (X8.trans (X9.trans (X10.trans (X11.trans (X12.trans (X13.trans X14))))))))))) _ _ ha2), .later_n (r1 := some d) (rm := some 0) (mn_ok (m := 0) (by decide)) (fun _ => cB) (fun c1 c2 e1 e2 => by cases e1; omega)⟩ (allc ⟨_, "join", _, rfl, ((X5.trans (X6.trans (X7.trans (X8.trans (X9.trans (X10.trans (X11.trans (X12.trans (X13.trans X14))))))))) _ _ ha4), .join_n (r := some [d]) (.inl ⟨_, _, [some d], rfl, .inl ((X4.trans (X5.trans (X6.trans (X7.trans (X8.trans (X9.trans (X10.trans (X11.trans (X12.trans (X13.trans X14)))))))))) _ _ ha3), by show 1 ≤ 1000; decide, .cons cB .nil, rfl⟩) (fun cs e => .inr (by cases e; show 60 ≤ d.wt + 0; omega))⟩ (allc ⟨_, "join", _, rfl, ((X7.trans (X8.trans (X9.trans (X10.trans (X11.trans (X12.trans (X13.trans X14))))))) _ _ ha6), .join_n (r := some [c, d]) (.inl ⟨_, _, [some c, some d], rfl, .inl ((X6.trans (X7.trans (X8.trans (X9.trans (X10.trans (X11.trans (X12.trans (X13.trans X14)))))))) _ _ ha5), by show 2 ≤ 1000; decide, .cons cA (.cons cB .nil), rfl⟩) (fun cs e => .inr (by cases e; show 60 ≤ c.wt + (d.wt + 0); omega))⟩ (allc ⟨_, "less", _, rfl, ((X8.trans (X9.trans (X10.trans (X11.trans (X12.trans (X13.trans X14)))))) _ _ ha7), .less_n (r1 := some d) (r2 := some c) cB cA (fun c1 c2 e1 e2 => by cases e1; cases e2; omega)⟩ (allc ⟨_, "less", _, rfl, ((X10.trans (X11.trans (X12.trans (X13.trans X14)))) _ _ ha9), .less_n (r1 := some c) (r2 := some d) cA cB (fun c1 c2 e1 e2 => by cases e1; cases e2; omega)⟩ (allc ⟨_, "swap", _, rfl, ((X11.trans (X12.trans (X13.trans X14))) _ _ ha10), .swap_n (r1 := some c) (r2 := some d) (rd := some D) dD (fun _ => ⟨cA, cB⟩) (fun c1 c2 _ e1 e2 _ => by cases e1; cases e2; omega)⟩ (allc ⟨_, "swap", _, rfl, ((X12.trans (X13.trans X14)) _ _ ha11), .swap_n (r1 := some d) (r2 := some c) (rd := some D) dD (fun _ => ⟨cB, cA⟩) (fun c1 c2 _ e1 e2 _ => by cases e1; cases e2; omega)⟩ (allc ⟨_, "less", _, rfl, ((X13.trans X14) _ _ ha12), .less_n (r1 := some d) (r2 := some d) cB cB (fun c1 c2 e1 e2 => by cases e1; cases e2; omega)⟩ alln)))))))))
      refine ⟨_, rfl, _, _, 1, G14, rfl, ha14, .refl _, hR, by decide, by show 9 ≤ 900; decide, fun H9 XQ => ?_⟩
      have XX := (X1.trans (X2.trans (X3.trans (X4.trans (X5.trans (X6.trans (X7.trans (X8.trans (X9.trans (X10.trans (X11.trans (X12.trans (X13.trans X14))))))))))))).trans XQ
      obtain ⟨dx, hd, as, fs, h1, _, _, cc, _, _, _, ls⟩ := card_gen T (hB.at.mono XX)
      refine ⟨true, rfl, iteT ?_⟩
      refine ⟨_, rfl, b, _, dx, _, _, rfl, h1, cc.cls, cd_size T d, ls, _, (ok_Card_size T).mono (by decide), b, _, dx, hd, _, _, rfl, h1, cc.cls, cc.weight, ?_⟩
      refine ⟨rfl, ?_⟩
      rw [show ((d.wt : Nat) : Int) = 60 by omega, decide_eq_true rfl]
      exact q H9 (k.go (Kpl.of XX)) (fun e h => nG e (ex_fresh XX h)) (PG.ex XX)
theorem ok__law_sizes_right {P : Program} {w : World} {K : PySem.W.Frag} {mg : Str → Option Value} {base : Heap} (T : Env K mg) : Fc P w K mg base 110 (He.ga K "_law_sizes_right") [] (sp__law_sizes_right K ) := by
  obtain ⟨fd, D, F⟩ := fb__law_sizes_right T
  exact F.all (D.bindsN fun _ _ _ _ _ _ us hl => match us, hl with | [_, _, _, _], _ => rfl)
end
section
theorem wtL_rep {e : CardD} : ∀ n, wtL (List.replicate n e) = n * e.wt
  | 0 => by rw [Nat.zero_mul]; rfl
  | n + 1 => by
    rw [List.replicate_succ, wtL, wtL_rep n, Nat.succ_mul]
    omega
theorem crd_rep {K : PySem.W.Frag} {H : Hp} {e : CardD} {b : Addr} (h : CardAt K H e b) : ∀ n, CardsAt K H (List.replicate n e) (List.replicate n b)
  | 0 => by unfold CardsAt; rfl
  | n + 1 => by
    rw [List.replicate_succ, List.replicate_succ]
    unfold CardsAt
    exact ⟨b, _, rfl, h, crd_rep h n⟩
theorem allO_rep {α : Type} {e : α} (n : Nat) : allO (List.replicate n (some e)) = some (List.replicate n e) := by
  have := allO_some (List.replicate n e)
  rwa [List.map_replicate] at this
def sp__law_often_right (K : PySem.W.Frag) : Sp := fun vs H Q _ => ∃ (p a : Addr) (z : Str) (c : CardD) (H0 : Hp) (m n : Nat), vs = [.ref p, .ref a, .str z] ∧ PotN n H0 p ∧ PotN m H p ∧ m ≤ 4611686018427370000 ∧ (∀ b, H b = none → H0 b = none) ∧ PutC K H0 H c a ∧ c.wt = 1 ∧ nmN z.cps.toList = true ∧
  ∀ H', Kpl H0 H H' → (∀ e, H' e = none → H0 e = none) → Q (.bl true) H'
theorem fb__law_often_right {P : Program} {w : World} {K : PySem.W.Frag} {mg : Str → Option Value} {base : Heap} (T : Env K mg) : ∃ fd, FunD K "_law_often_right" "_law_often_right" (defArgs s__law_often_right) (defBody s__law_often_right) (defScope s__law_often_right) [] [] (He.ga K "_law_often_right") fd ∧ Fb P w K mg base 109 (He.ga K "_law_often_right") fd ["_law_pot_here", "_law_leaf", "_law_name_here"] (sp__law_often_right K) := by
  obtain ⟨fd, F⟩ := T.f__law_often_right
  refine ⟨fd, F, fb_of F sc__law_often_right (fun vs H Q E h => ?_) (fun cdv A outer s H vs Q E hr h => ?_)⟩
  · obtain ⟨p, a, z, c, H0, m, n, rfl, _⟩ := h
    rfl
  · obtain ⟨p, a, z, c, H0, m, n, rfl, P0, P, hm, nn, hA, hw, hz, q⟩ := h
    refine ⟨_, (pss_cons (ps_set (i := 3) sc__law_often_right.nd rfl (Or.inl rfl) (pv 1))
      (pss_cons (ps_set (i := 4) sc__law_often_right.nd rfl (Or.inl rfl) (pe_op op_add pe_int (c_call (ok__law_take T) (hr.mono (by decide)) T.g__law_take T.k__law_take takes0 (pa_cons (pv 0) (pa_cons pe_int pa_nil)))))
      (pss_cons (ps_for (passes_of rfl) rfl (pi_range1 (by rfl) T.n_range (pa_cons (pe_op op_sub (pv 4) pe_int) pa_nil)) (pg_name (i := 5) sc__law_often_right.nd rfl (Or.inl rfl))
      (pss_one (ps_set (i := 3) sc__law_often_right.nd rfl (Or.inl rfl) (c_call (ok__law_around T) (hr.mono (by decide)) T.g__law_around T.k__law_around takes0 (pa_cons (pv 0) (pa_cons (pv 3) (pa_cons (pv 2) pa_nil)))))))
      (pss_cons (ps_set (i := 6) sc__law_often_right.nd rfl (Or.inl rfl) (pe_op op_add pe_int (c_call (ok__law_take T) (hr.mono (by decide)) T.g__law_take T.k__law_take takes0 (pa_cons (pv 0) (pa_cons pe_int pa_nil)))))
      (pss_cons (ps_if (pt_cmpR op_gt (pe_op op_add pe_int (pe_op op_mul (pv 4) (pv 6))) pe_int (nomark _))
      (pss_one (ps_ret (pe_cmpR op_eq (c_call (ok__law_tried T) (hr.mono (by decide)) T.g__law_tried T.k__law_tried takes0 (pa_cons pe_str (pa_cons (pe_tup (pa_cons (pe_op op_rep (pe_lst (pa_cons (pv 3) pa_nil)) (pv 6)) pa_nil)) pa_nil))) pe_str (nomark _))))
      pss_nil)
      (pss_one (ps_ret (pe_cmpR op_eq (pe_callB SkE.call_repr_int (by rfl) T.n_repr (by decide +kernel) (pa_cons (c_meth0 (c_make T.mk_Join (ok_Join_init T) (hr.mono (by decide)) T.g_Join takes0 (pa_cons (pe_op op_rep (pe_lst (pa_cons (pv 3) pa_nil)) (pv 6)) pa_nil)) T.c_Join T.m_Join_size (T.e_Join_size ▸ (ok_Card_size T)) (hr.mono (by decide)) takes0) pa_nil)) (pe_callB SkE.call_repr_int (by rfl) T.n_repr (by decide +kernel) (pa_cons (pe_op op_add pe_int (pe_op op_mul (pv 4) (pv 6))) pa_nil)) (nomark _))))))))), ?_⟩
    refine ⟨_, rfl, ?_⟩
    refine ⟨_, rfl, p, m, 12, rfl, P, by omega, by decide, by decide, fun d H1 d0 d12 P1 => ?_⟩
    obtain ⟨u, rfl⟩ := Int.eq_ofNat_of_zero_le d0
    have k1 := kpl_pot P0 P P1
    have nn1 := dom_pot nn P1
    have hA1 := hA.go k1
    refine ⟨_, _, rfl, rfl, ?_⟩
    refine ⟨_, rfl, _, _, rfl, rfl, _, rfl, by show -(2 ^ 62) ≤ (1 + (u : Int) - 1); omega, by show (1 + (u : Int) - 1) < 2 ^ 62; omega, ?_⟩
    rw [show ((1 : Int) + (u : Nat) - 1).toNat = u by omega]
    refine for_range (n := u) (fun i σ G => ∃ (b : Addr) (e : CardD) (v5 : Option V), σ = [some (.ref p), some (.ref a), some (.str z), some (.ref b), some (.int (1 + (u : Nat))), v5, none] ∧ e.wt = i + 1 ∧ Kpl H0 H G ∧ (∀ e, G e = none → H0 e = none) ∧ PotN (m + 1 + i) G p ∧ PutC K H0 G e b) ⟨a, c, none, rfl, hw, k1, nn1, P1.1, hA1⟩ ?_ ?_
    · rintro i σ G hi ⟨b, e, v5, rfl, ew, k, nG, PG, hB⟩
      refine ⟨_, rfl, _, rfl, _, rfl, p, b, z, e, H0, m + 1 + i, n, rfl, P0, PG, by omega, nG, hB, hz, by omega, fun b2 d2 H2 e2 k2 n2 P2 hB2 => ?_⟩
      exact ⟨b2, d2, _, rfl, by omega, k.go k2, n2, P2, hB2⟩
    · rintro σ G ⟨b, e, v5, rfl, ew, k, nG, PG, hB⟩
      refine ⟨_, rfl, p, m + 1 + u, 12, rfl, PG, by omega, by decide, by decide, fun g H2 g0 g12 P2 => ?_⟩
      obtain ⟨t, rfl⟩ := Int.eq_ofNat_of_zero_le g0
      have k2 := k.go (kpl_pot P0 PG P2)
      have nn2 := dom_pot nG P2
      have hB2 := hB.go (kpl_pot P0 PG P2)
      refine ⟨_, _, rfl, rfl, ?_⟩
      have hx : (1 + (u : Int)) * (1 + (t : Int)) = (((t + 1) * (u + 1) : Nat) : Int) := by
        rw [Int.natCast_mul, Int.mul_comm]
        congr 1 <;> omega
      have lx : (t + 1) * (u + 1) ≤ 144 := Nat.le_trans (Nat.mul_le_mul (show t + 1 ≤ 12 by omega) (show u + 1 ≤ 12 by omega)) (by decide)
      refine ⟨_, rfl, _, rfl, _, _, rfl, rfl, .inl ⟨by omega, by omega⟩, _, _, rfl, rfl, _, _, rfl, rfl, _, rfl, ?_⟩
      rw [hx]
      refine ite2 (fun hc => ?_) (fun hc => ?_)
      · have hc := of_decide_eq_true hc
        refine ⟨_, rfl, (by show 1 ≤ sizeLine; decide), fun b1 m1 => ?_⟩
        have E1 := ex_new (o := HO.lst [V.ref b]) m1
        have hb1 : upd H2 b1 (HO.lst [V.ref b]) b1 = some (HO.lst [V.ref b]) := upd_same
        generalize upd H2 b1 (HO.lst [V.ref b]) = F1 at E1 hb1 ⊢
        refine ⟨_, rfl, b1, 1 + (t : Int), _, rfl, rfl, hb1, by omega, by omega, by show 1 * (1 + (t : Int)).toNat ≤ sizeLine; rw [sizeLine_eq]; omega, fun b2 m2 => ?_⟩
        rw [show (1 + (t : Int)).toNat = t + 1 by omega, rep_one]
        have E2 := ex_new (o := HO.lst (List.replicate (t + 1) (V.ref b))) m2
        have hb2 : upd F1 b2 (HO.lst (List.replicate (t + 1) (V.ref b))) b2 = some (HO.lst (List.replicate (t + 1) (V.ref b))) := upd_same
        generalize upd F1 b2 (HO.lst (List.replicate (t + 1) (V.ref b))) = F2 at E2 hb2 ⊢
        refine ⟨(by show 1 ≤ sizeLine; decide), fun b3 m3 => ?_⟩
        have E3 := ex_new (o := HO.tup [V.ref b2]) m3
        have hb3 : upd F2 b3 (HO.tup [V.ref b2]) b3 = some (HO.tup [V.ref b2]) := upd_same
        generalize upd F2 b3 (HO.tup [V.ref b2]) = F3 at E3 hb3 ⊢
        have EE := E1.trans (E2.trans E3)
        dsimp only [tNil]
        refine ⟨b3, "join", [.ref b2], 1, rfl, hb3, ?_, by decide, fun H4 X4 => ?_⟩
        · refine .join_n (r := some (List.replicate (t + 1) e)) (.inl ⟨b2, _, List.replicate (t + 1) (some e), rfl, .inl (E3 _ _ hb2), by rw [List.length_replicate]; omega, pr_rep ⟨b, rfl, hB2.at.mono EE⟩ _, (allO_rep _).symm⟩) (fun cs h => .inr ?_)
          cases h
          rw [wtL_rep, ew]
          omega
        · refine ⟨rfl, ?_⟩
          rw [show decide (V.str (dnW 1) = V.str (Str.ofString "nocard")) = true from decide_eq_true rfl]
          exact q H4 (k2.go (Kpl.of (EE.trans X4))) (fun e h => nn2 e (ex_fresh (EE.trans X4) h))
      · have hc : ¬ 60 < (1 : Int) + ((t + 1) * (u + 1) : Nat) := fun z => hc (decide_eq_true z)
        refine ⟨_, rfl, (by show 1 ≤ sizeLine; decide), fun b1 m1 => ?_⟩
        have E1 := ex_new (o := HO.lst [V.ref b]) m1
        have hb1 : upd H2 b1 (HO.lst [V.ref b]) b1 = some (HO.lst [V.ref b]) := upd_same
        generalize upd H2 b1 (HO.lst [V.ref b]) = F1 at E1 hb1 ⊢
        refine ⟨_, rfl, b1, 1 + (t : Int), _, rfl, rfl, hb1, by omega, by omega, by show 1 * (1 + (t : Int)).toNat ≤ sizeLine; rw [sizeLine_eq]; omega, fun b2 m2 => ?_⟩
        rw [show (1 + (t : Int)).toNat = t + 1 by omega, rep_one]
        have E2 := ex_new (o := HO.lst (List.replicate (t + 1) (V.ref b))) m2
        have hb2 : upd F1 b2 (HO.lst (List.replicate (t + 1) (V.ref b))) b2 = some (HO.lst (List.replicate (t + 1) (V.ref b))) := upd_same
        generalize upd F1 b2 (HO.lst (List.replicate (t + 1) (V.ref b))) = F2 at E2 hb2 ⊢
        have EE := E1.trans E2
        refine fun x dx nx nd ne => ?_
        show sp_Join_init K [.ref x, .ref b2] _ _ _
        have hw2 : wtL (List.replicate (t + 1) e) = (t + 1) * (u + 1) := by rw [wtL_rep, ew]
        refine join_new nx nd ne (as := List.replicate (t + 1) b) (cs := List.replicate (t + 1) e) (.inl (by rw [List.map_replicate]; exact hb2)) (crd_rep (hB2.at.mono EE) _) (by simp) (by rw [hw2]; omega) fun hd H3 X3 nh h1 h2 _ => ⟨rfl, ?_⟩
        rw [hw2] at h2
        have XX := EE.trans X3
        refine ⟨x, dx, _, rfl, h2, rfl, x, _, dx, hd, [], 1 + (t + 1) * (u + 1), rfl, h2, T.c_Join, T.a_Join_weight, ?_⟩
        refine ⟨_, rfl, log_small (by omega), _, rfl, _, rfl, _, _, rfl, rfl, .inl ⟨by omega, by omega⟩, _, _, rfl, rfl, _, rfl, ?_⟩
        dsimp only
        rw [hx]
        refine ⟨log_small (by omega), rfl, ?_⟩
        rw [show ((1 + (t + 1) * (u + 1) : Nat) : Int) = 1 + (((t + 1) * (u + 1) : Nat) : Int) from Int.natCast_add 1 _, decide_eq_true rfl]
        exact q H3 (k2.go (Kpl.of XX)) (fun e h => nn2 e (ex_fresh XX h))
theorem ok__law_often_right {P : Program} {w : World} {K : PySem.W.Frag} {mg : Str → Option Value} {base : Heap} (T : Env K mg) : Fc P w K mg base 109 (He.ga K "_law_often_right") [] (sp__law_often_right K ) := by
  obtain ⟨fd, D, F⟩ := fb__law_often_right T
  exact F.all (D.bindsN fun _ _ _ _ _ _ us hl => match us, hl with | [_, _, _], _ => rfl)
end
section
def sp_law (K : PySem.W.Frag) : Sp := fun vs H Q _ => ∃ (a : Addr) (ns : List Int), vs = [.ref a] ∧ SqL K H a (ns.map V.int) ∧ ns.length ≤ 63 ∧ ∀ H', Q (.bl true) H'
theorem ok_law {P : Program} {w : World} {K : PySem.W.Frag} {mg : Str → Option Value} {base : Heap} (T : Env K mg) {fd : FuncData} (F : FunD K "law" "law" (defArgs s_law) (defBody s_law) (defScope s_law) [] [] (He.ga K "law") fd) : Fb P w K mg base 111 (He.ga K "law") fd ["_law_script"] (sp_law K) := by
  refine fb_of F sc_law (fun vs H Q E h => ?_) (fun cdv A outer s H vs Q E hr h => ?_)
  · obtain ⟨a, ns, rfl, _⟩ := h
    rfl
  · obtain ⟨a, ns, rfl, hS, hl, q⟩ := h
    refine ⟨_, (pss_cons (ps_set (i := 1) sc_law.nd rfl (Or.inl rfl) (pe_lst (pa_cons (c_call (ok__law_pot T) (hr.mono (by decide)) T.g__law_pot T.k__law_pot takes0 (pa_cons (pv 0) (pa_cons pe_int pa_nil))) (pa_cons (c_call (ok__law_pot T) (hr.mono (by decide)) T.g__law_pot T.k__law_pot takes0 (pa_cons (pv 0) (pa_cons pe_int pa_nil))) pa_nil))))
      (pss_cons (ps_set (i := 2) sc_law.nd rfl (Or.inl rfl) (c_call (ok__law_name T) (hr.mono (by decide)) T.g__law_name T.k__law_name takes0 (pa_cons (pe_ix ix_list (pv 1) pe_int (fun _ _ => rfl)) pa_nil)))
      (pss_cons (ps_set (i := 3) sc_law.nd rfl (Or.inl rfl) (c_make T.mk_Spread (ok_Spread_init T) (hr.mono (by decide)) T.g_Spread takes0 (pa_cons (pe_lst (pa_cons (c_make T.mk_At (ok_At_init T) (hr.mono (by decide)) T.g_At takes0 (pa_cons (c_call (ok__law_take T) (hr.mono (by decide)) T.g__law_take T.k__law_take takes0 (pa_cons (pe_ix ix_list (pv 1) pe_int (fun _ _ => rfl)) (pa_cons pe_int pa_nil))) pa_nil)) pa_nil)) pa_nil)))
      (pss_cons (ps_set (i := 4) sc_law.nd rfl (Or.inl rfl) (c_make T.mk_Days (ok_Days_init_2 T) (hr.mono (by decide)) T.g_Days takes0 (pa_cons (c_make T.mk_Ring (ok_Ring_init T) (hr.mono (by decide)) T.g_Ring takes0 (pa_cons pe_str pa_nil)) pa_nil)))
      (pss_cons (ps_set (i := 5) sc_law.nd rfl (Or.inl rfl) (pe_ifExp (pt_cmpR op_eq (c_call (ok__law_take T) (hr.mono (by decide)) T.g__law_take T.k__law_take takes0 (pa_cons (pe_ix ix_list (pv 1) pe_int (fun _ _ => rfl)) (pa_cons pe_int pa_nil))) pe_int (nomark _)) (c_make T.mk_Once (ok_Once_init T) (hr.mono (by decide)) T.g_Once takes0 (pa_cons (pv 3) (pa_cons (pe_lst (pa_cons (pv 2) pa_nil)) pa_nil))) (c_make T.mk_Every (ok_Every_init T) (hr.mono (by decide)) T.g_Every takes0 (pa_cons (pv 4) (pa_cons (pv 3) (pa_cons (pe_lst (pa_cons (pv 2) pa_nil)) pa_nil))))))
      (pss_cons (ps_if (pt_not (pt_val (c_call (ok__law_all T) (hr.mono (by decide)) T.g__law_all T.k__law_all takes0 (pa_cons (c_call (ok__law_no_leaves T) (hr.mono (by decide)) T.g__law_no_leaves T.k__law_no_leaves takes0 (pa_cons (pv 5) (pa_cons (pv 4) (pa_cons (pv 3) (pa_cons (pv 2) pa_nil))))) (pa_cons pe_str pa_nil)))))
      (pss_one (ps_ret pe_bl))
      pss_nil)
      (pss_cons (ps_if (pt_not (pt_val (c_call (ok__law_all T) (hr.mono (by decide)) T.g__law_all T.k__law_all takes0 (pa_cons (c_call (ok__law_no_others T) (hr.mono (by decide)) T.g__law_no_others T.k__law_no_others takes0 (pa_cons (pv 5) (pa_cons (pv 4) (pa_cons (pv 3) (pa_cons (c_call (ok__law_take T) (hr.mono (by decide)) T.g__law_take T.k__law_take takes0 (pa_cons (pe_ix ix_list (pv 1) pe_int (fun _ _ => rfl)) (pa_cons pe_int pa_nil))) pa_nil))))) (pa_cons pe_str pa_nil)))))
      (pss_one (ps_ret pe_bl))
      pss_nil)
      (pss_cons (ps_if (pt_not (pt_val (c_call (ok__law_all T) (hr.mono (by decide)) T.g__law_all T.k__law_all takes0 (pa_cons (c_call (ok__law_no_moments T) (hr.mono (by decide)) T.g__law_no_moments T.k__law_no_moments takes0 (pa_cons (pv 5) pa_nil)) (pa_cons pe_str pa_nil)))))
      (pss_one (ps_ret pe_bl))
      pss_nil)
      (pss_cons (ps_if (PW.pt (pw_or (pt_not (pt_val (c_call (ok__law_sizes_right T) (hr.mono (by decide)) T.g__law_sizes_right T.k__law_sizes_right takes0 (pa_cons (pe_ix ix_list (pv 1) pe_int (fun _ _ => rfl)) (pa_cons (pv 5) (pa_cons (pv 4) (pa_cons (pv 2) pa_nil))))))) (pw_or1 (pt_not (pt_val (c_call (ok__law_often_right T) (hr.mono (by decide)) T.g__law_often_right T.k__law_often_right takes0 (pa_cons (pe_ix ix_list (pv 1) pe_int (fun _ _ => rfl)) (pa_cons (pv 5) (pa_cons (pv 2) pa_nil)))))))))
      (pss_one (ps_ret pe_bl))
      pss_nil)
      (pss_cons (ps_set (i := 6) sc_law.nd rfl (Or.inl rfl) (pe_lst (pa_cons (pe_tup (pa_cons pe_str (pa_cons (pv 5) (pa_cons pe_int pa_nil)))) (pa_cons (pe_tup (pa_cons pe_str (pa_cons (pv 5) (pa_cons pe_int pa_nil)))) (pa_cons (pe_tup (pa_cons pe_str (pa_cons (pv 4) (pa_cons (c_make T.mk_Spread (ok_Spread_init T) (hr.mono (by decide)) T.g_Spread takes0 (pa_cons (pe_lst (pa_cons (c_make T.mk_At (ok_At_init T) (hr.mono (by decide)) T.g_At takes0 (pa_cons pe_int pa_nil)) pa_nil)) pa_nil)) (pa_cons pe_non pa_nil))))) pa_nil)))))
      (pss_cons (ps_set (i := 6) sc_law.nd rfl (Or.inl rfl) (pe_op op_cat (pv 6) (pe_lst (pa_cons (pe_tup (pa_cons pe_str (pa_cons (pv 4) (pa_cons (c_make T.mk_Spread (ok_Spread_init T) (hr.mono (by decide)) T.g_Spread takes0 (pa_cons (pe_lst pa_nil) pa_nil)) (pa_cons (pe_lst pa_nil) pa_nil))))) (pa_cons (pe_tup (pa_cons pe_str (pa_cons (pv 3) (pa_cons (pe_tup (pa_cons (pv 2) pa_nil)) pa_nil)))) (pa_cons (pe_tup (pa_cons pe_str (pa_cons (pe_tup (pa_cons (pv 5) pa_nil)) pa_nil))) (pa_cons (pe_tup (pa_cons pe_str (pa_cons (pv 2) pa_nil))) pa_nil)))))))
      (pss_one (ps_ret (pe_and (c_call (ok__law_all T) (hr.mono (by decide)) T.g__law_all T.k__law_all takes0 (pa_cons (pv 6) (pa_cons pe_str pa_nil))) (pe_one (pe_cmpR op_eq (c_methV0 (k := 3) (pv 5) (hr.mono (by decide)) takes0) pe_int (nomark _))))))))))))))))), ?_⟩
    rw [show (L2.start [Str.ofString "_law_script", Str.ofString "_law_pots", Str.ofString "_law_name_here", Str.ofString "_law_spread", Str.ofString "_law_days", Str.ofString "_law_card", Str.ofString "_law_rows"] [.ref a] : L2.St) = [some (.ref a), none, none, none, none, none, none] from rfl]
    refine ⟨_, rfl, a, ns, 0, rfl, hS, by decide, by decide, fun p0 H1 n0 P0 K0 => ?_⟩
    have X1 : Ex H H1 := fun b o e => by rw [K0 b (ne_of_none e n0)]; exact e
    refine ⟨_, rfl, a, ns, 1, rfl, ex_sql X1 hS, by decide, by decide, fun p1 H2 n1 P1 K1 => ?_⟩
    have X2 : Ex H1 H2 := fun b o e => by rw [K1 b (ne_of_none e n1)]; exact e
    have p10 : p1 ≠ p0 := P0.some n1
    have B0 := P0.ex X2
    have B1 := P1
    refine ⟨by show 2 ≤ sizeLine; decide, fun L nL => ?_⟩
    have XL := ex_new (o := HO.lst [V.ref p0, V.ref p1]) nL
    have hL : upd H2 L (HO.lst [V.ref p0, V.ref p1]) L = some (HO.lst [V.ref p0, V.ref p1]) := upd_same
    have Lp0 : L ≠ p0 := B0.some nL
    have Lp1 : L ≠ p1 := B1.some nL
    generalize upd H2 L (HO.lst [V.ref p0, V.ref p1]) = H3 at XL hL ⊢
    have P0 := B0.ex XL
    have P1 := B1.ex XL
    dsimp only [gName]
    rw [show (List.set [some (.ref a), none, none, none, none, none, none] 1 (some (.ref L)) : L2.St) = [some (.ref a), some (.ref L), none, none, none, none, none] from rfl]
    refine ⟨_, rfl, L, _, 0, _, rfl, rfl, sq_lst hL, rfl, p0, 0, rfl, P0, by decide, fun z H4 hz O4 => ?_⟩
    have hL := O4.2 _ _ Lp0 hL
    have P1 := P1.keep fun o e => O4.2 _ _ p10 e
    have k4 : Kpl H2 H3 H4 := kpl_pot B0 P0 O4
    have d4 := dom_pot (B := H2) (fun b e => ex_fresh XL e) O4
    have P0 := O4.1
    dsimp only [gName]
    rw [show (List.set [some (.ref a), some (.ref L), none, none, none, none, none] 2 (some (.str z)) : L2.St) = [some (.ref a), some (.ref L), some (.str z), none, none, none, none] from rfl]
    refine ⟨_, rfl, L, _, 0, _, rfl, rfl, sq_lst hL, rfl, p0, 20, 1440, rfl, P0, by decide, by decide, by decide, fun mo H5 mo0 mo1 O5 => ?_⟩
    obtain ⟨mo, rfl⟩ := Int.eq_ofNat_of_zero_le mo0
    have hL := O5.2 _ _ Lp0 hL
    have P1 := P1.keep fun o e => O5.2 _ _ p10 e
    have d5 := dom_pot d4 O5
    have P0 := O5.1
    refine fun a1 e1 na1 nd1 ne1 => ?_
    show sp_At_init K [.ref a1, .int ((mo : Nat) : Int)] _ _ _
    refine at_new (n := mo) na1 nd1 ne1 fun G1 Y1 A1 => ⟨rfl, ?_⟩
    refine ⟨by show 1 ≤ sizeLine; decide, fun a2 na2 => ?_⟩
    have Y2 := ex_new (o := HO.lst [V.ref a1]) na2
    have ha2 : upd G1 a2 (HO.lst [V.ref a1]) a2 = some (HO.lst [V.ref a1]) := upd_same
    generalize upd G1 a2 (HO.lst [V.ref a1]) = G2 at Y2 ha2 ⊢
    refine fun s e3 na3 nd3 ne3 => ?_
    show sp_Spread_init K [.ref s, .ref a2] _ _ _
    refine spread_newH (as := [a1]) (ts := [.at mo]) na3 nd3 ne3 (.inl ha2) (shsR (by unfold ShAt; exact A1.mono Y2)) (by simp [nestL, Tr.nest]) (by simp [okL_, Tr.ok]) (by simp [sprB, risB, momsL, Tr.moms]) fun G3 Y3 S3 U3 => ⟨rfl, ?_⟩
    dsimp only [gName]
    rw [show (List.set [some (.ref a), some (.ref L), some (.str z), none, none, none, none] 3 (some (.ref s)) : L2.St) = [some (.ref a), some (.ref L), some (.str z), some (.ref s), none, none, none] from rfl]
    refine fun rg e4 na4 nd4 ne4 => ?_
    show sp_Ring_init K [.ref rg, .str (SX.S [49, 48])] _ _ _
    refine ring_new (l := [49, 48]) na4 nd4 ne4 (by decide) fun G4 Y4 A4 => ⟨rfl, ?_⟩
    refine fun y e5 na5 nd5 ne5 => ⟨rfl, ?_⟩
    have kD : DaysD.ok ⟨[49, 48], 0, none, [], []⟩ := ⟨by decide, nofun, by decide, by decide, .nil, .nil, nofun⟩
    show sp_Days_init K [.ref y, .ref rg, .int ((0 : Nat) : Int), .non, .non, .non] _ _ _
    refine days_new (D := ⟨[49, 48], 0, none, [], []⟩) na5 nd5 ne5 A4 kD (.inl ⟨rfl, rfl⟩) (.inl ⟨rfl, rfl⟩) fun G5 Y5 D5 => ⟨rfl, ?_⟩
    dsimp only [gName]
    rw [show (List.set [some (.ref a), some (.ref L), some (.str z), some (.ref s), none, none, none] 4 (some (.ref y)) : L2.St) = [some (.ref a), some (.ref L), some (.str z), some (.ref s), some (.ref y), none, none] from rfl]
    have Y35 := Y4.trans Y5
    have Y := Y1.trans (Y2.trans (Y3.trans Y35))
    have hL := Y _ _ hL
    have P0 := P0.ex Y
    have P1 := P1.ex Y
    have S5 := S3.mono Y35
    have U5 := U3.ex S3 fun o e => Y35 _ _ e
    have M2 : ∀ b, G2 b = none → H2 b = none := fun b e => d5 b (ex_fresh (Y1.trans Y2) e)
    have d6 : ∀ b, G5 b = none → H2 b = none := fun b e => d5 b (ex_fresh Y e)
    refine ⟨_, rfl, L, _, 0, _, rfl, rfl, sq_lst hL, rfl, p0, 21, 2, rfl, P0, by decide, by decide, by decide, fun w H6 w0 w1 O6 => ?_⟩
    have k6 : Kpl H2 G5 H6 := kpl_pot B0 P0 O6
    have hL := O6.2 _ _ Lp0 hL
    have P1 := P1.keep fun o e => O6.2 _ _ p10 e
    have d6 := dom_pot d6 O6
    have P0 := O6.1
    obtain ⟨S6, U6⟩ := sprU k6 S5 U5 M2
    have D6 := D5.kpl k6
    have hmm : (momsL [Tr.at mo]).Pairwise (· < ·) ∧ (momsL [Tr.at mo]).length ≤ 1440 ∧ ∀ n ∈ momsL [Tr.at mo], n < 1440 := by
      have e : momsL [Tr.at mo] = [mo] := by simp [momsL, Tr.moms]
      rw [e]
      exact ⟨by simp, by show 1 ≤ 1440; decide, fun n hn => by rw [List.mem_singleton.mp hn]; omega⟩
    refine ⟨rfl, _, rfl, ite2 (fun _ => ?_) (fun _ => ?_)⟩
    · refine ⟨_, rfl, _, rfl, (by show 1 ≤ sizeLine; decide), fun l nl => ?_⟩
      have Yl := ex_new (o := HO.lst [V.str z]) nl
      have hl2 : upd H6 l (HO.lst [V.str z]) l = some (HO.lst [V.str z]) := upd_same
      generalize upd H6 l (HO.lst [V.str z]) = Gl at Yl hl2 ⊢
      have hN : NtX K Gl (.ref l) (some (srtS [z])) := nt_names (ws := [z]) (.inl hl2) (fun x hx => by rw [List.mem_singleton.mp hx]; exact hz) (by simp) (by show 1 ≤ 1000; decide)
      refine fun c ec nc ndc nec => ⟨rfl, ?_⟩
      show sp_Once_init K [.ref c, .ref s, .ref l] _ _ _
      refine once_new nc ndc nec (S6.mono Yl) hmm.1 hmm.2.1 hN fun G7 Y7 hA hC => ⟨rfl, ?_⟩
      have YY := Yl.trans Y7
      have U7 := U6.ex S6 fun o e => YY _ _ e
      obtain ⟨cd, lf, w1, pc⟩ : ∃ cd, Leaf cd ∧ cd.wt = 1 ∧ PutC K H2 G7 cd c := ⟨_, by trivial, rfl, putC_once (S6.mono YY) U7 hA hC (fun b e => d6 b (ex_fresh Yl e)) M2⟩
      clear hA hC hN hl2
      have hL := YY _ _ hL
      have P0 := P0.ex YY
      have P1 := P1.ex YY
      have S7 := S6.mono YY
      have D7 := D6.mono YY
      have d7 : ∀ b, G7 b = none → H2 b = none := fun b e => d6 b (ex_fresh YY e)
      dsimp only [gName]
      rw [show (List.set [some (.ref a), some (.ref L), some (.str z), some (.ref s), some (.ref y), none, none] 5 (some (.ref c)) : L2.St) = [some (.ref a), some (.ref L), some (.str z), some (.ref s), some (.ref y), some (.ref c), none] from rfl]
      refine ⟨_, rfl, _, rfl, _, rfl, _, rfl, c, y, s, cd, _, _, z, rfl, pc.at, D7, kD, S7, hmm.1.imp (fun {a b} z => Nat.ne_of_lt z), hmm.2.1, hmm.2.2, hz, lf, fun r1 xs1 H8 X8 nr1 h1 hR1 l1 => ?_⟩
      refine ⟨r1, xs1, 1, H8, rfl, h1, .refl _, hR1, by decide, l1, fun H9 X9 => ?_⟩
      refine ⟨true, rfl, iteF ?_⟩
      have XA := X8.trans X9
      have hL := XA _ _ hL
      have P0 := P0.ex XA
      have P1 := P1.ex XA
      have S9 := S7.mono XA
      have U9 := U7.ex S7 fun o e => XA _ _ e
      have D9 := D7.mono XA
      have d9 : ∀ b, H9 b = none → H2 b = none := fun b e => d7 b (ex_fresh XA e)
      have pc := pc.go (Kpl.of XA)
      refine ⟨_, rfl, _, rfl, _, rfl, _, rfl, L, _, 0, _, rfl, rfl, sq_lst hL, rfl, p0, 22, 6, rfl, P0, by decide, by decide, by decide, fun g H10 g0 g6 O10 => ?_⟩
      obtain ⟨g, rfl⟩ := Int.eq_ofNat_of_zero_le g0
      have k10 : Kpl H2 H9 H10 := kpl_pot B0 P0 O10
      have hL := O10.2 _ _ Lp0 hL
      have P1 := P1.keep fun o e => O10.2 _ _ p10 e
      have d10 := dom_pot d9 O10
      obtain ⟨S10, U10⟩ := sprU k10 S9 U9 M2
      have D10 := D9.kpl k10
      have pc := pc.go k10
      refine ⟨c, y, s, cd, _, g, rfl, pc.at, D10, kD, ⟨_, S10⟩, by omega, lf, fun r2 xs2 H11 X11 nr2 h2 hR2 l2 => ?_⟩
      refine ⟨r2, xs2, 1, H11, rfl, h2, .refl _, hR2, by decide, l2, fun H12 X12 => ?_⟩
      refine ⟨true, rfl, iteF ?_⟩
      have XB := X11.trans X12
      have pc := pc.go (Kpl.of XB)
      refine ⟨_, rfl, .ref c, rfl, (show CdX K H12 (.ref c) (some cd) from ⟨c, rfl, pc.at⟩).is T, fun r3 xs3 H13 X13 nr3 h3 hR3 l3 => ?_⟩
      refine ⟨r3, xs3, 2, H13, rfl, h3, .refl _, hR3, by decide, l3, fun H14 X14 => ?_⟩
      refine ⟨true, rfl, iteF ?_⟩
      have XC := X13.trans X14
      have XD := XB.trans XC
      have pc := pc.go (Kpl.of XC)
      have hL := XD _ _ hL
      have P1 := P1.ex XD
      have D14 := D10.mono XD
      have S14 := S10.mono XD
      have U14 := U10.ex S10 fun o e => XD _ _ e
      have d14 : ∀ b, H14 b = none → H2 b = none := fun b e => d10 b (ex_fresh XD e)
      refine ⟨_, rfl, L, _, 1, _, rfl, rfl, sq_lst hL, rfl, _, rfl, _, rfl, _, rfl, p1, c, y, z, cd, _, H2, 0, 0, rfl, B1, P1, by decide, d14, pc, w1, D14, kD, hz, fun H15 k15 d15 P15 => ?_⟩
      refine ⟨true, rfl, ?_⟩
      have pc := pc.go k15
      have hL := k15.2 _ _ nL hL
      obtain ⟨S15, U15⟩ := sprU k15 S14 U14 M2
      have D15 := D14.kpl k15
      refine iteF ?_
      refine ⟨_, rfl, L, _, 1, _, rfl, rfl, sq_lst hL, rfl, _, rfl, _, rfl, p1, c, z, cd, H2, 59, 0, rfl, B1, P15, by decide, d15, pc, w1, hz, fun H16 k16 d16 => ?_⟩
      refine ⟨true, rfl, iteF ?_⟩
      have pc := pc.go k16
      obtain ⟨S16, U16⟩ := sprU k16 S15 U15 M2
      have D16 := D15.kpl k16
      refine ⟨_, rfl, (by show 3 ≤ sizeLine; decide), fun a41 na41 => ?_⟩
      have X41 := ex_new (o := HO.tup [V.str (Str.ofString "later"), V.ref c, V.int 10080]) na41
      have ha41 : upd H16 a41 (HO.tup [V.str (Str.ofString "later"), V.ref c, V.int 10080]) a41 = some (HO.tup [V.str (Str.ofString "later"), V.ref c, V.int 10080]) := upd_same
      generalize upd H16 a41 (HO.tup [V.str (Str.ofString "later"), V.ref c, V.int 10080]) = G41 at X41 ha41 ⊢
      refine ⟨_, rfl, (by show 3 ≤ sizeLine; decide), fun a42 na42 => ?_⟩
      have X42 := ex_new (o := HO.tup [V.str (Str.ofString "later"), V.ref c, V.int 0]) na42
      have ha42 : upd G41 a42 (HO.tup [V.str (Str.ofString "later"), V.ref c, V.int 0]) a42 = some (HO.tup [V.str (Str.ofString "later"), V.ref c, V.int 0]) := upd_same
      generalize upd G41 a42 (HO.tup [V.str (Str.ofString "later"), V.ref c, V.int 0]) = G42 at X42 ha42 ⊢
      refine ⟨_, rfl, ?_⟩
      refine fun a43 d43 na43 nd43 ne43 => ?_
      show sp_At_init K [.ref a43, .int ((1439 : Nat) : Int)] _ _ _
      refine at_new (n := 1439) na43 nd43 ne43 fun G43 X43 ha43 => ⟨rfl, ?_⟩
      obtain ⟨dx43, hb43⟩ := id ha43
      refine ⟨(by show 1 ≤ sizeLine; decide), fun a44 na44 => ?_⟩
      have X44 := ex_new (o := HO.lst [V.ref a43]) na44
      have ha44 : upd G43 a44 (HO.lst [V.ref a43]) a44 = some (HO.lst [V.ref a43]) := upd_same
      generalize upd G43 a44 (HO.lst [V.ref a43]) = G44 at X44 ha44 ⊢
      refine fun a45 d45 na45 nd45 ne45 => ?_
      show sp_Spread_init K [.ref a45, V.ref a44] _ _ _
      refine spread_new (as := [a43]) (ts := [.at 1439]) na45 nd45 ne45 (.inl ha44) (shsR (by unfold ShAt; exact ha43.mono X44)) (by simp [nestL, Tr.nest]) (by simp [okL_, Tr.ok, momsL, Tr.moms]) (by first | decide | (simp [sprB, risB, momsL, Tr.moms, overN]; done) | (simp [sprB, risB, momsL, Tr.moms, overN]; decide)) fun G45 X45 ha45 => ⟨rfl, ?_⟩
      obtain ⟨dx45, kp45, hd45, as45, hb45, _⟩ := id ha45
      refine ⟨(by show 4 ≤ sizeLine; decide), fun a46 na46 => ?_⟩
      have X46 := ex_new (o := HO.tup [V.str (Str.ofString "every"), V.ref y, V.ref a45, V.non]) na46
      have ha46 : upd G45 a46 (HO.tup [V.str (Str.ofString "every"), V.ref y, V.ref a45, V.non]) a46 = some (HO.tup [V.str (Str.ofString "every"), V.ref y, V.ref a45, V.non]) := upd_same
      generalize upd G45 a46 (HO.tup [V.str (Str.ofString "every"), V.ref y, V.ref a45, V.non]) = G46 at X46 ha46 ⊢
      refine ⟨(by show 3 ≤ sizeLine; decide), fun a47 na47 => ?_⟩
      have X47 := ex_new (o := HO.lst [V.ref a41, V.ref a42, V.ref a46]) na47
      have ha47 : upd G46 a47 (HO.lst [V.ref a41, V.ref a42, V.ref a46]) a47 = some (HO.lst [V.ref a41, V.ref a42, V.ref a46]) := upd_same
      generalize upd G46 a47 (HO.lst [V.ref a41, V.ref a42, V.ref a46]) = G47 at X47 ha47 ⊢
      dsimp only [gName]
      rw [show (List.set [some (.ref a), some (.ref L), some (.str z), some (.ref s), some (.ref y), some (.ref c), none] 6 (some (V.ref a47)) : L2.St) = [some (.ref a), some (.ref L), some (.str z), some (.ref s), some (.ref y), some (.ref c), some (V.ref a47)] from rfl]
      refine ⟨_, rfl, ?_⟩
      refine ⟨_, rfl, ?_⟩
      refine ⟨(by show 0 ≤ sizeLine; decide), fun a48 na48 => ?_⟩
      have X48 := ex_new (o := HO.lst []) na48
      have ha48 : upd G47 a48 (HO.lst []) a48 = some (HO.lst []) := upd_same
      generalize upd G47 a48 (HO.lst []) = G48 at X48 ha48 ⊢
      refine fun a49 d49 na49 nd49 ne49 => ?_
      show sp_Spread_init K [.ref a49, V.ref a48] _ _ _
      refine spread_new (as := []) (ts := []) na49 nd49 ne49 (.inl ha48) (by unfold ShsAt; rfl) (by simp [nestL, Tr.nest]) (by simp [okL_, Tr.ok, momsL, Tr.moms]) (by first | decide | (simp [sprB, risB, momsL, Tr.moms, overN]; done) | (simp [sprB, risB, momsL, Tr.moms, overN]; decide)) fun G49 X49 ha49 => ⟨rfl, ?_⟩
      obtain ⟨dx49, kp49, hd49, as49, hb49, _⟩ := id ha49
      refine ⟨(by show 0 ≤ sizeLine; decide), fun a50 na50 => ?_⟩
      have X50 := ex_new (o := HO.lst []) na50
      have ha50 : upd G49 a50 (HO.lst []) a50 = some (HO.lst []) := upd_same
      generalize upd G49 a50 (HO.lst []) = G50 at X50 ha50 ⊢
      refine ⟨(by show 4 ≤ sizeLine; decide), fun a51 na51 => ?_⟩
      have X51 := ex_new (o := HO.tup [V.str (Str.ofString "every"), V.ref y, V.ref a49, V.ref a50]) na51
      have ha51 : upd G50 a51 (HO.tup [V.str (Str.ofString "every"), V.ref y, V.ref a49, V.ref a50]) a51 = some (HO.tup [V.str (Str.ofString "every"), V.ref y, V.ref a49, V.ref a50]) := upd_same
      generalize upd G50 a51 (HO.tup [V.str (Str.ofString "every"), V.ref y, V.ref a49, V.ref a50]) = G51 at X51 ha51 ⊢
      refine ⟨_, rfl, _, rfl, (by show 1 ≤ sizeLine; decide), fun a52 na52 => ?_⟩
      have X52 := ex_new (o := HO.tup [.str z]) na52
      have ha52 : upd G51 a52 (HO.tup [.str z]) a52 = some (HO.tup [.str z]) := upd_same
      generalize upd G51 a52 (HO.tup [.str z]) = G52 at X52 ha52 ⊢
      refine ⟨(by show 3 ≤ sizeLine; decide), fun a53 na53 => ?_⟩
      have X53 := ex_new (o := HO.tup [V.str (Str.ofString "once"), V.ref s, V.ref a52]) na53
      have ha53 : upd G52 a53 (HO.tup [V.str (Str.ofString "once"), V.ref s, V.ref a52]) a53 = some (HO.tup [V.str (Str.ofString "once"), V.ref s, V.ref a52]) := upd_same
      generalize upd G52 a53 (HO.tup [V.str (Str.ofString "once"), V.ref s, V.ref a52]) = G53 at X53 ha53 ⊢
      refine ⟨_, rfl, (by show 1 ≤ sizeLine; decide), fun a54 na54 => ?_⟩
      have X54 := ex_new (o := HO.tup [V.ref c]) na54
      have ha54 : upd G53 a54 (HO.tup [V.ref c]) a54 = some (HO.tup [V.ref c]) := upd_same
      generalize upd G53 a54 (HO.tup [V.ref c]) = G54 at X54 ha54 ⊢
      refine ⟨(by show 2 ≤ sizeLine; decide), fun a55 na55 => ?_⟩
      have X55 := ex_new (o := HO.tup [V.str (Str.ofString "join"), V.ref a54]) na55
      have ha55 : upd G54 a55 (HO.tup [V.str (Str.ofString "join"), V.ref a54]) a55 = some (HO.tup [V.str (Str.ofString "join"), V.ref a54]) := upd_same
      generalize upd G54 a55 (HO.tup [V.str (Str.ofString "join"), V.ref a54]) = G55 at X55 ha55 ⊢
      refine ⟨_, rfl, (by show 2 ≤ sizeLine; decide), fun a56 na56 => ?_⟩
      have X56 := ex_new (o := HO.tup [V.str (Str.ofString "as"), .str z]) na56
      have ha56 : upd G55 a56 (HO.tup [V.str (Str.ofString "as"), .str z]) a56 = some (HO.tup [V.str (Str.ofString "as"), .str z]) := upd_same
      generalize upd G55 a56 (HO.tup [V.str (Str.ofString "as"), .str z]) = G56 at X56 ha56 ⊢
      refine ⟨(by show 4 ≤ sizeLine; decide), fun a57 na57 => ?_⟩
      have X57 := ex_new (o := HO.lst [V.ref a51, V.ref a53, V.ref a55, V.ref a56]) na57
      have ha57 : upd G56 a57 (HO.lst [V.ref a51, V.ref a53, V.ref a55, V.ref a56]) a57 = some (HO.lst [V.ref a51, V.ref a53, V.ref a55, V.ref a56]) := upd_same
      generalize upd G56 a57 (HO.lst [V.ref a51, V.ref a53, V.ref a55, V.ref a56]) = G57 at X57 ha57 ⊢
      refine ⟨_, _, _, _, rfl, rfl, ((X48.trans (X49.trans (X50.trans (X51.trans (X52.trans (X53.trans (X54.trans (X55.trans (X56.trans X57))))))))) _ _ ha47), ha57, (by show 7 ≤ sizeLine; decide), fun a58 na58 => ?_⟩
      have X58 := ex_new (o := HO.lst ([V.ref a41, V.ref a42, V.ref a46] ++ [V.ref a51, V.ref a53, V.ref a55, V.ref a56])) na58
      have ha58 : upd G57 a58 (HO.lst ([V.ref a41, V.ref a42, V.ref a46] ++ [V.ref a51, V.ref a53, V.ref a55, V.ref a56])) a58 = some (HO.lst [V.ref a41, V.ref a42, V.ref a46, V.ref a51, V.ref a53, V.ref a55, V.ref a56]) := upd_same
      generalize upd G57 a58 (HO.lst ([V.ref a41, V.ref a42, V.ref a46] ++ [V.ref a51, V.ref a53, V.ref a55, V.ref a56])) = G58 at X58 ha58 ⊢
      dsimp only [gName]
      rw [show (List.set [some (.ref a), some (.ref L), some (.str z), some (.ref s), some (.ref y), some (.ref c), some (V.ref a47)] 6 (some (V.ref a58)) : L2.St) = [some (.ref a), some (.ref L), some (.str z), some (.ref s), some (.ref y), some (.ref c), some (V.ref a58)] from rfl]
      have cB : CdX K G58 (.ref c) (some cd) := ⟨c, rfl, pc.at.mono (X41.trans (X42.trans (X43.trans (X44.trans (X45.trans (X46.trans (X47.trans (X48.trans (X49.trans (X50.trans (X51.trans (X52.trans (X53.trans (X54.trans (X55.trans (X56.trans (X57.trans X58)))))))))))))))))⟩
      have dD : DyIs K G58 (.ref y) (some ⟨[49, 48], 0, none, [], []⟩) := ⟨y, rfl, D16.mono (X41.trans (X42.trans (X43.trans (X44.trans (X45.trans (X46.trans (X47.trans (X48.trans (X49.trans (X50.trans (X51.trans (X52.trans (X53.trans (X54.trans (X55.trans (X56.trans (X57.trans X58))))))))))))))))), kD⟩
      have sS : SpIs K G58 (.ref s) (some [.at mo]) := ⟨s, rfl, S16.mono (X41.trans (X42.trans (X43.trans (X44.trans (X45.trans (X46.trans (X47.trans (X48.trans (X49.trans (X50.trans (X51.trans (X52.trans (X53.trans (X54.trans (X55.trans (X56.trans (X57.trans X58))))))))))))))))), hmm.1.imp (fun {a b} z => Nat.ne_of_lt z), hmm.2.1⟩
      have hR : RowsAt K G58 G58 0 [V.ref a41, V.ref a42, V.ref a46, V.ref a51, V.ref a53, V.ref a55, V.ref a56] := (allc ⟨_, "later", _, rfl, ((X42.trans (X43.trans (X44.trans (X45.trans (X46.trans (X47.trans (X48.trans (X49.trans (X50.trans (X51.trans (X52.trans (X53.trans (X54.trans (X55.trans (X56.trans (X57.trans X58)))))))))))))))) _ _ ha41), .later_k (mn_ok (m := 10080) (by decide)) cB (by omega)⟩ (allc ⟨_, "later", _, rfl, ((X43.trans (X44.trans (X45.trans (X46.trans (X47.trans (X48.trans (X49.trans (X50.trans (X51.trans (X52.trans (X53.trans (X54.trans (X55.trans (X56.trans (X57.trans X58))))))))))))))) _ _ ha42), .later_k (mn_ok (m := 0) (by decide)) cB (by omega)⟩ (allc ⟨_, "every", _, rfl, ((X47.trans (X48.trans (X49.trans (X50.trans (X51.trans (X52.trans (X53.trans (X54.trans (X55.trans (X56.trans (X57.trans X58))))))))))) _ _ ha46), .every_k (ts := [.at 1439]) (ws := []) dD ⟨_, rfl, ha45.mono (X46.trans (X47.trans (X48.trans (X49.trans (X50.trans (X51.trans (X52.trans (X53.trans (X54.trans (X55.trans (X56.trans (X57.trans X58)))))))))))), by decide, by decide⟩ (.inl ⟨rfl, rfl⟩) (by decide)⟩ (allc ⟨_, "every", _, rfl, ((X52.trans (X53.trans (X54.trans (X55.trans (X56.trans (X57.trans X58)))))) _ _ ha51), .every_k (ts := []) (ws := srtS []) dD ⟨_, rfl, ha49.mono (X50.trans (X51.trans (X52.trans (X53.trans (X54.trans (X55.trans (X56.trans (X57.trans X58)))))))), by decide, by decide⟩ (nt_names (ws := []) (.inl ((X51.trans (X52.trans (X53.trans (X54.trans (X55.trans (X56.trans (X57.trans X58))))))) _ _ ha50)) nofun .nil (by decide)) (by decide)⟩ (allc ⟨_, "once", _, rfl, ((X54.trans (X55.trans (X56.trans (X57.trans X58)))) _ _ ha53), .once_k sS (nt_names (ws := [z]) (.inr ((X53.trans (X54.trans (X55.trans (X56.trans (X57.trans X58))))) _ _ ha52)) (fun x hx => by rw [List.mem_singleton.mp hx]; exact hz) (by simp) (by show 1 ≤ 1000; decide))⟩ (allc ⟨_, "join", _, rfl, ((X56.trans (X57.trans X58)) _ _ ha55), .join_k (cs := [cd]) (.inl ⟨_, _, [some cd], rfl, .inr ((X55.trans (X56.trans (X57.trans X58))) _ _ ha54), by show 1 ≤ 1000; decide, .cons cB .nil, rfl⟩) (by simp) (by show cd.wt + 0 < 60; omega)⟩ (allc ⟨_, "as", _, rfl, ((X57.trans X58) _ _ ha56), .as_k ⟨rfl, hz⟩⟩ alln)))))))
      refine ⟨_, rfl, _, _, 0, G58, rfl, ha58, .refl _, hR, by decide, by show 7 ≤ 900; decide, fun H17 XQ => ?_⟩
      have XX := (X41.trans (X42.trans (X43.trans (X44.trans (X45.trans (X46.trans (X47.trans (X48.trans (X49.trans (X50.trans (X51.trans (X52.trans (X53.trans (X54.trans (X55.trans (X56.trans (X57.trans X58))))))))))))))))).trans XQ
      obtain ⟨dx, hd, as, fs, h1, _, _, cc, _, _, _, ls⟩ := card_gen T (pc.at.mono XX)
      refine ⟨true, rfl, iteT ?_⟩
      refine ⟨_, rfl, c, _, dx, _, _, rfl, h1, cc.cls, cd_size T cd, ls, _, (ok_Card_size T).mono (by decide), c, _, dx, hd, _, _, rfl, h1, cc.cls, cc.weight, ?_⟩
      refine ⟨rfl, ?_⟩
      rw [show ((cd.wt : Nat) : Int) = 1 by omega, decide_eq_true rfl]
      exact q H17
    · refine ⟨_, rfl, _, rfl, _, rfl, (by show 1 ≤ sizeLine; decide), fun l nl => ?_⟩
      have Yl := ex_new (o := HO.lst [V.str z]) nl
      have hl2 : upd H6 l (HO.lst [V.str z]) l = some (HO.lst [V.str z]) := upd_same
      generalize upd H6 l (HO.lst [V.str z]) = Gl at Yl hl2 ⊢
      have hN : NtX K Gl (.ref l) (some (srtS [z])) := nt_names (ws := [z]) (.inl hl2) (fun x hx => by rw [List.mem_singleton.mp hx]; exact hz) (by simp) (by show 1 ≤ 1000; decide)
      refine fun c ec nc ndc nec => ⟨rfl, ?_⟩
      show sp_Every_init K [.ref c, .ref y, .ref s, .ref l] _ _ _
      refine every_new nc ndc nec (D6.mono Yl) kD (S6.mono Yl) hmm.1 hmm.2.1 hmm.2.2 hN fun G7 Y7 hA hC => ⟨rfl, ?_⟩
      have YY := Yl.trans Y7
      have U7 := U6.ex S6 fun o e => YY _ _ e
      obtain ⟨cd, lf, w1, pc⟩ : ∃ cd, Leaf cd ∧ cd.wt = 1 ∧ PutC K H2 G7 cd c := ⟨_, by trivial, rfl, putC_every (S6.mono YY) U7 hA hC (fun b e => d6 b (ex_fresh Yl e)) M2⟩
      clear hA hC hN hl2
      have hL := YY _ _ hL
      have P0 := P0.ex YY
      have P1 := P1.ex YY
      have S7 := S6.mono YY
      have D7 := D6.mono YY
      have d7 : ∀ b, G7 b = none → H2 b = none := fun b e => d6 b (ex_fresh YY e)
      dsimp only [gName]
      rw [show (List.set [some (.ref a), some (.ref L), some (.str z), some (.ref s), some (.ref y), none, none] 5 (some (.ref c)) : L2.St) = [some (.ref a), some (.ref L), some (.str z), some (.ref s), some (.ref y), some (.ref c), none] from rfl]
      refine ⟨_, rfl, _, rfl, _, rfl, _, rfl, c, y, s, cd, _, _, z, rfl, pc.at, D7, kD, S7, hmm.1.imp (fun {a b} z => Nat.ne_of_lt z), hmm.2.1, hmm.2.2, hz, lf, fun r1 xs1 H8 X8 nr1 h1 hR1 l1 => ?_⟩
      refine ⟨r1, xs1, 1, H8, rfl, h1, .refl _, hR1, by decide, l1, fun H9 X9 => ?_⟩
      refine ⟨true, rfl, iteF ?_⟩
      have XA := X8.trans X9
      have hL := XA _ _ hL
      have P0 := P0.ex XA
      have P1 := P1.ex XA
      have S9 := S7.mono XA
      have U9 := U7.ex S7 fun o e => XA _ _ e
      have D9 := D7.mono XA
      have d9 : ∀ b, H9 b = none → H2 b = none := fun b e => d7 b (ex_fresh XA e)
      have pc := pc.go (Kpl.of XA)
      refine ⟨_, rfl, _, rfl, _, rfl, _, rfl, L, _, 0, _, rfl, rfl, sq_lst hL, rfl, p0, 22, 6, rfl, P0, by decide, by decide, by decide, fun g H10 g0 g6 O10 => ?_⟩
      obtain ⟨g, rfl⟩ := Int.eq_ofNat_of_zero_le g0
      have k10 : Kpl H2 H9 H10 := kpl_pot B0 P0 O10
      have hL := O10.2 _ _ Lp0 hL
      have P1 := P1.keep fun o e => O10.2 _ _ p10 e
      have d10 := dom_pot d9 O10
      obtain ⟨S10, U10⟩ := sprU k10 S9 U9 M2
      have D10 := D9.kpl k10
      have pc := pc.go k10
      refine ⟨c, y, s, cd, _, g, rfl, pc.at, D10, kD, ⟨_, S10⟩, by omega, lf, fun r2 xs2 H11 X11 nr2 h2 hR2 l2 => ?_⟩
      refine ⟨r2, xs2, 1, H11, rfl, h2, .refl _, hR2, by decide, l2, fun H12 X12 => ?_⟩
      refine ⟨true, rfl, iteF ?_⟩
      have XB := X11.trans X12
      have pc := pc.go (Kpl.of XB)
      refine ⟨_, rfl, .ref c, rfl, (show CdX K H12 (.ref c) (some cd) from ⟨c, rfl, pc.at⟩).is T, fun r3 xs3 H13 X13 nr3 h3 hR3 l3 => ?_⟩
      refine ⟨r3, xs3, 2, H13, rfl, h3, .refl _, hR3, by decide, l3, fun H14 X14 => ?_⟩
      refine ⟨true, rfl, iteF ?_⟩
      have XC := X13.trans X14
      have XD := XB.trans XC
      have pc := pc.go (Kpl.of XC)
      have hL := XD _ _ hL
      have P1 := P1.ex XD
      have D14 := D10.mono XD
      have S14 := S10.mono XD
      have U14 := U10.ex S10 fun o e => XD _ _ e
      have d14 : ∀ b, H14 b = none → H2 b = none := fun b e => d10 b (ex_fresh XD e)
      refine ⟨_, rfl, L, _, 1, _, rfl, rfl, sq_lst hL, rfl, _, rfl, _, rfl, _, rfl, p1, c, y, z, cd, _, H2, 0, 0, rfl, B1, P1, by decide, d14, pc, w1, D14, kD, hz, fun H15 k15 d15 P15 => ?_⟩
      refine ⟨true, rfl, ?_⟩
      have pc := pc.go k15
      have hL := k15.2 _ _ nL hL
      obtain ⟨S15, U15⟩ := sprU k15 S14 U14 M2
      have D15 := D14.kpl k15
      refine iteF ?_
      refine ⟨_, rfl, L, _, 1, _, rfl, rfl, sq_lst hL, rfl, _, rfl, _, rfl, p1, c, z, cd, H2, 59, 0, rfl, B1, P15, by decide, d15, pc, w1, hz, fun H16 k16 d16 => ?_⟩
      refine ⟨true, rfl, iteF ?_⟩
      have pc := pc.go k16
      obtain ⟨S16, U16⟩ := sprU k16 S15 U15 M2
      have D16 := D15.kpl k16
      refine ⟨_, rfl, (by show 3 ≤ sizeLine; decide), fun a41 na41 => ?_⟩
      have X41 := ex_new (o := HO.tup [V.str (Str.ofString "later"), V.ref c, V.int 10080]) na41
      have ha41 : upd H16 a41 (HO.tup [V.str (Str.ofString "later"), V.ref c, V.int 10080]) a41 = some (HO.tup [V.str (Str.ofString "later"), V.ref c, V.int 10080]) := upd_same
      generalize upd H16 a41 (HO.tup [V.str (Str.ofString "later"), V.ref c, V.int 10080]) = G41 at X41 ha41 ⊢
      refine ⟨_, rfl, (by show 3 ≤ sizeLine; decide), fun a42 na42 => ?_⟩
      have X42 := ex_new (o := HO.tup [V.str (Str.ofString "later"), V.ref c, V.int 0]) na42
      have ha42 : upd G41 a42 (HO.tup [V.str (Str.ofString "later"), V.ref c, V.int 0]) a42 = some (HO.tup [V.str (Str.ofString "later"), V.ref c, V.int 0]) := upd_same
      generalize upd G41 a42 (HO.tup [V.str (Str.ofString "later"), V.ref c, V.int 0]) = G42 at X42 ha42 ⊢
      refine ⟨_, rfl, ?_⟩
      refine fun a43 d43 na43 nd43 ne43 => ?_
      show sp_At_init K [.ref a43, .int ((1439 : Nat) : Int)] _ _ _
      refine at_new (n := 1439) na43 nd43 ne43 fun G43 X43 ha43 => ⟨rfl, ?_⟩
      obtain ⟨dx43, hb43⟩ := id ha43
      refine ⟨(by show 1 ≤ sizeLine; decide), fun a44 na44 => ?_⟩
      have X44 := ex_new (o := HO.lst [V.ref a43]) na44
      have ha44 : upd G43 a44 (HO.lst [V.ref a43]) a44 = some (HO.lst [V.ref a43]) := upd_same
      generalize upd G43 a44 (HO.lst [V.ref a43]) = G44 at X44 ha44 ⊢
      refine fun a45 d45 na45 nd45 ne45 => ?_
      show sp_Spread_init K [.ref a45, V.ref a44] _ _ _
      refine spread_new (as := [a43]) (ts := [.at 1439]) na45 nd45 ne45 (.inl ha44) (shsR (by unfold ShAt; exact ha43.mono X44)) (by simp [nestL, Tr.nest]) (by simp [okL_, Tr.ok, momsL, Tr.moms]) (by first | decide | (simp [sprB, risB, momsL, Tr.moms, overN]; done) | (simp [sprB, risB, momsL, Tr.moms, overN]; decide)) fun G45 X45 ha45 => ⟨rfl, ?_⟩
      obtain ⟨dx45, kp45, hd45, as45, hb45, _⟩ := id ha45
      refine ⟨(by show 4 ≤ sizeLine; decide), fun a46 na46 => ?_⟩
      have X46 := ex_new (o := HO.tup [V.str (Str.ofString "every"), V.ref y, V.ref a45, V.non]) na46
      have ha46 : upd G45 a46 (HO.tup [V.str (Str.ofString "every"), V.ref y, V.ref a45, V.non]) a46 = some (HO.tup [V.str (Str.ofString "every"), V.ref y, V.ref a45, V.non]) := upd_same
      generalize upd G45 a46 (HO.tup [V.str (Str.ofString "every"), V.ref y, V.ref a45, V.non]) = G46 at X46 ha46 ⊢
      refine ⟨(by show 3 ≤ sizeLine; decide), fun a47 na47 => ?_⟩
      have X47 := ex_new (o := HO.lst [V.ref a41, V.ref a42, V.ref a46]) na47
      have ha47 : upd G46 a47 (HO.lst [V.ref a41, V.ref a42, V.ref a46]) a47 = some (HO.lst [V.ref a41, V.ref a42, V.ref a46]) := upd_same
      generalize upd G46 a47 (HO.lst [V.ref a41, V.ref a42, V.ref a46]) = G47 at X47 ha47 ⊢
      dsimp only [gName]
      rw [show (List.set [some (.ref a), some (.ref L), some (.str z), some (.ref s), some (.ref y), some (.ref c), none] 6 (some (V.ref a47)) : L2.St) = [some (.ref a), some (.ref L), some (.str z), some (.ref s), some (.ref y), some (.ref c), some (V.ref a47)] from rfl]
      refine ⟨_, rfl, ?_⟩
      refine ⟨_, rfl, ?_⟩
      refine ⟨(by show 0 ≤ sizeLine; decide), fun a48 na48 => ?_⟩
      have X48 := ex_new (o := HO.lst []) na48
      have ha48 : upd G47 a48 (HO.lst []) a48 = some (HO.lst []) := upd_same
      generalize upd G47 a48 (HO.lst []) = G48 at X48 ha48 ⊢
      refine fun a49 d49 na49 nd49 ne49 => ?_
      show sp_Spread_init K [.ref a49, V.ref a48] _ _ _
      refine spread_new (as := []) (ts := []) na49 nd49 ne49 (.inl ha48) (by unfold ShsAt; rfl) (by simp [nestL, Tr.nest]) (by simp [okL_, Tr.ok, momsL, Tr.moms]) (by first | decide | (simp [sprB, risB, momsL, Tr.moms, overN]; done) | (simp [sprB, risB, momsL, Tr.moms, overN]; decide)) fun G49 X49 ha49 => ⟨rfl, ?_⟩
      obtain ⟨dx49, kp49, hd49, as49, hb49, _⟩ := id ha49
      refine ⟨(by show 0 ≤ sizeLine; decide), fun a50 na50 => ?_⟩
      have X50 := ex_new (o := HO.lst []) na50
      have ha50 : upd G49 a50 (HO.lst []) a50 = some (HO.lst []) := upd_same
      generalize upd G49 a50 (HO.lst []) = G50 at X50 ha50 ⊢
      refine ⟨(by show 4 ≤ sizeLine; decide), fun a51 na51 => ?_⟩
      have X51 := ex_new (o := HO.tup [V.str (Str.ofString "every"), V.ref y, V.ref a49, V.ref a50]) na51
      have ha51 : upd G50 a51 (HO.tup [V.str (Str.ofString "every"), V.ref y, V.ref a49, V.ref a50]) a51 = some (HO.tup [V.str (Str.ofString "every"), V.ref y, V.ref a49, V.ref a50]) := upd_same
      generalize upd G50 a51 (HO.tup [V.str (Str.ofString "every"), V.ref y, V.ref a49, V.ref a50]) = G51 at X51 ha51 ⊢
      refine ⟨_, rfl, _, rfl, (by show 1 ≤ sizeLine; decide), fun a52 na52 => ?_⟩
      have X52 := ex_new (o := HO.tup [.str z]) na52
      have ha52 : upd G51 a52 (HO.tup [.str z]) a52 = some (HO.tup [.str z]) := upd_same
      generalize upd G51 a52 (HO.tup [.str z]) = G52 at X52 ha52 ⊢
      refine ⟨(by show 3 ≤ sizeLine; decide), fun a53 na53 => ?_⟩
      have X53 := ex_new (o := HO.tup [V.str (Str.ofString "once"), V.ref s, V.ref a52]) na53
      have ha53 : upd G52 a53 (HO.tup [V.str (Str.ofString "once"), V.ref s, V.ref a52]) a53 = some (HO.tup [V.str (Str.ofString "once"), V.ref s, V.ref a52]) := upd_same
      generalize upd G52 a53 (HO.tup [V.str (Str.ofString "once"), V.ref s, V.ref a52]) = G53 at X53 ha53 ⊢
      refine ⟨_, rfl, (by show 1 ≤ sizeLine; decide), fun a54 na54 => ?_⟩
      have X54 := ex_new (o := HO.tup [V.ref c]) na54
      have ha54 : upd G53 a54 (HO.tup [V.ref c]) a54 = some (HO.tup [V.ref c]) := upd_same
      generalize upd G53 a54 (HO.tup [V.ref c]) = G54 at X54 ha54 ⊢
      refine ⟨(by show 2 ≤ sizeLine; decide), fun a55 na55 => ?_⟩
      have X55 := ex_new (o := HO.tup [V.str (Str.ofString "join"), V.ref a54]) na55
      have ha55 : upd G54 a55 (HO.tup [V.str (Str.ofString "join"), V.ref a54]) a55 = some (HO.tup [V.str (Str.ofString "join"), V.ref a54]) := upd_same
      generalize upd G54 a55 (HO.tup [V.str (Str.ofString "join"), V.ref a54]) = G55 at X55 ha55 ⊢
      refine ⟨_, rfl, (by show 2 ≤ sizeLine; decide), fun a56 na56 => ?_⟩
      have X56 := ex_new (o := HO.tup [V.str (Str.ofString "as"), .str z]) na56
      have ha56 : upd G55 a56 (HO.tup [V.str (Str.ofString "as"), .str z]) a56 = some (HO.tup [V.str (Str.ofString "as"), .str z]) := upd_same
      generalize upd G55 a56 (HO.tup [V.str (Str.ofString "as"), .str z]) = G56 at X56 ha56 ⊢
      refine ⟨(by show 4 ≤ sizeLine; decide), fun a57 na57 => ?_⟩
      have X57 := ex_new (o := HO.lst [V.ref a51, V.ref a53, V.ref a55, V.ref a56]) na57
      have ha57 : upd G56 a57 (HO.lst [V.ref a51, V.ref a53, V.ref a55, V.ref a56]) a57 = some (HO.lst [V.ref a51, V.ref a53, V.ref a55, V.ref a56]) := upd_same
      generalize upd G56 a57 (HO.lst [V.ref a51, V.ref a53, V.ref a55, V.ref a56]) = G57 at X57 ha57 ⊢
      refine ⟨_, _, _, _, rfl, rfl, ((X48.trans (X49.trans (X50.trans (X51.trans (X52.trans (X53.trans (X54.trans (X55.trans (X56.trans X57))))))))) _ _ ha47), ha57, (by show 7 ≤ sizeLine; decide), fun a58 na58 => ?_⟩
      have X58 := ex_new (o := HO.lst ([V.ref a41, V.ref a42, V.ref a46] ++ [V.ref a51, V.ref a53, V.ref a55, V.ref a56])) na58
      have ha58 : upd G57 a58 (HO.lst ([V.ref a41, V.ref a42, V.ref a46] ++ [V.ref a51, V.ref a53, V.ref a55, V.ref a56])) a58 = some (HO.lst [V.ref a41, V.ref a42, V.ref a46, V.ref a51, V.ref a53, V.ref a55, V.ref a56]) := upd_same
      generalize upd G57 a58 (HO.lst ([V.ref a41, V.ref a42, V.ref a46] ++ [V.ref a51, V.ref a53, V.ref a55, V.ref a56])) = G58 at X58 ha58 ⊢
      dsimp only [gName]
      rw [show (List.set [some (.ref a), some (.ref L), some (.str z), some (.ref s), some (.ref y), some (.ref c), some (V.ref a47)] 6 (some (V.ref a58)) : L2.St) = [some (.ref a), some (.ref L), some (.str z), some (.ref s), some (.ref y), some (.ref c), some (V.ref a58)] from rfl]
      have cB : CdX K G58 (.ref c) (some cd) := ⟨c, rfl, pc.at.mono (X41.trans (X42.trans (X43.trans (X44.trans (X45.trans (X46.trans (X47.trans (X48.trans (X49.trans (X50.trans (X51.trans (X52.trans (X53.trans (X54.trans (X55.trans (X56.trans (X57.trans X58)))))))))))))))))⟩
      have dD : DyIs K G58 (.ref y) (some ⟨[49, 48], 0, none, [], []⟩) := ⟨y, rfl, D16.mono (X41.trans (X42.trans (X43.trans (X44.trans (X45.trans (X46.trans (X47.trans (X48.trans (X49.trans (X50.trans (X51.trans (X52.trans (X53.trans (X54.trans (X55.trans (X56.trans (X57.trans X58))))))))))))))))), kD⟩
      have sS : SpIs K G58 (.ref s) (some [.at mo]) := ⟨s, rfl, S16.mono (X41.trans (X42.trans (X43.trans (X44.trans (X45.trans (X46.trans (X47.trans (X48.trans (X49.trans (X50.trans (X51.trans (X52.trans (X53.trans (X54.trans (X55.trans (X56.trans (X57.trans X58))))))))))))))))), hmm.1.imp (fun {a b} z => Nat.ne_of_lt z), hmm.2.1⟩
      have hR : RowsAt K G58 G58 0 [V.ref a41, V.ref a42, V.ref a46, V.ref a51, V.ref a53, V.ref a55, V.ref a56] := (allc ⟨_, "later", _, rfl, ((X42.trans (X43.trans (X44.trans (X45.trans (X46.trans (X47.trans (X48.trans (X49.trans (X50.trans (X51.trans (X52.trans (X53.trans (X54.trans (X55.trans (X56.trans (X57.trans X58)))))))))))))))) _ _ ha41), .later_k (mn_ok (m := 10080) (by decide)) cB (by omega)⟩ (allc ⟨_, "later", _, rfl, ((X43.trans (X44.trans (X45.trans (X46.trans (X47.trans (X48.trans (X49.trans (X50.trans (X51.trans (X52.trans (X53.trans (X54.trans (X55.trans (X56.trans (X57.trans X58))))))))))))))) _ _ ha42), .later_k (mn_ok (m := 0) (by decide)) cB (by omega)⟩ (allc ⟨_, "every", _, rfl, ((X47.trans (X48.trans (X49.trans (X50.trans (X51.trans (X52.trans (X53.trans (X54.trans (X55.trans (X56.trans (X57.trans X58))))))))))) _ _ ha46), .every_k (ts := [.at 1439]) (ws := []) dD ⟨_, rfl, ha45.mono (X46.trans (X47.trans (X48.trans (X49.trans (X50.trans (X51.trans (X52.trans (X53.trans (X54.trans (X55.trans (X56.trans (X57.trans X58)))))))))))), by decide, by decide⟩ (.inl ⟨rfl, rfl⟩) (by decide)⟩ (allc ⟨_, "every", _, rfl, ((X52.trans (X53.trans (X54.trans (X55.trans (X56.trans (X57.trans X58)))))) _ _ ha51), .every_k (ts := []) (ws := srtS []) dD ⟨_, rfl, ha49.mono (X50.trans (X51.trans (X52.trans (X53.trans (X54.trans (X55.trans (X56.trans (X57.trans X58)))))))), by decide, by decide⟩ (nt_names (ws := []) (.inl ((X51.trans (X52.trans (X53.trans (X54.trans (X55.trans (X56.trans (X57.trans X58))))))) _ _ ha50)) nofun .nil (by decide)) (by decide)⟩ (allc ⟨_, "once", _, rfl, ((X54.trans (X55.trans (X56.trans (X57.trans X58)))) _ _ ha53), .once_k sS (nt_names (ws := [z]) (.inr ((X53.trans (X54.trans (X55.trans (X56.trans (X57.trans X58))))) _ _ ha52)) (fun x hx => by rw [List.mem_singleton.mp hx]; exact hz) (by simp) (by show 1 ≤ 1000; decide))⟩ (allc ⟨_, "join", _, rfl, ((X56.trans (X57.trans X58)) _ _ ha55), .join_k (cs := [cd]) (.inl ⟨_, _, [some cd], rfl, .inr ((X55.trans (X56.trans (X57.trans X58))) _ _ ha54), by show 1 ≤ 1000; decide, .cons cB .nil, rfl⟩) (by simp) (by show cd.wt + 0 < 60; omega)⟩ (allc ⟨_, "as", _, rfl, ((X57.trans X58) _ _ ha56), .as_k ⟨rfl, hz⟩⟩ alln)))))))
      refine ⟨_, rfl, _, _, 0, G58, rfl, ha58, .refl _, hR, by decide, by show 7 ≤ 900; decide, fun H17 XQ => ?_⟩
      have XX := (X41.trans (X42.trans (X43.trans (X44.trans (X45.trans (X46.trans (X47.trans (X48.trans (X49.trans (X50.trans (X51.trans (X52.trans (X53.trans (X54.trans (X55.trans (X56.trans (X57.trans X58))))))))))))))))).trans XQ
      obtain ⟨dx, hd, as, fs, h1, _, _, cc, _, _, _, ls⟩ := card_gen T (pc.at.mono XX)
      refine ⟨true, rfl, iteT ?_⟩
      refine ⟨_, rfl, c, _, dx, _, _, rfl, h1, cc.cls, cd_size T cd, ls, _, (ok_Card_size T).mono (by decide), c, _, dx, hd, _, _, rfl, h1, cc.cls, cc.weight, ?_⟩
      refine ⟨rfl, ?_⟩
      rw [show ((cd.wt : Nat) : Int) = 1 by omega, decide_eq_true rfl]
      exact q H17
end
end Toy
namespace Toy
open PySem PySem.Spec PyProof.Rows L2 L3
theorem env_of {K : PySem.W.Frag} {h : Heap} {mg : Str → Option Value} (X : K.In h) (G : h.Ns mainGlobals mg) (c : SaysX xf fn K) : Env K mg :=
  ⟨He.glo_ok X G (c.fact 0 (f := fun K => (He.Fa.glo "is_whole").ok K) rfl),
  He.glo_ok X G (c.fact 1 (f := fun K => (He.Fa.glo "is_moment").ok K) rfl),
  He.glo_ok X G (c.fact 2 (f := fun K => (He.Fa.glo "want_moment").ok K) rfl),
  He.glo_ok X G (c.fact 3 (f := fun K => (He.Fa.glo "want_day").ok K) rfl),
  He.glo_ok X G (c.fact 4 (f := fun K => (He.Fa.glo "are_signs").ok K) rfl),
  He.glo_ok X G (c.fact 5 (f := fun K => (He.Fa.glo "told_days").ok K) rfl),
  He.glo_ok X G (c.fact 6 (f := fun K => (He.Fa.glo "want_till").ok K) rfl),
  He.glo_ok X G (c.fact 7 (f := fun K => (He.Fa.glo "is_name").ok K) rfl),
  He.glo_ok X G (c.fact 8 (f := fun K => (He.Fa.glo "notes_of").ok K) rfl),
  He.glo_ok X G (c.fact 9 (f := fun K => (He.Fa.glo "is_number").ok K) rfl),
  He.glo_ok X G (c.fact 10 (f := fun K => (He.Fa.glo "all_rising").ok K) rfl),
  He.glo_ok X G (c.fact 11 (f := fun K => (He.Fa.glo "shorts_in").ok K) rfl),
  He.glo_ok X G (c.fact 12 (f := fun K => (He.Fa.glo "row_moments").ok K) rfl),
  He.glo_ok X G (c.fact 13 (f := fun K => (He.Fa.glo "row_many").ok K) rfl),
  He.glo_ok X G (c.fact 14 (f := fun K => (He.Fa.glo "want").ok K) rfl),
  He.glo_ok X G (c.fact 15 (f := fun K => (He.Fa.glo "first_as").ok K) rfl),
  He.glo_ok X G (c.fact 16 (f := fun K => (He.Fa.glo "want_card").ok K) rfl),
  He.glo_ok X G (c.fact 17 (f := fun K => (He.Fa.glo "want_known").ok K) rfl),
  He.glo_ok X G (c.fact 18 (f := fun K => (He.Fa.glo "goings_within").ok K) rfl),
  He.glo_ok X G (c.fact 19 (f := fun K => (He.Fa.glo "going_at").ok K) rfl),
  He.glo_ok X G (c.fact 20 (f := fun K => (He.Fa.glo "goings_on").ok K) rfl),
  He.glo_ok X G (c.fact 21 (f := fun K => (He.Fa.glo "_law_pot").ok K) rfl),
  He.glo_ok X G (c.fact 22 (f := fun K => (He.Fa.glo "_law_take").ok K) rfl),
  He.glo_ok X G (c.fact 23 (f := fun K => (He.Fa.glo "_law_name").ok K) rfl),
  He.glo_ok X G (c.fact 24 (f := fun K => (He.Fa.glo "_law_word").ok K) rfl),
  He.glo_ok X G (c.fact 25 (f := fun K => (He.Fa.glo "_law_done").ok K) rfl),
  He.glo_ok X G (c.fact 26 (f := fun K => (He.Fa.glo "_law_tried").ok K) rfl),
  He.glo_ok X G (c.fact 27 (f := fun K => (He.Fa.glo "_law_all").ok K) rfl),
  He.glo_ok X G (c.fact 28 (f := fun K => (He.Fa.glo "_law_no_leaves").ok K) rfl),
  He.glo_ok X G (c.fact 29 (f := fun K => (He.Fa.glo "_law_no_others").ok K) rfl),
  He.glo_ok X G (c.fact 30 (f := fun K => (He.Fa.glo "_law_no_moments").ok K) rfl),
  He.glo_ok X G (c.fact 31 (f := fun K => (He.Fa.glo "_law_around").ok K) rfl),
  He.glo_ok X G (c.fact 32 (f := fun K => (He.Fa.glo "_law_sizes_right").ok K) rfl),
  He.glo_ok X G (c.fact 33 (f := fun K => (He.Fa.glo "_law_often_right").ok K) rfl),
  He.glo_ok X G (c.fact 34 (f := fun K => (He.Fa.glo "law").ok K) rfl),
  gint_of X G (c.fact 35 (f := fun K => (He.Fa.int "DAY" (1440)).ok K) rfl),
  gint_of X G (c.fact 36 (f := fun K => (He.Fa.int "MOST_SIGNS" (7)).ok K) rfl),
  gstr_of X G (c.fact 37 (f := fun K => (He.Fa.str "NOUGHT" "0").ok K) rfl),
  gstr_of X G (c.fact 38 (f := fun K => (He.Fa.str "ONE" "1").ok K) rfl),
  gint_of X G (c.fact 39 (f := fun K => (He.Fa.int "MOST_DAYS" (8)).ok K) rfl),
  gstr_of X G (c.fact 40 (f := fun K => (He.Fa.str "NAME_SIGNS" "abcdefghijklmnopqrstuvwxyz").ok K) rfl),
  gint_of X G (c.fact 41 (f := fun K => (He.Fa.int "LONGEST_NAME" (8)).ok K) rfl),
  gint_of X G (c.fact 42 (f := fun K => (He.Fa.int "MOST_MOMENTS" (1440)).ok K) rfl),
  gint_of X G (c.fact 43 (f := fun K => (He.Fa.int "MOST_NESTED" (8)).ok K) rfl),
  gint_of X G (c.fact 44 (f := fun K => (He.Fa.int "MOST_CARDS" (60)).ok K) rfl),
  gint_of X G (c.fact 45 (f := fun K => (He.Fa.int "LATEST" (10080)).ok K) rfl),
  He.free_ok X G (c.fact 46 (f := fun K => (He.Fa.free "ValueError").ok K) rfl),
  He.free_ok X G (c.fact 47 (f := fun K => (He.Fa.free "all").ok K) rfl),
  He.free_ok X G (c.fact 48 (f := fun K => (He.Fa.free "any").ok K) rfl),
  He.free_ok X G (c.fact 49 (f := fun K => (He.Fa.free "bool").ok K) rfl),
  He.free_ok X G (c.fact 50 (f := fun K => (He.Fa.free "dict").ok K) rfl),
  He.free_ok X G (c.fact 51 (f := fun K => (He.Fa.free "divmod").ok K) rfl),
  He.free_ok X G (c.fact 52 (f := fun K => (He.Fa.free "int").ok K) rfl),
  He.free_ok X G (c.fact 53 (f := fun K => (He.Fa.free "isinstance").ok K) rfl),
  He.free_ok X G (c.fact 54 (f := fun K => (He.Fa.free "len").ok K) rfl),
  He.free_ok X G (c.fact 55 (f := fun K => (He.Fa.free "list").ok K) rfl),
  He.free_ok X G (c.fact 56 (f := fun K => (He.Fa.free "max").ok K) rfl),
  He.free_ok X G (c.fact 57 (f := fun K => (He.Fa.free "range").ok K) rfl),
  He.free_ok X G (c.fact 58 (f := fun K => (He.Fa.free "repr").ok K) rfl),
  He.free_ok X G (c.fact 59 (f := fun K => (He.Fa.free "set").ok K) rfl),
  He.free_ok X G (c.fact 60 (f := fun K => (He.Fa.free "sorted").ok K) rfl),
  He.free_ok X G (c.fact 61 (f := fun K => (He.Fa.free "str").ok K) rfl),
  He.free_ok X G (c.fact 62 (f := fun K => (He.Fa.free "sum").ok K) rfl),
  He.free_ok X G (c.fact 63 (f := fun K => (He.Fa.free "tuple").ok K) rfl),
  He.free_ok X G (c.fact 64 (f := fun K => (He.Fa.free "zip").ok K) rfl),
  He.glo_ok X G (c.fact 65 (f := fun K => (He.Fa.glo "GoingError").ok K) rfl),
  He.glo_ok X G (c.fact 66 (f := fun K => (He.Fa.glo "LackError").ok K) rfl),
  He.glo_ok X G (c.fact 67 (f := fun K => (He.Fa.glo "BookError").ok K) rfl),
  He.glo_ok X G (c.fact 68 (f := fun K => (He.Fa.glo "NoTime").ok K) rfl),
  exo_of (c.fact 69 (f := exoB bmV "ValueError.__new__" "NoTime") rfl),
  He.glo_ok X G (c.fact 70 (f := fun K => (He.Fa.glo "NoPiece").ok K) rfl),
  exo_of (c.fact 71 (f := exoB bmV "ValueError.__new__" "NoPiece") rfl),
  He.glo_ok X G (c.fact 72 (f := fun K => (He.Fa.glo "NoDays").ok K) rfl),
  exo_of (c.fact 73 (f := exoB bmV "ValueError.__new__" "NoDays") rfl),
  He.glo_ok X G (c.fact 74 (f := fun K => (He.Fa.glo "NoCard").ok K) rfl),
  exo_of (c.fact 75 (f := exoB bmV "ValueError.__new__" "NoCard") rfl),
  He.glo_ok X G (c.fact 76 (f := fun K => (He.Fa.glo "NoName").ok K) rfl),
  He.glo_ok X G (c.fact 77 (f := fun K => (He.Fa.glo "NoRow").ok K) rfl),
  He.glo_ok X G (c.fact 78 (f := fun K => (He.Fa.glo "NoText").ok K) rfl),
  He.glo_ok X G (c.fact 79 (f := fun K => (He.Fa.glo "Ring").ok K) rfl),
  He.glo_ok X G (c.fact 80 (f := fun K => (He.Fa.glo "Days").ok K) rfl),
  He.glo_ok X G (c.fact 81 (f := fun K => (He.Fa.glo "Going").ok K) rfl),
  He.glo_ok X G (c.fact 82 (f := fun K => (He.Fa.glo "Short").ok K) rfl),
  He.glo_ok X G (c.fact 83 (f := fun K => (He.Fa.glo "At").ok K) rfl),
  He.glo_ok X G (c.fact 84 (f := fun K => (He.Fa.glo "Over").ok K) rfl),
  He.glo_ok X G (c.fact 85 (f := fun K => (He.Fa.glo "Spread").ok K) rfl),
  He.glo_ok X G (c.fact 86 (f := fun K => (He.Fa.glo "Card").ok K) rfl),
  He.glo_ok X G (c.fact 87 (f := fun K => (He.Fa.glo "Once").ok K) rfl),
  He.glo_ok X G (c.fact 88 (f := fun K => (He.Fa.glo "Every").ok K) rfl),
  He.glo_ok X G (c.fact 89 (f := fun K => (He.Fa.glo "Join").ok K) rfl),
  He.glo_ok X G (c.fact 90 (f := fun K => (He.Fa.glo "Less").ok K) rfl),
  He.glo_ok X G (c.fact 91 (f := fun K => (He.Fa.glo "Swap").ok K) rfl),
  He.glo_ok X G (c.fact 92 (f := fun K => (He.Fa.glo "Later").ok K) rfl),
  He.glo_ok X G (c.fact 93 (f := fun K => (He.Fa.glo "Noted").ok K) rfl),
  He.glo_ok X G (c.fact 94 (f := fun K => (He.Fa.glo "As").ok K) rfl),
  clsM_of (c.fact 95 (f := clsMF "Card" "__init__") rfl),
  He.cls_ok (c.fact 96 (f := fun K => (He.Fa.cls "Ring").ok K) rfl),
  insC_of (c.fact 97 (f := insB "Ring") rfl),
  He.noat_ok (c.fact 98 (f := fun K => (He.Fa.noat "Ring" "bits").ok K) rfl),
  He.meth_ok (c.fact 99 (f := fun K => (He.Fa.meth "Ring" "rings").ok K) rfl),
  He.mkr_ok (c.fact 100 (f := fun K => (He.Fa.mkr "Ring").ok K) rfl),
  of_decide_eq_true (c.fact 101 (f := kitF "Ring" "Ring" true) rfl),
  of_decide_eq_true (c.fact 102 (f := kitF "Ring" "Days" false) rfl),
  He.cls_ok (c.fact 103 (f := fun K => (He.Fa.cls "Days").ok K) rfl),
  insC_of (c.fact 104 (f := insB "Days") rfl),
  He.noat_ok (c.fact 105 (f := fun K => (He.Fa.noat "Days" "ring").ok K) rfl),
  He.noat_ok (c.fact 106 (f := fun K => (He.Fa.noat "Days" "since").ok K) rfl),
  He.noat_ok (c.fact 107 (f := fun K => (He.Fa.noat "Days" "till").ok K) rfl),
  He.noat_ok (c.fact 108 (f := fun K => (He.Fa.noat "Days" "out").ok K) rfl),
  He.noat_ok (c.fact 109 (f := fun K => (He.Fa.noat "Days" "also").ok K) rfl),
  He.meth_ok (c.fact 110 (f := fun K => (He.Fa.meth "Days" "has").ok K) rfl),
  He.mkr_ok (c.fact 111 (f := fun K => (He.Fa.mkr "Days").ok K) rfl),
  of_decide_eq_true (c.fact 112 (f := kitF "Days" "Days" true) rfl),
  of_decide_eq_true (c.fact 113 (f := kitF "Days" "Spread" false) rfl),
  of_decide_eq_true (c.fact 114 (f := kitF "Days" "Card" false) rfl),
  He.cls_ok (c.fact 115 (f := fun K => (He.Fa.cls "Going").ok K) rfl),
  He.noat_ok (c.fact 116 (f := fun K => (He.Fa.noat "Going" "moment").ok K) rfl),
  He.noat_ok (c.fact 117 (f := fun K => (He.Fa.noat "Going" "notes").ok K) rfl),
  He.mkr_ok (c.fact 118 (f := fun K => (He.Fa.mkr "Going").ok K) rfl),
  He.cls_ok (c.fact 119 (f := fun K => (He.Fa.cls "At").ok K) rfl),
  insC_of (c.fact 120 (f := insB "At") rfl),
  He.noat_ok (c.fact 121 (f := fun K => (He.Fa.noat "At" "moment").ok K) rfl),
  He.meth_ok (c.fact 122 (f := fun K => (He.Fa.meth "At" "moments").ok K) rfl),
  He.meth_ok (c.fact 123 (f := fun K => (He.Fa.meth "At" "begins").ok K) rfl),
  He.meth_ok (c.fact 124 (f := fun K => (He.Fa.meth "At" "ends").ok K) rfl),
  He.meth_ok (c.fact 125 (f := fun K => (He.Fa.meth "At" "means_many").ok K) rfl),
  He.meth_ok (c.fact 126 (f := fun K => (He.Fa.meth "At" "nested").ok K) rfl),
  He.mkr_ok (c.fact 127 (f := fun K => (He.Fa.mkr "At").ok K) rfl),
  of_decide_eq_true (c.fact 128 (f := kitF "At" "Short" true) rfl),
  of_decide_eq_true (c.fact 129 (f := kitF "At" "Spread" false) rfl),
  He.cls_ok (c.fact 130 (f := fun K => (He.Fa.cls "Over").ok K) rfl),
  insC_of (c.fact 131 (f := insB "Over") rfl),
  He.noat_ok (c.fact 132 (f := fun K => (He.Fa.noat "Over" "kept").ok K) rfl),
  He.noat_ok (c.fact 133 (f := fun K => (He.Fa.noat "Over" "many").ok K) rfl),
  He.noat_ok (c.fact 134 (f := fun K => (He.Fa.noat "Over" "step").ok K) rfl),
  He.meth_ok (c.fact 135 (f := fun K => (He.Fa.meth "Over" "moments").ok K) rfl),
  He.meth_ok (c.fact 136 (f := fun K => (He.Fa.meth "Over" "begins").ok K) rfl),
  He.meth_ok (c.fact 137 (f := fun K => (He.Fa.meth "Over" "ends").ok K) rfl),
  He.meth_ok (c.fact 138 (f := fun K => (He.Fa.meth "Over" "means_many").ok K) rfl),
  He.meth_ok (c.fact 139 (f := fun K => (He.Fa.meth "Over" "nested").ok K) rfl),
  He.mkr_ok (c.fact 140 (f := fun K => (He.Fa.mkr "Over").ok K) rfl),
  of_decide_eq_true (c.fact 141 (f := kitF "Over" "Short" true) rfl),
  of_decide_eq_true (c.fact 142 (f := kitF "Over" "Spread" false) rfl),
  He.cls_ok (c.fact 143 (f := fun K => (He.Fa.cls "Spread").ok K) rfl),
  insC_of (c.fact 144 (f := insB "Spread") rfl),
  He.noat_ok (c.fact 145 (f := fun K => (He.Fa.noat "Spread" "kept").ok K) rfl),
  He.noat_ok (c.fact 146 (f := fun K => (He.Fa.noat "Spread" "held").ok K) rfl),
  He.meth_ok (c.fact 147 (f := fun K => (He.Fa.meth "Spread" "moments").ok K) rfl),
  He.mkr_ok (c.fact 148 (f := fun K => (He.Fa.mkr "Spread").ok K) rfl),
  of_decide_eq_true (c.fact 149 (f := kitF "Spread" "Days" false) rfl),
  of_decide_eq_true (c.fact 150 (f := kitF "Spread" "Spread" true) rfl),
  of_decide_eq_true (c.fact 151 (f := kitF "Spread" "Card" false) rfl),
  of_decide_eq_true (c.fact 152 (f := kitFT "Spread" "list" false) rfl),
  of_decide_eq_true (c.fact 153 (f := kitFT "Spread" "tuple" false) rfl),
  He.cls_ok (c.fact 154 (f := fun K => (He.Fa.cls "Once").ok K) rfl),
  insC_of (c.fact 155 (f := insB "Once") rfl),
  He.noat_ok (c.fact 156 (f := fun K => (He.Fa.noat "Once" "spread").ok K) rfl),
  He.noat_ok (c.fact 157 (f := fun K => (He.Fa.noat "Once" "notes").ok K) rfl),
  He.noat_ok (c.fact 158 (f := fun K => (He.Fa.noat "Once" "own").ok K) rfl),
  He.noat_ok (c.fact 159 (f := fun K => (He.Fa.noat "Once" "held").ok K) rfl),
  He.noat_ok (c.fact 160 (f := fun K => (He.Fa.noat "Once" "weight").ok K) rfl),
  He.meth_ok (c.fact 161 (f := fun K => (He.Fa.meth "Once" "notes_at").ok K) rfl),
  He.meth_ok (c.fact 162 (f := fun K => (He.Fa.meth "Once" "moments_within").ok K) rfl),
  He.meth_ok (c.fact 163 (f := fun K => (He.Fa.meth "Once" "inner").ok K) rfl),
  of_decide_eq_true (c.fact 164 (f := sameF "Once" "Card" "inner") rfl),
  He.meth_ok (c.fact 165 (f := fun K => (He.Fa.meth "Once" "size").ok K) rfl),
  of_decide_eq_true (c.fact 166 (f := sameF "Once" "Card" "size") rfl),
  He.mkr_ok (c.fact 167 (f := fun K => (He.Fa.mkr "Once").ok K) rfl),
  of_decide_eq_true (c.fact 168 (f := kitF "Once" "Days" false) rfl),
  of_decide_eq_true (c.fact 169 (f := kitF "Once" "Spread" false) rfl),
  of_decide_eq_true (c.fact 170 (f := kitF "Once" "Card" true) rfl),
  of_decide_eq_true (c.fact 171 (f := kitF "Once" "As" false) rfl),
  of_decide_eq_true (c.fact 172 (f := kitFT "Once" "list" false) rfl),
  of_decide_eq_true (c.fact 173 (f := kitFT "Once" "tuple" false) rfl),
  He.cls_ok (c.fact 174 (f := fun K => (He.Fa.cls "Every").ok K) rfl),
  insC_of (c.fact 175 (f := insB "Every") rfl),
  He.noat_ok (c.fact 176 (f := fun K => (He.Fa.noat "Every" "days").ok K) rfl),
  He.noat_ok (c.fact 177 (f := fun K => (He.Fa.noat "Every" "spread").ok K) rfl),
  He.noat_ok (c.fact 178 (f := fun K => (He.Fa.noat "Every" "notes").ok K) rfl),
  He.noat_ok (c.fact 179 (f := fun K => (He.Fa.noat "Every" "own").ok K) rfl),
  He.noat_ok (c.fact 180 (f := fun K => (He.Fa.noat "Every" "held").ok K) rfl),
  He.noat_ok (c.fact 181 (f := fun K => (He.Fa.noat "Every" "weight").ok K) rfl),
  He.meth_ok (c.fact 182 (f := fun K => (He.Fa.meth "Every" "notes_at").ok K) rfl),
  He.meth_ok (c.fact 183 (f := fun K => (He.Fa.meth "Every" "moments_within").ok K) rfl),
  He.meth_ok (c.fact 184 (f := fun K => (He.Fa.meth "Every" "inner").ok K) rfl),
  of_decide_eq_true (c.fact 185 (f := sameF "Every" "Card" "inner") rfl),
  He.meth_ok (c.fact 186 (f := fun K => (He.Fa.meth "Every" "size").ok K) rfl),
  of_decide_eq_true (c.fact 187 (f := sameF "Every" "Card" "size") rfl),
  He.mkr_ok (c.fact 188 (f := fun K => (He.Fa.mkr "Every").ok K) rfl),
  of_decide_eq_true (c.fact 189 (f := kitF "Every" "Days" false) rfl),
  of_decide_eq_true (c.fact 190 (f := kitF "Every" "Spread" false) rfl),
  of_decide_eq_true (c.fact 191 (f := kitF "Every" "Card" true) rfl),
  of_decide_eq_true (c.fact 192 (f := kitF "Every" "As" false) rfl),
  of_decide_eq_true (c.fact 193 (f := kitFT "Every" "list" false) rfl),
  of_decide_eq_true (c.fact 194 (f := kitFT "Every" "tuple" false) rfl),
  He.cls_ok (c.fact 195 (f := fun K => (He.Fa.cls "Join").ok K) rfl),
  insC_of (c.fact 196 (f := insB "Join") rfl),
  He.noat_ok (c.fact 197 (f := fun K => (He.Fa.noat "Join" "held").ok K) rfl),
  He.noat_ok (c.fact 198 (f := fun K => (He.Fa.noat "Join" "weight").ok K) rfl),
  He.meth_ok (c.fact 199 (f := fun K => (He.Fa.meth "Join" "notes_at").ok K) rfl),
  He.meth_ok (c.fact 200 (f := fun K => (He.Fa.meth "Join" "inner").ok K) rfl),
  of_decide_eq_true (c.fact 201 (f := sameF "Join" "Card" "inner") rfl),
  He.meth_ok (c.fact 202 (f := fun K => (He.Fa.meth "Join" "size").ok K) rfl),
  of_decide_eq_true (c.fact 203 (f := sameF "Join" "Card" "size") rfl),
  He.meth_ok (c.fact 204 (f := fun K => (He.Fa.meth "Join" "moments_within").ok K) rfl),
  of_decide_eq_true (c.fact 205 (f := sameF "Join" "Card" "moments_within") rfl),
  He.mkr_ok (c.fact 206 (f := fun K => (He.Fa.mkr "Join").ok K) rfl),
  of_decide_eq_true (c.fact 207 (f := kitF "Join" "Card" true) rfl),
  of_decide_eq_true (c.fact 208 (f := kitF "Join" "As" false) rfl),
  He.cls_ok (c.fact 209 (f := fun K => (He.Fa.cls "Less").ok K) rfl),
  insC_of (c.fact 210 (f := insB "Less") rfl),
  He.noat_ok (c.fact 211 (f := fun K => (He.Fa.noat "Less" "held").ok K) rfl),
  He.noat_ok (c.fact 212 (f := fun K => (He.Fa.noat "Less" "weight").ok K) rfl),
  He.meth_ok (c.fact 213 (f := fun K => (He.Fa.meth "Less" "notes_at").ok K) rfl),
  He.meth_ok (c.fact 214 (f := fun K => (He.Fa.meth "Less" "inner").ok K) rfl),
  of_decide_eq_true (c.fact 215 (f := sameF "Less" "Card" "inner") rfl),
  He.meth_ok (c.fact 216 (f := fun K => (He.Fa.meth "Less" "size").ok K) rfl),
  of_decide_eq_true (c.fact 217 (f := sameF "Less" "Card" "size") rfl),
  He.meth_ok (c.fact 218 (f := fun K => (He.Fa.meth "Less" "moments_within").ok K) rfl),
  of_decide_eq_true (c.fact 219 (f := sameF "Less" "Card" "moments_within") rfl),
  He.mkr_ok (c.fact 220 (f := fun K => (He.Fa.mkr "Less").ok K) rfl),
  of_decide_eq_true (c.fact 221 (f := kitF "Less" "Card" true) rfl),
  of_decide_eq_true (c.fact 222 (f := kitF "Less" "As" false) rfl),
  He.cls_ok (c.fact 223 (f := fun K => (He.Fa.cls "Swap").ok K) rfl),
  insC_of (c.fact 224 (f := insB "Swap") rfl),
  He.noat_ok (c.fact 225 (f := fun K => (He.Fa.noat "Swap" "days").ok K) rfl),
  He.noat_ok (c.fact 226 (f := fun K => (He.Fa.noat "Swap" "held").ok K) rfl),
  He.noat_ok (c.fact 227 (f := fun K => (He.Fa.noat "Swap" "weight").ok K) rfl),
  He.meth_ok (c.fact 228 (f := fun K => (He.Fa.meth "Swap" "notes_at").ok K) rfl),
  He.meth_ok (c.fact 229 (f := fun K => (He.Fa.meth "Swap" "inner").ok K) rfl),
  of_decide_eq_true (c.fact 230 (f := sameF "Swap" "Card" "inner") rfl),
  He.meth_ok (c.fact 231 (f := fun K => (He.Fa.meth "Swap" "size").ok K) rfl),
  of_decide_eq_true (c.fact 232 (f := sameF "Swap" "Card" "size") rfl),
  He.meth_ok (c.fact 233 (f := fun K => (He.Fa.meth "Swap" "moments_within").ok K) rfl),
  of_decide_eq_true (c.fact 234 (f := sameF "Swap" "Card" "moments_within") rfl),
  He.mkr_ok (c.fact 235 (f := fun K => (He.Fa.mkr "Swap").ok K) rfl),
  of_decide_eq_true (c.fact 236 (f := kitF "Swap" "Card" true) rfl),
  of_decide_eq_true (c.fact 237 (f := kitF "Swap" "As" false) rfl),
  He.cls_ok (c.fact 238 (f := fun K => (He.Fa.cls "Later").ok K) rfl),
  insC_of (c.fact 239 (f := insB "Later") rfl),
  He.noat_ok (c.fact 240 (f := fun K => (He.Fa.noat "Later" "minutes").ok K) rfl),
  He.noat_ok (c.fact 241 (f := fun K => (He.Fa.noat "Later" "held").ok K) rfl),
  He.noat_ok (c.fact 242 (f := fun K => (He.Fa.noat "Later" "weight").ok K) rfl),
  He.meth_ok (c.fact 243 (f := fun K => (He.Fa.meth "Later" "notes_at").ok K) rfl),
  He.meth_ok (c.fact 244 (f := fun K => (He.Fa.meth "Later" "moments_within").ok K) rfl),
  He.meth_ok (c.fact 245 (f := fun K => (He.Fa.meth "Later" "inner").ok K) rfl),
  of_decide_eq_true (c.fact 246 (f := sameF "Later" "Card" "inner") rfl),
  He.meth_ok (c.fact 247 (f := fun K => (He.Fa.meth "Later" "size").ok K) rfl),
  of_decide_eq_true (c.fact 248 (f := sameF "Later" "Card" "size") rfl),
  He.mkr_ok (c.fact 249 (f := fun K => (He.Fa.mkr "Later").ok K) rfl),
  of_decide_eq_true (c.fact 250 (f := kitF "Later" "Card" true) rfl),
  of_decide_eq_true (c.fact 251 (f := kitF "Later" "As" false) rfl),
  He.cls_ok (c.fact 252 (f := fun K => (He.Fa.cls "Noted").ok K) rfl),
  insC_of (c.fact 253 (f := insB "Noted") rfl),
  He.noat_ok (c.fact 254 (f := fun K => (He.Fa.noat "Noted" "note").ok K) rfl),
  He.noat_ok (c.fact 255 (f := fun K => (He.Fa.noat "Noted" "held").ok K) rfl),
  He.noat_ok (c.fact 256 (f := fun K => (He.Fa.noat "Noted" "weight").ok K) rfl),
  He.meth_ok (c.fact 257 (f := fun K => (He.Fa.meth "Noted" "notes_at").ok K) rfl),
  He.meth_ok (c.fact 258 (f := fun K => (He.Fa.meth "Noted" "inner").ok K) rfl),
  of_decide_eq_true (c.fact 259 (f := sameF "Noted" "Card" "inner") rfl),
  He.meth_ok (c.fact 260 (f := fun K => (He.Fa.meth "Noted" "size").ok K) rfl),
  of_decide_eq_true (c.fact 261 (f := sameF "Noted" "Card" "size") rfl),
  He.meth_ok (c.fact 262 (f := fun K => (He.Fa.meth "Noted" "moments_within").ok K) rfl),
  of_decide_eq_true (c.fact 263 (f := sameF "Noted" "Card" "moments_within") rfl),
  He.mkr_ok (c.fact 264 (f := fun K => (He.Fa.mkr "Noted").ok K) rfl),
  of_decide_eq_true (c.fact 265 (f := kitF "Noted" "Card" true) rfl),
  of_decide_eq_true (c.fact 266 (f := kitF "Noted" "As" false) rfl),
  He.cls_ok (c.fact 267 (f := fun K => (He.Fa.cls "As").ok K) rfl),
  insC_of (c.fact 268 (f := insB "As") rfl),
  He.noat_ok (c.fact 269 (f := fun K => (He.Fa.noat "As" "name").ok K) rfl),
  He.noat_ok (c.fact 270 (f := fun K => (He.Fa.noat "As" "held").ok K) rfl),
  He.noat_ok (c.fact 271 (f := fun K => (He.Fa.noat "As" "weight").ok K) rfl),
  He.meth_ok (c.fact 272 (f := fun K => (He.Fa.meth "As" "inner").ok K) rfl),
  of_decide_eq_true (c.fact 273 (f := sameF "As" "Card" "inner") rfl),
  He.meth_ok (c.fact 274 (f := fun K => (He.Fa.meth "As" "size").ok K) rfl),
  of_decide_eq_true (c.fact 275 (f := sameF "As" "Card" "size") rfl),
  He.meth_ok (c.fact 276 (f := fun K => (He.Fa.meth "As" "notes_at").ok K) rfl),
  of_decide_eq_true (c.fact 277 (f := sameF "As" "Card" "notes_at") rfl),
  He.meth_ok (c.fact 278 (f := fun K => (He.Fa.meth "As" "moments_within").ok K) rfl),
  of_decide_eq_true (c.fact 279 (f := sameF "As" "Card" "moments_within") rfl),
  He.mkr_ok (c.fact 280 (f := fun K => (He.Fa.mkr "As").ok K) rfl),
  of_decide_eq_true (c.fact 281 (f := kitF "As" "Card" true) rfl),
  of_decide_eq_true (c.fact 282 (f := kitF "As" "As" true) rfl),
  of_decide_eq_true (c.fact 283 (f := kitBF "int" "Days" false) rfl),
  of_decide_eq_true (c.fact 284 (f := kitBF "bool" "Days" false) rfl),
  of_decide_eq_true (c.fact 285 (f := kitBF "str" "Days" false) rfl),
  of_decide_eq_true (c.fact 286 (f := kitBF "NoneType" "Days" false) rfl),
  of_decide_eq_true (c.fact 287 (f := kitBF "list" "Days" false) rfl),
  of_decide_eq_true (c.fact 288 (f := kitBF "tuple" "Days" false) rfl),
  of_decide_eq_true (c.fact 289 (f := kitBF "dict" "Days" false) rfl),
  of_decide_eq_true (c.fact 290 (f := kitBF "int" "Spread" false) rfl),
  of_decide_eq_true (c.fact 291 (f := kitBF "bool" "Spread" false) rfl),
  of_decide_eq_true (c.fact 292 (f := kitBF "str" "Spread" false) rfl),
  of_decide_eq_true (c.fact 293 (f := kitBF "NoneType" "Spread" false) rfl),
  of_decide_eq_true (c.fact 294 (f := kitBF "list" "Spread" false) rfl),
  of_decide_eq_true (c.fact 295 (f := kitBF "tuple" "Spread" false) rfl),
  of_decide_eq_true (c.fact 296 (f := kitBF "dict" "Spread" false) rfl),
  of_decide_eq_true (c.fact 297 (f := kitBF "int" "Card" false) rfl),
  of_decide_eq_true (c.fact 298 (f := kitBF "bool" "Card" false) rfl),
  of_decide_eq_true (c.fact 299 (f := kitBF "str" "Card" false) rfl),
  of_decide_eq_true (c.fact 300 (f := kitBF "NoneType" "Card" false) rfl),
  of_decide_eq_true (c.fact 301 (f := kitBF "list" "Card" false) rfl),
  of_decide_eq_true (c.fact 302 (f := kitBF "tuple" "Card" false) rfl),
  of_decide_eq_true (c.fact 303 (f := kitBF "dict" "Card" false) rfl),
  of_decide_eq_true (c.fact 304 (f := exm1F "NoTime" "GoingError" true) rfl),
  excC_of (c.fact 305 (f := excCB "NoTime") rfl),
  of_decide_eq_true (c.fact 306 (f := kitF "NoTime" "LackError" false) rfl),
  of_decide_eq_true (c.fact 307 (f := kitF "NoTime" "BookError" false) rfl),
  of_decide_eq_true (c.fact 308 (f := kitF "NoTime" "NoTime" true) rfl),
  of_decide_eq_true (c.fact 309 (f := kitF "NoTime" "NoPiece" false) rfl),
  of_decide_eq_true (c.fact 310 (f := kitF "NoTime" "NoDays" false) rfl),
  of_decide_eq_true (c.fact 311 (f := kitF "NoTime" "NoCard" false) rfl),
  of_decide_eq_true (c.fact 312 (f := kitF "NoTime" "NoName" false) rfl),
  of_decide_eq_true (c.fact 313 (f := kitF "NoTime" "NoRow" false) rfl),
  of_decide_eq_true (c.fact 314 (f := kitF "NoTime" "NoText" false) rfl),
  of_decide_eq_true (c.fact 315 (f := kitFT "NoTime" "ValueError" true) rfl),
  of_decide_eq_true (c.fact 316 (f := exm1F "NoCard" "GoingError" true) rfl),
  excC_of (c.fact 317 (f := excCB "NoCard") rfl),
  of_decide_eq_true (c.fact 318 (f := kitF "NoCard" "LackError" false) rfl),
  of_decide_eq_true (c.fact 319 (f := kitF "NoCard" "BookError" false) rfl),
  of_decide_eq_true (c.fact 320 (f := kitF "NoCard" "NoTime" false) rfl),
  of_decide_eq_true (c.fact 321 (f := kitF "NoCard" "NoPiece" false) rfl),
  of_decide_eq_true (c.fact 322 (f := kitF "NoCard" "NoDays" false) rfl),
  of_decide_eq_true (c.fact 323 (f := kitF "NoCard" "NoCard" true) rfl),
  of_decide_eq_true (c.fact 324 (f := kitF "NoCard" "NoName" false) rfl),
  of_decide_eq_true (c.fact 325 (f := kitF "NoCard" "NoRow" false) rfl),
  of_decide_eq_true (c.fact 326 (f := kitF "NoCard" "NoText" false) rfl),
  of_decide_eq_true (c.fact 327 (f := kitFT "NoCard" "ValueError" true) rfl),
  c.def_ 0 (d := d_is_whole) rfl,
  c.def_ 1 (d := d_is_moment) rfl,
  c.def_ 2 (d := d_want_moment) rfl,
  c.def_ 3 (d := d_want_day) rfl,
  c.def_ 4 (d := d_are_signs) rfl,
  c.def_ 5 (d := d_Ring_init) rfl,
  c.def_ 6 (d := d_Ring_rings) rfl,
  c.def_ 7 (d := d_told_days) rfl,
  c.def_ 8 (d := d_want_till) rfl,
  c.def_ 9 (d := d_Days_init) rfl,
  c.def_ 10 (d := d_Days_has) rfl,
  c.def_ 11 (d := d_is_name) rfl,
  c.def_ 12 (d := d_notes_of) rfl,
  c.def_ 13 (d := d_Going_init) rfl,
  c.def_ 14 (d := d_is_number) rfl,
  c.def_ 15 (d := d_all_rising) rfl,
  c.def_ 16 (d := d_shorts_in) rfl,
  c.def_ 17 (d := d_row_moments) rfl,
  c.def_ 18 (d := d_row_many) rfl,
  c.def_ 19 (d := d_At_init) rfl,
  c.def_ 20 (d := d_At_moments) rfl,
  c.def_ 21 (d := d_At_begins) rfl,
  c.def_ 22 (d := d_At_ends) rfl,
  c.def_ 23 (d := d_At_means_many) rfl,
  c.def_ 24 (d := d_At_nested) rfl,
  c.def_ 25 (d := d_Over_init) rfl,
  c.def_ 26 (d := d_Over_moments) rfl,
  c.def_ 27 (d := d_Over_begins) rfl,
  c.def_ 28 (d := d_Over_ends) rfl,
  c.def_ 29 (d := d_Over_means_many) rfl,
  c.def_ 30 (d := d_Over_nested) rfl,
  c.def_ 31 (d := d_Spread_init) rfl,
  c.def_ 32 (d := d_Spread_moments) rfl,
  c.def_ 33 (d := d_want) rfl,
  c.def_ 34 (d := d_Card_init) rfl,
  c.def_ 35 (d := d_Card_inner) rfl,
  c.def_ 36 (d := d_Card_size) rfl,
  c.def_ 37 (d := d_Card_notes_at) rfl,
  c.def_ 38 (d := d_Card_moments_within) rfl,
  c.def_ 39 (d := d_Once_init) rfl,
  c.def_ 40 (d := d_Once_moments_within) rfl,
  c.def_ 41 (d := d_Every_init) rfl,
  c.def_ 42 (d := d_Every_moments_within) rfl,
  c.def_ 43 (d := d_Join_init) rfl,
  c.def_ 44 (d := d_Less_init) rfl,
  c.def_ 45 (d := d_Swap_init) rfl,
  c.def_ 46 (d := d_Later_init) rfl,
  c.def_ 47 (d := d_Noted_init) rfl,
  c.def_ 48 (d := d_As_init) rfl,
  c.def_ 49 (d := d_first_as) rfl,
  c.def_ 50 (d := d_want_card) rfl,
  c.def_ 51 (d := d_want_known) rfl,
  c.def_ 52 (d := d_goings_within) rfl,
  c.def_ 53 (d := d_going_at) rfl,
  c.def_ 54 (d := d_goings_on) rfl,
  c.def_ 55 (d := d__law_pot) rfl,
  c.def_ 56 (d := d__law_take) rfl,
  c.def_ 57 (d := d__law_name) rfl,
  c.def_ 58 (d := d__law_word) rfl,
  c.def_ 59 (d := d__law_done) rfl,
  c.def_ 60 (d := d__law_tried) rfl,
  c.def_ 61 (d := d__law_all) rfl,
  c.def_ 62 (d := d__law_no_leaves) rfl,
  c.def_ 63 (d := d__law_no_others) rfl,
  c.def_ 64 (d := d__law_no_moments) rfl,
  c.def_ 65 (d := d__law_around) rfl,
  c.def_ 66 (d := d__law_sizes_right) rfl,
  c.def_ 67 (d := d__law_often_right) rfl,
  c.def_ 68 (d := d_law) rfl⟩
end Toy
open PySem PySem.W PySem.Calls PyProof.Rows
set_option maxRecDepth 100000 in
set_option maxHeartbeats 0 in
theorem PySem.Challenge.cw_shortgoings_k55_what_is_no_card_holds : PySem.Challenge.rw_shortgoings_k55_what_is_no_card.Holds := by
  w_on; o_law
  refine HandSHeadRun.head_any (r := OpenLaw.row PySem.Challenge.rw_shortgoings_k55_what_is_no_card) (q := view (OpenLaw.row PySem.Challenge.rw_shortgoings_k55_what_is_no_card).prog [99]) (H := Toy.hk) (ob := Toy.ob) (M := 10600) (loose := Toy.nss) (d := HandSHeadRun.topDef (OpenLaw.row PySem.Challenge.rw_shortgoings_k55_what_is_no_card).prog 99) (kwd := []) Toy.ob_eq
    (by kernel_rfl) (fun s => by kernel_rfl) Toy.run (by kernel_rfl) (by kernel_rfl) (by kernel_rfl) (by rfl) (by first | assumption | decide +kernel) (by decide +kernel) ⟨rfl, rfl, rfl, rfl, rfl, by decide +kernel⟩ ?hw ?hc
  case hw => w_witness2
  case hc =>
    refine L3.walk_end (l := PySem.Challenge.rw_shortgoings_k55_what_is_no_card) (n := 63) (k := 111) (x := "_law_script") rfl (by decide) (by kernel_rfl) (L3.rm_caller.mono (by decide)) ?F
    intro w mg fa h Y G hmg0
    obtain ⟨K, KX, c⟩ := Y
    have hmg : mg ("law" : PySem.Str) = some (.ref fa) := by
      have e : (HandSHeadRun.topDef (OpenLaw.row PySem.Challenge.rw_shortgoings_k55_what_is_no_card).prog 99).name = ("law" : PySem.Str) := by kernel_rfl
      rw [← e]
      exact hmg0
    have T := Toy.env_of KX G c
    have e := hmg.symm.trans T.g_law
    cases e
    obtain ⟨fd, F⟩ := T.f_law
    have b := L2.FunD.bindsA (ps := ["_law_script"]) F fun _ _ _ _ _ _ us hl => match us, hl with | [_], _ => rfl
    exact ⟨K, fd, Toy.sp_law K, KX, fun s v => b s [v] rfl, fun H a ns hl hS => ⟨a, ns, rfl, hS, hl, fun _ => rfl⟩, fun base _ _ => Toy.ok_law T F⟩
