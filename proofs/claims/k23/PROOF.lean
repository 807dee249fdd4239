import PyProof.Rows.All
import Wide.All
import OpenK.AllK
import Wide.FinOn
import PyProof.EqAt
import PyProof.EqKinds
import PyProof.TupleCall
import HandS.ForMost
import HandS.ForExc
import HandS.Defaults
import HandS.MakeKwOnly
import HandS.WideBits
import HandS.IsInst
import HandS.Flow
import HandS.Style
import HandS.Evl
import HandS.StrMore
import HandS.TupAny
import HandS.SortInts
import HandS.RaiseMore
import HandS.Zip
import HandS.Head0
import HandS.Head1
import HandS.Head2
import HandS.HeadEnd
import HandS.HeadHook1
import HandS.HeadHook2
import HandS.Walk
import PyProof.Rows.StrJoinRep
import PyProof.StrLawsLast
import HandS.Codes
import HandS.ExcIs
import KE.KTryMore
import KE.KFmtOwn
import PyProof.InstSpecial
import HandS.TryOnly
import HandS.FStr
import HandS.Conv
import HandS.SetFor
import HandS.Strs
import HandS.OwnEq
import HandS.Deep
import HandS.RaiseFrom
import HandS.SuiteRaise
import HandS.Exc
import PySem.Challenge.RW_shortgoings_k23_what_is_no_short
set_option Elab.async false
set_option linter.all false
set_option maxRecDepth 100000
set_option maxHeartbeats 4000000
namespace L3
open PySem PySem.Spec PyProof.Rows L2
structure Rm (k : Nat) (A : Around) : Prop where
  rm : Room k A
  gd : A.guards = some []
theorem Rm.mono {j k : Nat} {A : Around} (r : Rm k A) (h : j ≤ k) : Rm j A := ⟨r.rm.mono h, r.gd⟩
theorem Rm.deeper {k : Nat} {A : Around} (r : Rm (k + 1) A) (env : Env) : Rm k (A.deeper env) := ⟨r.rm.deeper env, r.gd⟩
theorem make_guards {A : Around} {C : Addr} {us : List Value} {kw : List (Str × Value)} : (A.under (.builtin "type.__call__" ⟨.ref C :: us, kw⟩)).guards = A.guards := by
  have e : Code.guards (.builtin "type.__call__" ⟨.ref C :: us, kw⟩) = [] := by
    first | rfl | simp [Code.guards, Code.isGuard, guardIds]
  show pushGuards (Code.guards (.builtin "type.__call__" ⟨.ref C :: us, kw⟩)) A.guards = A.guards
  rw [e]
  cases A.guards <;> rfl
theorem Rm.make {k : Nat} {A : Around} (r : Rm (k + 1) A) (C : Addr) (us : List Value) (kw : List (Str × Value)) : Rm k (A.under (.builtin "type.__call__" ⟨.ref C :: us, kw⟩)) :=
  ⟨r.rm.make C us kw, make_guards.trans r.gd⟩
structure Fb (P : Program) (w : World) (K : PySem.W.Frag) (mg : Str → Option Value) (base : Heap) (k : Nat) (f : Addr) (fd : FuncData) (ps : List Str) (sp : Sp) : Prop where
  len : ∀ vs H Q E, sp vs H Q E → vs.length = ps.length
  run : ∀ (A : Around) (outer : List Env) (s : Shared) (H : Hp) (args : Args) (us : List Value) (vs : List V) (Q : VK) (E : XK), Rm k A → Env0 P w K mg base A outer s H → BindsTo s fd args (ps.zip us) → Vals vs us → sp vs H Q E →
    codeAny (model P w) A (.call (.ref f) args) (CR (L2.CX P w) outer P w H s Q E) s
section
variable {P : Program} {w : World} {K : PySem.W.Frag} {mg : Str → Option Value} {base : Heap} {x qual : Str} {params : Arguments} {body : List Stmt} {scope : Scope} {dvs : List V} {kws : List (Str × V)} {f : Addr} {fd : FuncData} {k : Nat} {ps N : List Str} {sp : Sp}
theorem fb_of (F : FunD K x qual params body scope dvs kws f fd) (S : FnScope N ps scope) (len : ∀ vs H Q E, sp vs H Q E → vs.length = ps.length)
    (hbody : ∀ (cdv : Value) (A : Around) (outer : List Env) (s : Shared) (H : Hp) (vs : List V) (Q : VK) (E : XK), Rm k (A.deeper (envOfC qual scope s.heap.objs.size f cdv)) → sp vs H Q E →
      ∃ t, PSs (cxOf (L2.CX P w) P w K mg base N qual scope f cdv A outer s H E) body t ∧ t { nx := fun _ H' => Q .non H', rt := Q } (start N vs) H) : Fb P w K mg base (k + 1) f fd ps sp := by
  obtain ⟨oc, od, dV, kV, doc, pm, an, cdv, ct, osl, rfl, lk, hcd, _, _⟩ := F.ex
  refine ⟨len, fun A outer s H args us vs Q E hr e0 hb r hsp => ?_⟩
  have hl := len _ _ _ _ hsp
  have KX : K.In s.heap := e0.mod.kin.keeps fun b o e => (e0.bs b o e).1
  have lim : s.heap.NoLimit := e0.mod.nolimit.keeps fun b o e => (e0.bs b o e).1
  have hkind : ∀ y ∈ ps.zip us, scope.names.lookup y.1 = some .local ∨ (scope.names.lookup y.1 = some .cell ∧ ((cellsFrom (s.heap.objs.size + 1) scope.names []).lookup y.1).isSome = true) := fun ⟨n, v⟩ hy => by
    rcases S.par n (List.of_mem_zip hy).1 with q | q
    · exact .inl q
    · exact .inr ⟨q, PySem.W.cellsFrom_some _ _ _ (.inl q)⟩
  refine codeAny_call_function hr.rm.depth (KX _ _ lk) rfl S.co S.gen rfl (PySem.W.codeRec_of KX hcd) (hb _ _ _ _ ?_)
  refine wpAny_newFunctionEnv_cells S.kind hkind fun env he s1 x => ?_
  subst he
  refine ⟨lim.keeps x.toInCall.keep, codeAny_func ?_⟩
  obtain ⟨t, ht, hq⟩ := hbody cdv A outer s H vs Q E (hr.deeper _) hsp
  have I : Inv (cxOf (L2.CX P w) P w K mg base N qual scope f cdv A outer s H E) [] (start N vs) H s1 := inv_start S hr.rm.hd e0 hl r x
  refine wpAny_mono (ht.run [] s1 (start N vs) H _ I hq) (fun fl s' hs => ?_) fun e s' hs => hs
  have fin : ∀ {σ' : L2.St} {H' : Hp} {v : V} {u : Value}, Inv (cxOf (L2.CX P w) P w K mg base N qual scope f cdv A outer s H E) [] σ' H' s' → RelV v u → Q v H' → CE outer P w H s Q u s' :=
    fun {σ' H' v u} J rv q => ⟨v, H', J.os, J.bare, J.base, J.hok, rv, q⟩
  cases fl with
  | ret u =>
    obtain ⟨v, σ', H', J, rv, q⟩ := hs
    exact fin J rv q
  | next =>
    obtain ⟨σ', H', J, q⟩ := hs
    exact fin (v := V.non) (u := Value.none) J rfl q
  | brk =>
    obtain ⟨_, _, _, q⟩ := hs
    exact False.elim q
  | cont =>
    obtain ⟨_, _, _, q⟩ := hs
    exact False.elim q
theorem Fb.mono {j : Nat} (F : Fb P w K mg base j f fd ps sp) (h : j ≤ k) : Fb P w K mg base k f fd ps sp := ⟨F.len, fun A outer s H args us vs Q E hr => F.run A outer s H args us vs Q E (hr.mono h)⟩
theorem Fb.imp {sp' : Sp} (F : Fb P w K mg base k f fd ps sp) (h : ∀ vs H Q E, sp' vs H Q E → sp vs H Q E) : Fb P w K mg base k f fd ps sp' :=
  ⟨fun vs H Q E q => F.len vs H Q E (h _ _ _ _ q), fun A outer s H args us vs Q E hr he hb hv hs => F.run A outer s H args us vs Q E hr he hb hv (h _ _ _ _ hs)⟩
def Fc (P : Program) (w : World) (K : PySem.W.Frag) (mg : Str → Option Value) (base : Heap) (k : Nat) (f : Addr) (ks : List Str) (sp : Sp) : Prop :=
  ∀ (A : Around) (outer : List Env) (s : Shared) (H : Hp) (us ws : List Value) (vs : List V) (Q : VK) (E : XK), Rm k A → Env0 P w K mg base A outer s H → Vals vs (us ++ ws) → ws.length = ks.length → sp vs H Q E →
    codeAny (model P w) A (.call (.ref f) ⟨us, ks.zip ws⟩) (CR (L2.CX P w) outer P w H s Q E) s
theorem Fc.mono {j : Nat} {ks : List Str} (F : Fc P w K mg base j f ks sp) (h : j ≤ k) : Fc P w K mg base k f ks sp := fun A outer s H us ws vs Q E hr => F A outer s H us ws vs Q E (hr.mono h)
theorem Fc.imp {sp' : Sp} {ks : List Str} (F : Fc P w K mg base k f ks sp) (h : ∀ vs H Q E, sp' vs H Q E → sp vs H Q E) : Fc P w K mg base k f ks sp' :=
  fun A outer s H us ws vs Q E hr he hv hl hs => F A outer s H us ws vs Q E hr he hv hl (h _ _ _ _ hs)
/-- every parameter is given by place -/
theorem Fb.all (F : Fb P w K mg base k f fd ps sp) (hb : Binds K fd ps []) : Fc P w K mg base k f [] sp := fun A outer s H us ws vs Q E hr e0 r hl h => by
  cases ws with
  | cons w ws => cases hl
  | nil =>
    rw [List.append_nil] at r
    have KX : K.In s.heap := e0.mod.kin.keeps fun b o e => (e0.bs b o e).1
    have l2 : us.length = ps.length := by rw [← r.length]; exact F.len _ _ _ _ h
    have b := hb s us KX (by rw [List.append_nil]; exact l2)
    rw [List.append_nil] at b
    exact F.run A outer s H ⟨us, []⟩ us vs Q E hr e0 b r h
/-- some by place, some by name, some left out: g puts the given ones and the defaults into the parameters' order -/
theorem Fb.shape (D : FunD K x qual params body scope dvs kws f fd) (F : Fb P w K mg base k f fd ps sp) (n : Nat) (ks : List Str) (g : {α : Type} → List α → List α → List α) (hd : dvs ≠ [])
    (hrel : ∀ {vs ds : List V} {us its : List Value}, Vals vs us → Vals ds its → Vals (g vs ds) (g us its))
    (h : ∀ (T : Addr) (kV doc pm : Value) (an : Option Addr) (cdv ct : Value) (us ws its : List Value), us.length = n → ws.length = ks.length → its.length = dvs.length →
      ∃ k, bindArgs (PySem.W.fnOf x qual params body scope (.ref T) kV doc pm an cdv ct) ⟨us, ks.zip ws⟩ = seqItems? (.ref T) >>= k ∧ k (some its.toArray) = pure (ps.zip (g (us ++ ws) its))) :
    Fc P w K mg base k f ks (fun vs H Q E => vs.length = n + ks.length ∧ sp (g vs dvs) H Q E) := by
  obtain ⟨oc, od, dV, kV, doc, pm, an, cdv, ct, osl, rfl, lk, hcd, hD, hK⟩ := D.ex
  rcases hD with ⟨e, _⟩ | ⟨_, T, o, its, m, rfl, lT, oT, rT⟩
  · exact absurd e hd
  · intro A outer s H us ws vs Q E hr e0 r hl hsp
    have KX : K.In s.heap := e0.mod.kin.keeps fun b o e => (e0.bs b o e).1
    have l1 : its.length = dvs.length := rT.length.symm
    have l2 : us.length = n := by
      have e := r.length
      rw [hsp.1, List.length_append, hl] at e
      omega
    obtain ⟨k, e1, e2⟩ := h T kV doc pm an cdv ct us ws its l2 hl l1
    refine F.run A outer s H ⟨us, ks.zip ws⟩ (g (us ++ ws) its) (g vs dvs) Q E hr e0 (BindsTo.of_looks fun M => ?_) (hrel r rT) hsp.2
    rw [e1]
    exact looks_items KX lT oT (.of_pure e2)
/-- all parameters given, some by name, no defaults -/
theorem Fb.names (D : FunD K x qual params body scope [] kws f fd) (F : Fb P w K mg base k f fd ps sp) (n : Nat) (ks : List Str) (g : {α : Type} → List α → List α)
    (hrel : ∀ {vs : List V} {us : List Value}, Vals vs us → Vals (g vs) (g us))
    (h : ∀ (kV doc pm : Value) (an : Option Addr) (cdv ct : Value) (us ws : List Value), us.length = n → ws.length = ks.length →
      bindArgs (PySem.W.fnOf x qual params body scope .none kV doc pm an cdv ct) ⟨us, ks.zip ws⟩ = pure (ps.zip (g (us ++ ws)))) :
    Fc P w K mg base k f ks (fun vs H Q E => vs.length = n + ks.length ∧ sp (g vs) H Q E) := by
  obtain ⟨oc, od, dV, kV, doc, pm, an, cdv, ct, osl, rfl, lk, hcd, hD, hK⟩ := D.ex
  rcases hD with ⟨_, rfl⟩ | ⟨e, _⟩
  · intro A outer s H us ws vs Q E hr e0 r hl hsp
    have l2 : us.length = n := by
      have e := r.length
      rw [hsp.1, List.length_append, hl] at e
      omega
    exact F.run A outer s H ⟨us, ks.zip ws⟩ (g (us ++ ws)) (g vs) Q E hr e0 (.of_eq (h kV doc pm an cdv ct us ws l2 hl)) (hrel r) hsp.2
  · exact absurd rfl e
end
def tFc (sp : Sp) (W : WX) (t : TA) : TE := fun σ H Q => t σ H fun vs H1 => sp vs H1 Q (WE W σ)
section
variable {X : Cx} {k : Nat} {f C : Addr} {ks : List Str} {sp : Sp} {W : WX} {x m : Str} {p pos apos : Pos} {e o : Expr} {es : List Expr} {kws : List Keyword} {ta : TE} {t tk : TA}
theorem run_fc {pins : List (Addr × Obj)} {σ : L2.St} {H : Hp} {s : Shared} {Q : VK} {us ws : List Value} {vs : List V} (F : Fc X.prog X.w X.K X.mg X.base k f ks sp) (hr : Rm k X.A) (hx : Takes X W)
    (I : Inv X pins σ H s) (r : Vals vs (us ++ ws)) (hl : ws.length = ks.length) (h : sp vs H Q (WE W σ)) : wpAny (model X.prog X.w) X.A (call (.ref f) us (ks.zip ws)) (EP X pins σ Q) X.xe s := by
  refine wpAny_call (codeAny_mono (F X.A X.stack s H us ws vs Q (WE W σ) hr I.env0 r hl h) fun r s' hq => ?_)
  cases r with
  | error e => exact passAt hx σ pins H s e s' I hq
  | ok fl =>
    cases fl with
    | ret u => exact I.after hq
    | next => exact False.elim hq
    | brk => exact False.elim hq
    | cont => exact False.elim hq
/-- f(e, ..) -/
theorem c_call (F : Fc X.prog X.w X.K X.mg X.base k f [] sp) (hr : Rm k X.A) (hm : X.mg x = some (.ref f)) (hk : PySem.W.keepIn X.K (.ref f) = true) (hx : Takes X W)
    (ha : PA X (e :: es) t) (hg : Gl X x := by rfl) (hdb : (x == ("__debug__" : Str)) = false := by decide) (he : starEach (e :: es) X.env = (false, eval e X.env) :: starEach es X.env := by rfl) (hpl : (backTo pos (starEach es X.env)).any (·.1) = false := by rfl) :
    PE X (.Call (.Name x p) (e :: es) [] pos) (tFc sp W t) := by
  refine ⟨fun pins s σ H Q I h => ?_⟩
  refine wpAny_Call_Name_kw (ld_glob I hg hm ?_ hdb)
  refine PySem.W.callWith_K (h₀ := X.base) I.ok.mod.kin hk (thn (ha.run pos pins s σ H _ I h) fun us s1 ⟨vs, H1, I1, r, q⟩ => ⟨I1.kIn, ?_⟩) he hpl
  exact run_fc (ws := []) F hr hx I1 (by rw [List.append_nil]; exact r) rfl q
end
theorem rm_caller : Rm 230 callerA := ⟨⟨rfl, by decide, by decide⟩, rfl⟩
section
variable {P : Program} {w : World} {K : PySem.W.Frag} {mg mb : Str → Option Value} {k : Nat} {fa a : Addr} {fd : FuncData} {x : Str} {sp : Sp} {s₁ : Shared} {vs : List Value} {ns : List Int}
/-- the law's call over one abstract heap, in which at most the script is tracked -/
theorem law_core (H : Hp) (KX : K.In s₁.heap) (hns : s₁.heap.Ns mainGlobals mg) (hb : s₁.heap.Ns builtinsNs mb) (hbb : ∀ x : Str, x ≠ "__name__" → mb x = bootBuiltins x) (hlim : s₁.heap.NoLimit) (hg : s₁.gens = #[])
    (ha : s₁.heap.get? a = some { cls := .type "list", data := .seq vs.toArray }) (hr : Rm k callerA)
    (F : ∀ base : Heap, K.In base → base.Ns mainGlobals mg → Fb P w K mg base k fa fd [x] sp) (hbind : ∀ (s : Shared) (u : Value), BindsTo s fd ⟨[u], []⟩ [(x, u)])
    (hO : Only H) (hsp : sp [.ref a] H (fun v _ => v = .bl true) fun _ _ _ => False) (hok : HOk P w H s₁.heap) (hA : ∀ b, H b ≠ none → b = a) (hK : H a ≠ none → K.lookup a = none) :
    codeAny (model P w) callerA (.call (.ref fa) ⟨[.ref a], []⟩) (fun r s' => r = .ok (.ret (.bool true)) ∧ OldK s₁.heap s'.heap ∧ s'.os = s₁.os ∧ AllBare s'.gens) s₁ := by
  have isA : ∀ {b : Addr} {u : HO}, H b = some u → b = a := fun {b u} q => hA b (fun z => nomatch (q.symm.trans z))
  have free : ∀ {b : Addr} {o : Obj} {es : Array DictEntry} {ep : Nat}, s₁.heap.get? b = some o → o.data = .dict es ep → H b = none := fun {b o es ep} e d => by
    cases q : H b with
    | none => rfl
    | some u =>
      have eb := isA q
      subst eb
      rw [ha] at e
      cases e
      cases (show Data.seq vs.toArray _ = Data.dict es ep from d)
  have nsK : ∀ {b : Addr} {m : Str → Option Value}, s₁.heap.Ns b m → (hidT s₁.heap H).Ns b m := fun {b m} ⟨o, es, ep, e, d, r⟩ => ⟨o, es, ep, hidT_get e (free e d), d, r⟩
  have inK : K.In (hidT s₁.heap H) := fun b o e => hidT_get (KX b o e) (by
    cases q : H b with
    | none => rfl
    | some u =>
      have eb := isA q
      subst eb
      rw [hK (fun z => nomatch (q.symm.trans z))] at e
      cases e)
  have hM : Mod K mg (hidT s₁.heap H) := ⟨inK, nsK hns, ⟨mb, nsK hb, hbb⟩, let ⟨mc, h1, h2⟩ := hlim; ⟨mc, nsK h1, h2⟩⟩
  have e0 : Env0 P w K mg (hidT s₁.heap H) callerA [] s₁ H := ⟨rfl, hM, fun b o e => of_hidT e, Nat.le_of_eq (hidT_size _ _), trivial, (fun b z => nomatch (show b ∈ ([] : List Addr) from z)), hok, .of_eq hg⟩
  refine codeAny_mono ((F _ inK (nsK hns)).run callerA [] s₁ H ⟨[.ref a], []⟩ [.ref a] [.ref a] _ _ hr e0 (hbind s₁ (.ref a)) (.cons rfl .nil) hsp) fun r s' h => ?_
  cases r with
  | error e =>
    obtain ⟨_, _, _, _, _, _, _, _, _, _, _, _, z⟩ := h
    exact z.elim
  | ok fl =>
    cases fl with
    | next => exact h.elim
    | brk => exact h.elim
    | cont => exact h.elim
    | ret u =>
      obtain ⟨v, H', os, bare, un, hok2, rv, rfl⟩ := h
      obtain rfl : u = Value.bool true := rv
      refine ⟨rfl, OldK.of_keep fun b o e => ?_, os, bare⟩
      cases q : H b with
      | none => exact un.keep b o e q (fun z => nomatch (show b ∈ ([] : List Addr) from z)) (fun z => nomatch z)
      | some u =>
        rcases hO b with z | ⟨ob, xs, z⟩
        · exact nomatch (q.symm.trans z)
        · have e1 := (hok b _ z).1
          have e2 := (hok2 b _ (un.frzs b ob _ z)).1
          rw [e] at e1
          cases e1
          exact e2
theorem law_end (KX : K.In s₁.heap) (hns : s₁.heap.Ns mainGlobals mg) (hb : s₁.heap.Ns builtinsNs mb) (hbb : ∀ x : Str, x ≠ "__name__" → mb x = bootBuiltins x) (hlim : s₁.heap.NoLimit) (hg : s₁.gens = #[])
    (ha : s₁.heap.get? a = some { cls := .type "list", data := .seq vs.toArray }) (hi : IntsAre vs ns) (hl : ns.length ≤ sizeLine) (hr : Rm k callerA)
    (F : ∀ base : Heap, K.In base → base.Ns mainGlobals mg → Fb P w K mg base k fa fd [x] sp) (hbind : ∀ (s : Shared) (u : Value), BindsTo s fd ⟨[u], []⟩ [(x, u)])
    (hsp : ∀ H : Hp, SqL K H a (ns.map V.int) → sp [.ref a] H (fun v _ => v = .bl true) fun _ _ _ => False) :
    codeAny (model P w) callerA (.call (.ref fa) ⟨[.ref a], []⟩) (fun r s' => r = .ok (.ret (.bool true)) ∧ OldK s₁.heap s'.heap ∧ s'.os = s₁.os ∧ AllBare s'.gens) s₁ := by
  have rv := vals_ints hi
  cases hk : K.lookup a with
  | some o =>
    have e := KX a o hk
    rw [ha] at e
    cases e
    have sq : SqL K (fun _ => none) a (ns.map V.int) := .inr ⟨_, vs.toArray, _, hk, rfl, rfl, rfl, by rw [List.size_toArray, hi.length]; exact hl, by simpa using rv⟩
    exact law_core (fun _ => none) KX hns hb hbb hlim hg ha hr F hbind (fun _ => .inl rfl) (hsp _ sq) (fun b u z => nomatch (show (none : Option HO) = some u from z)) (fun b z => absurd rfl z) fun z => absurd rfl z
  | none =>
    have h1 : ∀ b, b ≠ a → (upd (fun _ => none) a (.frz { cls := .type "list", data := .seq vs.toArray } (.lst (ns.map V.int)))) b = none := fun b n => upd_ne n
    refine law_core (upd (fun _ => none) a (.frz { cls := .type "list", data := .seq vs.toArray } (.lst (ns.map V.int)))) KX hns hb hbb hlim hg ha hr F hbind (fun b => ?_) (hsp _ (.inl (.inr ⟨_, upd_same⟩))) (fun b u z => ?_) (fun b z => ?_) fun _ => hk
    · by_cases n : b = a
      · subst n
        exact .inr ⟨_, _, upd_same⟩
      · exact .inl (h1 b n)
    · by_cases n : b = a
      · subst n
        rw [upd_same] at z
        cases z
        exact ⟨ha, by rw [List.length_map]; exact hl, vs, _, rv, ha⟩
      · rw [h1 b n] at z
        cases z
    · by_cases n : b = a
      · exact n
      · exact absurd (h1 b n) z
end
theorem walk_end {l : PySem.W.OpenLaw} {n k : Nat} {q : Program} {loose : List Str} {XP : (Str → Option Value) → Heap → Prop} {YP : World → Heap → Prop} {d : DefRec} {x : Str}
    (hn : l.most = some n) (hn2 : n ≤ sizeLine) (hdf : d.params.defaults = []) (hr : Rm k callerA)
    (F : ∀ (w : World) (mg : Str → Option Value) (fa : Addr) (h : Heap), YP w h → h.Ns mainGlobals mg → mg d.name = some (.ref fa) →
      ∃ (K : PySem.W.Frag) (fd : FuncData) (sp : Sp), K.In h ∧ (∀ (s : Shared) (u : Value), BindsTo s fd ⟨[u], []⟩ [(x, u)]) ∧
        (∀ (H : Hp) (a : Addr) (ns : List Int), ns.length ≤ n → SqL K H a (ns.map V.int) → sp [.ref a] H (fun v _ => v = .bl true) fun _ _ _ => False) ∧
        ∀ base : Heap, K.In base → base.Ns mainGlobals mg → Fb l.prog w K mg base k fa fd [x] sp) :
    PySem.W.WalkO q loose XP YP l.row.toRowW d [] (fun f vs => PySem.call f vs) := by
  refine Att.attach_call hn hdf fun w s₀ s₁ mg mb fa o pm cd doc a vs ns G Y ho hd hcd hmg hobj hints hlen hg => ?_
  obtain ⟨K, fd, sp, KX, hb, hsp, hF⟩ := F w mg fa _ Y G.T.g hmg
  exact law_end KX G.T.g G.T.b G.T.builtins G.T.nolimit hg hobj hints (Nat.le_trans hlen hn2) hr hF hb (fun H hS => hsp H a ns hlen hS)
end L3
set_option Elab.async false
set_option linter.all false
set_option maxRecDepth 100000
set_option maxHeartbeats 4000000
namespace L3
open PySem PySem.Spec PyProof.Rows L2
abbrev Fx := PySem.W.Frag → Bool
def obsX (xf : List Fx) (fn : List He.DefD) (K : PySem.W.Frag) : He.AlD := ((xf.all fun p => p K) && fn.all fun d => d.ok K, fn.map fun d => He.fnW K d.at_)
def SaysX (xf : List Fx) (fn : List He.DefD) (K : PySem.W.Frag) : Prop := obsX xf fn K = He.valD fn
section
variable {xf : List Fx} {fn : List He.DefD} {K : PySem.W.Frag}
theorem SaysX.fact (c : SaysX xf fn K) (i : Nat) {f : Fx} (h : xf[i]? = some f := by rfl) : f K = true := by
  have c1 := (He.ba (show ((xf.all fun f => f K) && fn.all fun d => d.ok K) = true from congrArg (fun z : He.AlD => z.1) c)).1
  exact List.all_eq_true.mp c1 f (List.mem_of_getElem? h)
theorem SaysX.def_ (c : SaysX xf fn K) (i : Nat) {d : He.DefD} (h : fn[i]? = some d := by rfl) : ∃ fd, FunD K d.name d.qual d.params d.body d.scope (d.dvs K) (d.kws K) (He.fAd K d.at_) fd := by
  have c2 := (He.ba (show ((xf.all fun f => f K) && fn.all fun d => d.ok K) = true from congrArg (fun z : He.AlD => z.1) c)).2
  have e : fn.map (fun d => He.fnW K d.at_) = fn.map He.DefD.val := congrArg (fun z : He.AlD => z.2) c
  have e2 : (fn.map fun d => He.fnW K d.at_)[i]? = (fn.map He.DefD.val)[i]? := by rw [e]
  rw [List.getElem?_map, List.getElem?_map, h] at e2
  exact He.DefD.funD (Option.some.inj e2) (List.all_eq_true.mp c2 d (List.mem_of_getElem? h))
end
structure Exo (K : PySem.W.Frag) (C : Addr) (bmB : List Value) (newId : String) : Prop where
  x : PySem.W.excIn K C bmB newId = true
  kp : PySem.W.keepIn K (.ref C) = true
  sub : PySem.W.subIn K (.ref C) (.type "BaseException") = some true
  ty : PySem.W.typeIn K (.ref C) = some (.type "type")
abbrev bmV : List Value := [.type "ValueError", .type "Exception", .type "BaseException", .type "object"]
abbrev bmL : List Value := [.type "LookupError", .type "Exception", .type "BaseException", .type "object"]
abbrev bmR : List Value := [.type "RuntimeError", .type "Exception", .type "BaseException", .type "object"]
def exoB (bmB : List Value) (newId : String) (x : Str) : Fx := fun K => PySem.W.excIn K (He.ga K x) bmB newId && (PySem.W.keepIn K (.ref (He.ga K x)) && (decide (PySem.W.subIn K (.ref (He.ga K x)) (.type "BaseException") = some true) && decide (PySem.W.typeIn K (.ref (He.ga K x)) = some (.type "type"))))
theorem exo_of {bmB : List Value} {newId : String} {x : Str} {K : PySem.W.Frag} (h : exoB bmB newId x K = true) : Exo K (He.ga K x) bmB newId := by
  obtain ⟨h1, h⟩ := He.ba h
  obtain ⟨h2, h⟩ := He.ba h
  obtain ⟨h3, h4⟩ := He.ba h
  exact ⟨h1, h2, of_decide_eq_true h3, of_decide_eq_true h4⟩
section
variable {K : PySem.W.Frag} {h : Heap} {mg : Str → Option Value}
theorem gint_of (X : K.In h) (G : h.Ns mainGlobals mg) {x : Str} {i : Int} (c : (He.Fa.int x i).ok K = true) : ∃ u, mg x = some u ∧ RelV (.int i) u := by
  obtain ⟨t, e⟩ := He.int_ok X G c
  exact ⟨_, e, ⟨t, rfl⟩⟩
theorem gstr_of (X : K.In h) (G : h.Ns mainGlobals mg) {x z : Str} (c : (He.Fa.str x z).ok K = true) : ∃ u, mg x = some u ∧ RelV (.str z) u := by
  obtain ⟨t, e⟩ := He.str_ok X G c
  exact ⟨_, e, ⟨t, rfl⟩⟩
end
/-- a module's constant -/
theorem pe_k {X : Cx} {x : Str} {v : V} {pos : Pos} (h : ∃ u, X.mg x = some u ∧ RelV v u) (hg : Gl X x := by rfl) (hdb : (x == ("__debug__" : Str)) = false := by decide) : PE X (.Name x pos) (tC v) := by
  obtain ⟨u, e, r⟩ := h
  exact pe_glob hg e r hdb
end L3
set_option Elab.async false
set_option linter.all false
set_option maxRecDepth 100000
set_option maxHeartbeats 4000000
namespace L3
open PySem PySem.Spec PyProof.Rows L2
abbrev Ex (H H' : Hp) : Prop := Same H H'
theorem ex_new {H : Hp} {p : Addr} {o : HO} (h : H p = none) : Ex H (upd H p o) := fun a u e => by
  rw [upd_ne (ne_of_none e h)]
  exact e
/-- an object that H does not know may change -/
theorem ex_mut {H H' : Hp} {p : Addr} {o : HO} (e : Ex H H') (h : H p = none) : Ex H (upd H' p o) := fun a u ha => by
  rw [upd_ne (ne_of_none ha h)]
  exact e a u ha
theorem ex_sql {K : PySem.W.Frag} {H H' : Hp} {a : Addr} {xs : List V} (e : Ex H H') (h : SqL K H a xs) : SqL K H' a xs := Same.seq e h
theorem ex_sqt {K : PySem.W.Frag} {H H' : Hp} {a : Addr} {xs : List V} (e : Ex H H') (h : SqT K H a xs) : SqT K H' a xs := by
  rcases h with (h | ⟨o, h⟩) | h
  · exact .inl (.inl (e _ _ h))
  · exact .inl (.inr ⟨o, e _ _ h⟩)
  · exact .inr h
theorem ex_fresh {H H' : Hp} {p : Addr} (e : Ex H H') (h : H' p = none) : H p = none := Same.free e h
theorem sq_lst {K : PySem.W.Frag} {H : Hp} {a : Addr} {xs : List V} (h : H a = some (.lst xs)) : SqL K H a xs := .inl (.inl h)
theorem sq_tup {K : PySem.W.Frag} {H : Hp} {a : Addr} {xs : List V} (h : H a = some (.tup xs)) : SqT K H a xs := .inl (.inl h)
/-- a value of a known type -/
def isW : V → Bool
  | .int _ => true
  | _ => false
def Cl (K : PySem.W.Frag) (H : Hp) (x : V) : Prop := ∃ t b c, TyX K H x t ∧ PySem.W.kitOne K t (.type "int") = some b ∧ PySem.W.kitOne K t (.type "bool") = some c ∧ isW x = (b && !c)
section
variable {K : PySem.W.Frag} {H : Hp}
theorem cl_int (i : Int) : Cl K H (.int i) := ⟨_, true, false, .base (.int i), kit_ty (by decide +kernel), kit_ty (by decide +kernel), rfl⟩
theorem cl_bl (b : Bool) : Cl K H (.bl b) := ⟨_, true, true, .base (.bl b), kit_ty (by decide +kernel), kit_ty (by decide +kernel), rfl⟩
theorem cl_non : Cl K H .non := ⟨_, false, false, .base .non, kit_ty (by decide +kernel), kit_ty (by decide +kernel), rfl⟩
theorem cl_str (z : Str) : Cl K H (.str z) := ⟨_, false, false, .base (.str z), kit_ty (by decide +kernel), kit_ty (by decide +kernel), rfl⟩
theorem kit_list : PySem.W.kitOne K (.type "list") (.type "int") = some false ∧ PySem.W.kitOne K (.type "list") (.type "bool") = some false := ⟨kit_ty (by decide +kernel), kit_ty (by decide +kernel)⟩
theorem kit_tuple : PySem.W.kitOne K (.type "tuple") (.type "int") = some false ∧ PySem.W.kitOne K (.type "tuple") (.type "bool") = some false := ⟨kit_ty (by decide +kernel), kit_ty (by decide +kernel)⟩
theorem kit_dict : PySem.W.kitOne K (.type "dict") (.type "int") = some false ∧ PySem.W.kitOne K (.type "dict") (.type "bool") = some false := ⟨kit_ty (by decide +kernel), kit_ty (by decide +kernel)⟩
theorem cl_lst {a : Addr} {xs : List V} (e : H a = some (.lst xs)) : Cl K H (.ref a) := ⟨_, false, false, .base (.lst e), kit_list.1, kit_list.2, rfl⟩
theorem cl_tup {a : Addr} {xs : List V} (e : H a = some (.tup xs)) : Cl K H (.ref a) := ⟨_, false, false, .base (.tup e), kit_tuple.1, kit_tuple.2, rfl⟩
theorem cl_dK {a : Addr} {kvs : List (Key × V)} (e : H a = some (.dK kvs)) : Cl K H (.ref a) := ⟨_, false, false, .base (.dK e), kit_dict.1, kit_dict.2, rfl⟩
end
/-- given values and defaults in the parameters' order -/
def pick {α : Type} (ix : List (Sum Nat Nat)) (us its : List α) : List α := ix.filterMap fun j => match j with
  | .inl i => us[i]?
  | .inr i => its[i]?
theorem pick_vals {vs ds : List V} {us its : List Value} (ix : List (Sum Nat Nat)) (r1 : Vals vs us) (r2 : Vals ds its) : Vals (pick ix vs ds) (pick ix us its) := by
  have one : ∀ {vs : List V} {us : List Value} (i : Nat), Vals vs us → (∃ v u, vs[i]? = some v ∧ us[i]? = some u ∧ RelV v u) ∨ (vs[i]? = none ∧ us[i]? = none) := fun {vs us} i r => by
    cases e : vs[i]? with
    | none => exact .inr ⟨rfl, r.none_of e⟩
    | some v =>
      obtain ⟨u, h1, h2⟩ := r.get e
      exact .inl ⟨v, u, rfl, h1, h2⟩
  induction ix with
  | nil => exact .nil
  | cons j ix ih =>
    unfold pick at ih ⊢
    cases j with
    | inl i =>
      rcases one i r1 with ⟨v, u, h1, h2, h3⟩ | ⟨h1, h2⟩
      · simp only [List.filterMap_cons, h1, h2]
        exact .cons h3 ih
      · simp only [List.filterMap_cons, h1, h2]
        exact ih
    | inr i =>
      rcases one i r2 with ⟨v, u, h1, h2, h3⟩ | ⟨h1, h2⟩
      · simp only [List.filterMap_cons, h1, h2]
        exact .cons h3 ih
      · simp only [List.filterMap_cons, h1, h2]
        exact ih
end L3
namespace L3
open PySem PySem.Spec PyProof.Rows L2
theorem log_of {n : Nat} (h : n < 10 ^ 200) : n.log2 < 1920 := PySem.Flt.log2_lt_of (by decide) (Nat.lt_trans h (by decide +kernel))
def okT (x : Str) : Bool := x.cps.toList.all fun c => decide (c < 16 ^ 8)
end L3
namespace L3
open PySem PySem.Spec PyProof.Rows L2
section
variable {K : PySem.W.Frag} {a : Addr} {xs : List V} {g : TG} {tt : TT} {te : TE} {vs : List Nat} {σ : L2.St} {H1 : Hp} {D : Addr} {Qd : Hp → Prop}
theorem small_len {n : Nat} (h : n ≤ 100000) : n < sizeLine := Nat.lt_of_le_of_lt h (by rw [sizeLine_eq]; decide)
abbrev Turn (g : TG) (tt : TT) (te : TE) (vs : List Nat) (σ : L2.St) (D : Addr) (x : V) (H : Hp) (N : Hp → Prop) : Prop :=
  g x (wipe σ vs) H fun σ2 H2 => wipe σ2 vs = wipe σ vs ∧ tt σ2 H2 fun b H3 => if b = true then te σ2 H3 fun y H4 => ∃ acc, H4 D = some (.lst acc) ∧ acc.length < sizeLine ∧ N (upd H4 D (.lst (acc ++ [y]))) else N H3
end
end L3
namespace L3
open PySem PySem.Spec PyProof.Rows L2
abbrev turns (most : Int) (n : Nat) : Int := if (if most < (n : Int) then most else (n : Int)) > (1 : Int) then (if most < (n : Int) then most else (n : Int)) else (1 : Int)
theorem turns_lo (most : Int) (n : Nat) (h : 0 < most ∧ most ≤ 63) : -(2 ^ 62) ≤ turns most n := by
  unfold turns
  split <;> split <;> omega
theorem turns_hi (most : Int) (n : Nat) (h : 0 < most ∧ most ≤ 63) : turns most n < 2 ^ 62 := by
  unfold turns
  split <;> split <;> omega
theorem turns_lt {i : Nat} (most : Int) (n : Nat) (h : 0 < most ∧ most ≤ 63) (hi : i < (turns most n).toNat) : i < 1000 := by
  unfold turns at hi
  split at hi <;> split at hi <;> omega
end L3
set_option Elab.async false
set_option linter.all false
set_option maxRecDepth 100000
set_option maxHeartbeats 4000000
namespace L3
open PySem PySem.Spec PyProof.Rows L2 TL
section
variable {J : It} {n : Nat} {G : Hp → Prop} {Y : Nat → Hp → V → Hp → Prop} {g : TG} {tt : TT} {te : TE} {vs : List Nat} {σ : L2.St} {H1 : Hp} {D : Addr} {Qd : Hp → Prop}
theorem range_fm_succ (fm : Nat → Option V) (i : Nat) : (List.range (i + 1)).filterMap fm = match fm i with
    | some y => (List.range i).filterMap fm ++ [y]
    | none => (List.range i).filterMap fm := by
  rw [List.range_succ, List.filterMap_append]
  cases e : fm i with
  | none => simp [e]
  | some y => simp [e]
theorem fm_len (fm : Nat → Option V) (i : Nat) : ((List.range i).filterMap fm).length ≤ i := by
  have := List.length_filterMap_le fm (List.range i)
  rwa [List.length_range] at this
theorem lc_fm (w : L2.Walk J n G Y) (fm : Nat → Option V) (I : Hp → Prop) (hI : ∀ H l, I H → I (upd H D (.lst l))) (i0 : I H1) (hn : n ≤ 100000) (hG : ∀ H, I H → G H)
    (hs : ∀ (i : Nat) (x : V) (H H' : Hp) (acc : List V) (N : Hp → Prop), i < n → I H → H D = some (.lst acc) → acc.length < sizeLine → Y i H x H' →
      (∀ H4, I H4 → H4 D = some (.lst acc) → match fm i with | some y => N (upd H4 D (.lst (acc ++ [y]))) | none => N H4) → Turn g tt te vs σ D x H' N)
    (hd : ∀ H, I H → H D = some (.lst ((List.range n).filterMap fm)) → Qd H) :
    ∃ W : Nat → Nat → Hp → Prop, (∃ m, W 0 m (upd H1 D (.lst []))) ∧ ∀ i m H, W i m H →
      (J.stop i H ∧ Qd H) ∨ (J.go i H ∧ ∃ Nx : Hp → Prop, (∀ H', Nx H' → ∃ m', m' < m ∧ W (i + 1) m' H') ∧ ∀ x H', J.yld i H x H' → Turn g tt te vs σ D x H' Nx) := by
  refine L2.lc_it w (fun i H => I H ∧ i ≤ n ∧ H D = some (.lst ((List.range i).filterMap fm))) ⟨hI _ _ i0, Nat.zero_le _, upd_same⟩ (fun i H _ p => hG H p.1) ?_ (fun H p => hd H p.1 p.2.2)
  rintro i x H H' hi ⟨p1, p2, p3⟩ y
  refine hs i x H H' _ _ hi p1 p3 (small_len (Nat.le_trans (fm_len fm i) (by omega))) y fun H4 i4 d4 => ?_
  have e := range_fm_succ fm i
  cases q : fm i with
  | none =>
    rw [q] at e
    exact ⟨i4, hi, by rw [e]; exact d4⟩
  | some y =>
    rw [q] at e
    exact ⟨hI _ _ i4, hi, by rw [upd_same, e]⟩
end
end L3
set_option Elab.async false
set_option linter.all false
set_option maxRecDepth 100000
set_option maxHeartbeats 4000000
namespace Mo
open PySem TL
def val (l : List Nat) : Nat := NumText.digitsVal l
end Mo
set_option Elab.async false
set_option linter.all false
set_option maxRecDepth 100000
set_option maxHeartbeats 4000000
namespace L3
open PySem PySem.Spec PyProof.Rows L2
def rIsA (K : PySem.W.Frag) (a : Addr) (cls : Value) (d : Option Addr) : List V → Hp → VK → Prop := fun xs H Q => ∃ (D : Addr) (c : V) (cv : Value) (b : Bool), cls = .ref D ∧ d = none ∧ ExcC K D ∧ xs = [.ref a, c] ∧ ClsV c cv ∧ PySem.W.kitOne K (.ref D) cv = some b ∧ Q (.bl b) H
def rIsAT (K : PySem.W.Frag) (a : Addr) (cls : Value) (d : Option Addr) : List V → Hp → VK → Prop := fun xs H Q => ∃ (D tp : Addr) (cs : List V) (us : List Value) (b : Bool), cls = .ref D ∧ d = none ∧ ExcC K D ∧ xs = [.ref a, .ref tp] ∧ H tp = some (.tup cs) ∧ Paired ClsV cs us ∧ PySem.W.kitAny K (.ref D) us = some b ∧ Q (.bl b) H
section
variable {X : Cx} {a : Addr} {cls : Value} {d : Option Addr} {oe : Obj} {pn : List (Addr × Obj)}
theorem suite_inst {pins : List (Addr × Obj)} {s : Shared} {σ : L2.St} {H : Hp} {D : Addr} (I : Inv (X.suite a ((a, oe) :: pn)) pins σ H s) (hz : Zc (.ref D) none oe) (hf : ∃ vs, oe.data = .fields vs) : PySem.W.InstAt s.heap a oe D none := by
  obtain ⟨hget, _⟩ := I.pin (a, oe) (List.mem_append.mpr (.inl List.mem_cons_self))
  obtain ⟨vs, hv⟩ := hf
  obtain ⟨oc, od, oda, osl⟩ := oe
  obtain ⟨h1, h2⟩ := hz
  dsimp only at h1 h2 hv
  subst h1 h2 hv
  exact ⟨hget, rfl, rfl, trivial⟩
theorem call_isA (hz : Zc cls d oe) (hf : ∃ vs, oe.data = .fields vs) : CallR (X.suite a ((a, oe) :: pn)) (.builtin "isinstance") (rIsA X.K a cls d) := by
  intro pins s σ H xs us Q I r h
  obtain ⟨D, c, cv, b, rfl, rfl, C, rfl, k, e, q⟩ := h
  obtain ⟨u1, u2, rfl, r1, r2⟩ := vals2 r
  have e2 := k.eq r2
  subst e2
  cases (show u1 = Value.ref a from r1)
  exact PySem.W.kia_one (PySem.W.handS_kitx_exc C.hg C.hk C.hs C.hd C.ha C.hn C.ht C.hm) I.kIn (suite_inst I hz hf) e (fun z => nomatch z) fun tk => ⟨.bl b, H, I.kept (t' := tk) fun _ _ z => z, rfl, q⟩
theorem call_isAT (hz : Zc cls d oe) (hf : ∃ vs, oe.data = .fields vs) : CallR (X.suite a ((a, oe) :: pn)) (.builtin "isinstance") (rIsAT X.K a cls d) := by
  intro pins s σ H xs us Q I r h
  obtain ⟨D, tp, cs, ws, b, rfl, rfl, C, rfl, hT, k, e, q⟩ := h
  obtain ⟨u1, u2, rfl, r1, r2⟩ := vals2 r
  cases (show u1 = Value.ref a from r1)
  cases (show u2 = Value.ref tp from r2)
  obtain ⟨_, its, rv, o, h1, h2, n, h3⟩ := (show ObjOk X.prog X.w H s.heap tp (.tup cs) from I.hok tp _ hT)
  have e3 := ClsV.all k rv
  subst e3
  obtain ⟨oc, od, dt, sl⟩ := o
  simp only at h2 h3
  subst h2 h3
  exact PySem.W.kia_tup (PySem.W.handS_kitx_exc C.hg C.hk C.hs C.hd C.ha C.hn C.ht C.hm) I.kIn (suite_inst I hz hf) h1 e (fun z => nomatch z) fun tk => ⟨.bl b, H, I.kept (t' := tk) fun _ _ z => z, rfl, q⟩
end
def excCB (x : Str) : Fx := fun K => He.eqO (PySem.W.findIn K (.ref (He.ga K x)) "__getattribute__") (some (some (.builtin "BaseException.__getattribute__"))) && (He.eqO (PySem.W.findIn K (.ref (He.ga K x)) "__getattr__") (some none) && (decide (PySem.W.subIn K (.ref (He.ga K x)) (.type "BaseException") = some true) && (PySem.W.hasDictIn K (He.ga K x) &&
  (He.eqO (PySem.W.findIn K (.ref (He.ga K x)) "__class__") (some (some (.builtin "object.__class__"))) && (He.eqO (PySem.W.specialIn K (.builtin "object.__class__") "__get__") (some (some (.builtin "getset_descriptor.__get__"))) && (decide (PySem.W.takesIn K (.builtin "object.__class__") = some true) && decide (PySem.W.mroIn K (He.ga K x) (.type "object") = some true)))))))
theorem excC_of {x : Str} {K : PySem.W.Frag} (h : excCB x K = true) : ExcC K (He.ga K x) := by
  obtain ⟨h1, h⟩ := He.ba h
  obtain ⟨h2, h⟩ := He.ba h
  obtain ⟨h3, h⟩ := He.ba h
  obtain ⟨h4, h⟩ := He.ba h
  obtain ⟨h5, h⟩ := He.ba h
  obtain ⟨h6, h⟩ := He.ba h
  obtain ⟨h7, h8⟩ := He.ba h
  exact ⟨He.eqO_ok h1, He.eqO_ok h2, of_decide_eq_true h3, h4, He.eqO_ok h5, He.eqO_ok h6, of_decide_eq_true h7, of_decide_eq_true h8⟩
def kitF (x y : Str) (b : Bool) : Fx := fun K => decide (PySem.W.kitOne K (.ref (He.ga K x)) (.ref (He.ga K y)) = some b)
def kitFT (x : Str) (y : String) (b : Bool) : Fx := fun K => decide (PySem.W.kitOne K (.ref (He.ga K x)) (.type y) = some b)
def exm3F (x : Str) (ys : List Str) : Fx := fun K => decide (PySem.W.exmAny K (.ref (He.ga K x)) (ys.map fun y => .ref (He.ga K y)) = some true)
end L3
set_option Elab.async false
set_option linter.all false
set_option maxRecDepth 100000
set_option maxHeartbeats 4000000
namespace L3
open PySem PySem.Spec PyProof.Rows L2
def keyD : Key → PyData
  | .inl i => .int i
  | .inr x => .str x
def zipK : List (Key × V) → List PyData → List (PyData × PyData)
  | (k, _) :: r, d :: ds => (keyD k, d) :: zipK r ds
  | _, _ => []
inductive Dq (K : PySem.W.Frag) (H : Hp) : V → PyData → Prop
  | non : Dq K H .non .none
  | bl (b : Bool) : Dq K H (.bl b) (.bool b)
  | int (i : Int) : Dq K H (.int i) (.int i)
  | str (x : Str) : Dq K H (.str x) (.str x)
  | lst {a : Addr} {xs : List V} {ds : List PyData} : SqL K H a xs → xs.length = ds.length → (∀ (i : Nat) (x : V) (d : PyData), xs[i]? = some x → ds[i]? = some d → Dq K H x d) → Dq K H (.ref a) (.list ds)
  | tup {a : Addr} {xs : List V} {ds : List PyData} : SqT K H a xs → xs.length = ds.length → (∀ (i : Nat) (x : V) (d : PyData), xs[i]? = some x → ds[i]? = some d → Dq K H x d) → Dq K H (.ref a) (.tuple ds)
  | dct {a : Addr} {kvs : List (Key × V)} {ds : List PyData} : H a = some (.dK kvs) → kvs.length = ds.length → (∀ (i : Nat) (k : Key) (x : V) (d : PyData), kvs[i]? = some (k, x) → ds[i]? = some d → Dq K H x d) → Dq K H (.ref a) (.dict (zipK kvs ds))
theorem Dq.mono {K : PySem.W.Frag} {H H' : Hp} {x : V} {d : PyData} (e : Ex H H') (h : Dq K H x d) : Dq K H' x d := by
  induction h with
  | non => exact .non
  | bl b => exact .bl b
  | int i => exact .int i
  | str x => exact .str x
  | lst s l _ ih => exact .lst (ex_sql e s) l ih
  | tup s l _ ih => exact .tup (ex_sqt e s) l ih
  | dct s l _ ih => exact .dct (e _ _ s) l ih
/-- the part that is written holds sys.modules: a dict -/
def SysK (K : PySem.W.Frag) : Prop := ∃ o, K.lookup sysModules = some o ∧ o.cls = .type "dict"
def sysB : Fx := fun K => match K.lookup sysModules with
  | some o => match o.cls with
    | .type n => n == "dict"
    | _ => false
  | none => false
theorem sys_of {K : PySem.W.Frag} (h : sysB K = true) : SysK K := by
  unfold sysB at h
  split at h
  · rename_i o e
    split at h
    · rename_i n c
      have : n = "dict" := by simpa using h
      exact ⟨o, e, by rw [c, this]⟩
    · cases h
  · cases h
end L3
set_option Elab.async false
set_option linter.all false
set_option maxRecDepth 100000
set_option maxHeartbeats 4000000
namespace L3
open PySem PySem.Spec PyProof.Rows L2
section
variable {X : Cx} {k : Nat} {f C : Addr} {ks : List Str} {sp : Sp} {W : WX} {x m : Str} {p pos apos : Pos} {e o : Expr} {es : List Expr} {kws : List Keyword} {ta : TE} {t tk : TA}
/-- o.m(e, ..) of an instance of the class at C -/
def tMt (C : Addr) (m : Str) (sp : Sp) (W : WX) (ta : TE) (t : TA) : TE := fun σ H Q => ta σ H fun x H1 => ∃ a dx fs, x = .ref a ∧ H1 a = some (.ins C dx fs) ∧ fs.lookup m = none ∧ t σ H1 fun vs H2 => sp (x :: vs) H2 Q (WE W σ)
theorem c_meth0 {pl : Sem Bool} (he : PE X o ta) (c : Cls X.K C) (hm : Meth X.K C m f) (F : Fc X.prog X.w X.K X.mg X.base k f [] sp) (hr : Rm k X.A) (hx : Takes X W)
    (ht : eval (.Call (.Attribute o m apos) [] [] pos) X.env = (do
      let ov ← eval o X.env
      standAt apos.atName
      let (f, first) ← holding [ov] (getMethod ov m pl)
      callWith pos f first (backTo pos (starEach [] X.env)) (backToKw pos (keywordEach [] X.env))) := by rfl) :
    PE X (.Call (.Attribute o m apos) [] [] pos) (tMt C m sp W ta tNil) := by
  refine ⟨fun pins s σ H Q I h => ?_⟩
  refine PySem.W.methodCall_KW (pl := pl) (thn (he.run pins s σ H _ I h) fun u s1 ⟨x, H1, I1, rx, a, dx, fs, ex, ea, l, q⟩ => ?_) ht
  subst ex
  obtain rfl : u = Value.ref a := rx
  refine getmeth_ok I1 ea c hm l ?_
  exact PySem.W.callWith_K0 (first := [.ref a]) I1.kIn hm.kp (run_fc (us := [.ref a]) (ws := []) (vs := [.ref a]) F hr hx I1 (.cons rfl .nil) rfl q)
theorem run_mk {pins : List (Addr × Obj)} {σ : L2.St} {H : Hp} {s : Shared} {Q : VK} {us ws : List Value} {vs : List V} (M : Mk X.K C f) (F : Fc X.prog X.w X.K X.mg X.base k f ks sp) (hr : Rm (k + 1) X.A) (hx : Takes X W)
    (I : Inv X pins σ H s) (r : Vals vs (us ++ ws)) (hl : ws.length = ks.length)
    (h : ∀ x dx, H x = none → H dx = none → dx ≠ x → sp (.ref x :: vs) (upd (upd H dx (.own x)) x (.ins C dx [])) (fun v H2 => v = .non ∧ Q (.ref x) H2) (WE W σ)) :
    wpAny (model X.prog X.w) X.A (call (.ref C) us (ks.zip ws)) (EP X pins σ Q) X.xe s := by
  have hq := h (s.heap.objs.size + 1) s.heap.objs.size (I.hok.fresh (Nat.le_succ _)) (I.hok.fresh (Nat.le_refl _)) (Nat.ne_of_lt (Nat.lt_succ_self _))
  have I2 := Inv.made (C := C) I
  refine wpAny_call (make_map (f := f) I.kIn M.makes M.init (beq_iff_eq.mp M.fn) (codeAny_mono (F _ X.stack _ _ (Value.ref (s.heap.objs.size + 1) :: us) ws (V.ref (s.heap.objs.size + 1) :: vs) _ (WE W σ) (hr.make C us (ks.zip ws))
    (I2.env0.make C us (ks.zip ws)) (.cons rfl r) hl hq) fun r s' hq' => ?_))
  cases r with
  | error e => exact passAt hx σ pins _ _ e s' I2 hq'
  | ok fl =>
    cases fl with
    | ret u =>
      obtain ⟨v, H', I3, rv, ev, q3⟩ := I2.after hq'
      subst ev
      exact ⟨rv, ⟨V.ref (s.heap.objs.size + 1), H', I3, rfl, q3⟩⟩
    | next => exact False.elim hq'
    | brk => exact False.elim hq'
    | cont => exact False.elim hq'
def tMk (C : Addr) (sp : Sp) (W : WX) (t : TA) : TE := fun σ H Q => t σ H fun vs H1 => ∀ x dx, H1 x = none → H1 dx = none → dx ≠ x →
  sp (.ref x :: vs) (upd (upd H1 dx (.own x)) x (.ins C dx [])) (fun v H2 => v = .non ∧ Q (.ref x) H2) (WE W σ)
theorem c_make (M : Mk X.K C f) (F : Fc X.prog X.w X.K X.mg X.base k f [] sp) (hr : Rm (k + 1) X.A) (hm : X.mg x = some (.ref C)) (hx : Takes X W)
    (ha : PA X (e :: es) t) (hg : Gl X x := by rfl) (hdb : (x == ("__debug__" : Str)) = false := by decide) (he : starEach (e :: es) X.env = (false, eval e X.env) :: starEach es X.env := by rfl) (hpl : (backTo pos (starEach es X.env)).any (·.1) = false := by rfl) :
    PE X (.Call (.Name x p) (e :: es) [] pos) (tMk C sp W t) := by
  refine ⟨fun pins s σ H Q I h => ?_⟩
  refine wpAny_Call_Name_kw (ld_glob I hg hm ?_ hdb)
  refine PySem.W.callWith_K (h₀ := X.base) I.ok.mod.kin M.kp (thn (ha.run pos pins s σ H _ I h) fun us s1 ⟨vs, H1, I1, r, q⟩ => ⟨I1.kIn, ?_⟩) he hpl
  exact run_mk (ws := []) M F hr hx I1 (by rw [List.append_nil]; exact r) rfl q
end
structure InsC (K : PySem.W.Frag) (C : Addr) : Prop where
  ha : PySem.W.findIn K (.ref C) "__class__" = some (some (.builtin "object.__class__"))
  hn : PySem.W.specialIn K (.builtin "object.__class__") "__get__" = some (some (.builtin "getset_descriptor.__get__"))
  ht : PySem.W.takesIn K (.builtin "object.__class__") = some true
  hm : PySem.W.mroIn K C (.type "object") = some true
def insB (x : Str) : Fx := fun K => He.eqO (PySem.W.findIn K (.ref (He.ga K x)) "__class__") (some (some (.builtin "object.__class__"))) && (He.eqO (PySem.W.specialIn K (.builtin "object.__class__") "__get__") (some (some (.builtin "getset_descriptor.__get__"))) &&
  (decide (PySem.W.takesIn K (.builtin "object.__class__") = some true) && decide (PySem.W.mroIn K (He.ga K x) (.type "object") = some true)))
theorem insC_of {x : Str} {K : PySem.W.Frag} (h : insB x K = true) : InsC K (He.ga K x) := by
  obtain ⟨h1, h⟩ := He.ba h
  obtain ⟨h2, h⟩ := He.ba h
  obtain ⟨h3, h4⟩ := He.ba h
  exact ⟨He.eqO_ok h1, He.eqO_ok h2, of_decide_eq_true h3, of_decide_eq_true h4⟩
theorem ty_ins {K : PySem.W.Frag} {H : Hp} {a C dx : Addr} {fs : List (Str × V)} (i : InsC K C) (c : Cls K C) (e : H a = some (.ins C dx fs)) : TyX K H (.ref a) (.ref C) := .base (.ins e c i.ha i.hn i.ht i.hm)
def kitBF (y : String) (x : Str) (b : Bool) : Fx := fun K => decide (PySem.W.kitOne K (.type y) (.ref (He.ga K x)) = some b)
def exm1F (x y : Str) (b : Bool) : Fx := fun K => decide (PySem.W.exmOne K (.ref (He.ga K x)) (.ref (He.ga K y)) = some b)
section
variable {X : Cx} {K : PySem.W.Frag}
theorem ix_listK (K : PySem.W.Frag) (h : X.K = K := by rfl) : IxR X (rIxL K) := h ▸ ix_list
theorem ix_tupK (K : PySem.W.Frag) (h : X.K = K := by rfl) : IxR X (rIxT K) := h ▸ ix_tup
theorem pe_fldK (K : PySem.W.Frag) {e : Expr} {f : Str} {pos : Pos} {ta : TE} (he : PE X e ta) (hb : attributeBase e f X.env (eval e X.env) = eval e X.env) (h : X.K = K := by rfl) : PE X (.Attribute e f pos) (tFld K ta f) := h ▸ pe_fld he hb
end
end L3
set_option Elab.async false
set_option linter.all false
set_option maxRecDepth 100000
set_option maxHeartbeats 4000000
namespace L3
open PySem PySem.Spec PyProof.Rows L2
section
variable {J : It} {n : Nat} {G : Hp → Prop} {Y : Nat → Hp → V → Hp → Prop} {g : TG} {tt : TT} {te : TE} {vs : List Nat} {σ : L2.St} {H1 : Hp} {D : Addr} {Qd : Hp → Prop}
theorem lc_any (w : L2.Walk J n G Y) (I : Nat → List V → Hp → Prop) (hI : ∀ i acc H l, I i acc H → I i acc (upd H D (.lst l))) (i0 : I 0 [] H1) (hn : n ≤ 100000) (hl : ∀ i acc H, I i acc H → acc.length ≤ i) (hG : ∀ i acc H, I i acc H → G H)
    (hs : ∀ (i : Nat) (x : V) (H H' : Hp) (acc : List V) (N : Hp → Prop), i < n → I i acc H → H D = some (.lst acc) → acc.length < sizeLine → Y i H x H' →
      (∀ y H4, H4 D = some (.lst acc) → I (i + 1) (acc ++ [y]) H4 → N (upd H4 D (.lst (acc ++ [y])))) → (∀ H4, H4 D = some (.lst acc) → I (i + 1) acc H4 → N H4) → Turn g tt te vs σ D x H' N)
    (hd : ∀ acc H, I n acc H → H D = some (.lst acc) → Qd H) :
    ∃ W : Nat → Nat → Hp → Prop, (∃ m, W 0 m (upd H1 D (.lst []))) ∧ ∀ i m H, W i m H →
      (J.stop i H ∧ Qd H) ∨ (J.go i H ∧ ∃ Nx : Hp → Prop, (∀ H', Nx H' → ∃ m', m' < m ∧ W (i + 1) m' H') ∧ ∀ x H', J.yld i H x H' → Turn g tt te vs σ D x H' Nx) := by
  refine L2.lc_it w (fun i H => i ≤ n ∧ ∃ acc, I i acc H ∧ H D = some (.lst acc)) ⟨Nat.zero_le _, [], hI _ _ _ _ i0, upd_same⟩ (fun i H _ p => ?_) ?_ (fun H p => ?_)
  · obtain ⟨_, acc, p, _⟩ := p
    exact hG i acc H p
  · rintro i x H H' hi ⟨p1, acc, p2, p3⟩ y
    have := hl _ _ _ p2
    refine hs i x H H' acc _ hi p2 p3 (small_len (by omega)) y (fun y H4 d4 i4 => ⟨hi, _, hI _ _ _ _ i4, upd_same⟩) fun H4 d4 i4 => ⟨hi, _, i4, d4⟩
  · obtain ⟨_, acc, p, d⟩ := p
    exact hd acc H p d
end
end L3
set_option Elab.async false
set_option linter.all false
set_option maxRecDepth 100000
set_option maxHeartbeats 4000000
namespace L3
open PySem PySem.Spec PyProof.Rows L2
/-- the numbers in order -/
def srt (ns : List Int) : List Int := ns.mergeSort (fun a b => decide (a ≤ b))
section
variable {X : Cx} {K : PySem.W.Frag}
theorem pg_tupK (K : PySem.W.Frag) {es : List Expr} {k : Nat} {t : TGs} {n : Nat} {pos : Pos} (hc : X.calm = true) (h : PGs X es t)
    (hn : (assignEach es X.env).length = n := by rfl) (hst : (assignEach es X.env).findIdx? (·.1) = none := by rfl) (hK : X.K = K := by rfl) : PG X (.Tuple es k pos) (gTup K n t) := hK ▸ pg_tup hc h hn hst
theorem walk_zipT {a b : Addr} {xs ys : List V} {n : Nat} (hn : n = min xs.length ys.length) : L2.Walk (RZ.ItzT K a b) n (fun H => SqT K H a xs ∧ SqT K H b ys) (L2.YPair (fun i => xs[i]?) (fun i => ys[i]?)) := by
  subst hn
  refine ⟨fun i _ hi q => ?_, fun _ q => ⟨xs, ys, q.1, q.2, by omega⟩, fun i H v H' _ q y => ?_⟩
  · have h1 : i < xs.length := by omega
    have h2 : i < ys.length := by omega
    exact ⟨xs, ys, xs[i], ys[i], q.1, q.2, by simp [h1], by simp [h2]⟩
  · obtain ⟨T, x, z, h1, h2, h3, h4, h5⟩ := y
    exact ⟨T, x, z, h1, h2, h3, h4 xs q.1, h5 ys q.2⟩
end
end L3
set_option Elab.async false
set_option linter.all false
set_option maxRecDepth 100000
set_option maxHeartbeats 4000000
namespace L3
open PySem PySem.Spec PyProof.Rows L2
end L3
set_option Elab.async false
set_option linter.all false
set_option maxRecDepth 100000
set_option maxHeartbeats 4000000
namespace L3
open PySem PySem.Spec PyProof.Rows L2
end L3
set_option Elab.async false
set_option linter.all false
set_option maxRecDepth 100000
set_option maxHeartbeats 4000000
namespace L3
open PySem PySem.Spec PyProof.Rows L2
theorem range_fm {α β : Type} (g : α → Option β) : ∀ l : List α, (List.range l.length).filterMap (fun i => l[i]?.bind g) = l.filterMap g
  | [] => rfl
  | x :: l => by
    rw [List.length_cons, List.range_succ_eq_map, List.filterMap_cons, List.filterMap_map, List.filterMap_cons]
    have ih := range_fm g l
    have e : ((fun i => (x :: l)[i]?.bind g) ∘ Nat.succ) = fun i => l[i]?.bind g := funext fun i => by simp
    rw [e, ih]
    simp
section
variable {J : It} {G : Hp → Prop} {g : TG} {tt : TT} {te : TE} {vs : List Nat} {σ : L2.St} {H1 : Hp} {D : Addr} {Qd : Hp → Prop}
/-- a comprehension over xs (told as values by v), each of which gives gm x, or nothing -/
theorem lc_on {α : Type} (xs : List α) (v : α → V) (w : L2.Walk J (xs.map v).length G (L2.YAt (xs.map v))) (gm : α → Option V) (I : Hp → Prop) (hI : ∀ H l, I H → I (upd H D (.lst l))) (i0 : I H1) (hn : xs.length ≤ 100000) (hG : ∀ H, I H → G H)
    (hs : ∀ (i : Nat) (x : α) (H : Hp) (acc : List V) (N : Hp → Prop), xs[i]? = some x → I H → H D = some (.lst acc) → acc.length < sizeLine →
      (∀ H4, I H4 → H4 D = some (.lst acc) → match gm x with | some y => N (upd H4 D (.lst (acc ++ [y]))) | none => N H4) → Turn g tt te vs σ D (v x) H N)
    (hd : ∀ H, I H → H D = some (.lst (xs.filterMap gm)) → Qd H) :
    ∃ W : Nat → Nat → Hp → Prop, (∃ m, W 0 m (upd H1 D (.lst []))) ∧ ∀ i m H, W i m H →
      (J.stop i H ∧ Qd H) ∨ (J.go i H ∧ ∃ Nx : Hp → Prop, (∀ H', Nx H' → ∃ m', m' < m ∧ W (i + 1) m' H') ∧ ∀ x H', J.yld i H x H' → Turn g tt te vs σ D x H' Nx) := by
  refine lc_fm w (fun i => xs[i]?.bind gm) I hI i0 (by rw [List.length_map]; exact hn) hG (fun i x H H' acc N hi p hD la y k => ?_) fun H p hD => hd H p ?_
  · obtain ⟨rfl, hx⟩ := y
    rw [List.getElem?_map] at hx
    obtain ⟨z, hz, rfl⟩ := Option.map_eq_some_iff.mp hx
    refine hs i z _ acc N hz p hD la fun H4 p4 d4 => ?_
    have := k H4 p4 d4
    simp only [hz, Option.bind_some] at this
    exact this
  · rw [hD, List.length_map, range_fm]
end
section
variable {J : It} {G : Hp → Prop} {g : TG} {tb : TS} {D : Ends} {σ : L2.St} {H : Hp}
/-- a for over xs (told as values by v) -/
theorem for_on {α : Type} (xs : List α) (v : α → V) (w : L2.Walk J (xs.map v).length G (L2.YAt (xs.map v))) (Pv : Nat → L2.St → Hp → Prop) (h0 : Pv 0 σ H) (hG : ∀ i σ H, Pv i σ H → G H)
    (hs : ∀ (i : Nat) (x : α) (σ : L2.St) (H : Hp), xs[i]? = some x → Pv i σ H → g (v x) σ H fun σ2 H2 => tb { D with nx := Pv (i + 1), ct := Pv (i + 1), bk := D.nx } σ2 H2) (hd : ∀ σ H, Pv xs.length σ H → D.nx σ H) :
    ∃ W : Nat → Nat → L2.St → Hp → Prop, (∃ m, W 0 m σ H) ∧ ∀ i m σ H, W i m σ H →
      (J.stop i H ∧ D.nx σ H) ∨ (J.go i H ∧ ∃ N : L2.St → Hp → Prop, (∀ σ' H', N σ' H' → ∃ m', m' < m ∧ W (i + 1) m' σ' H') ∧ ∀ x H', J.yld i H x H' → g x σ H' fun σ2 H2 => tb { D with nx := N, ct := N, bk := D.nx } σ2 H2) := by
  refine L2.for_it w Pv h0 (fun i σ H _ p => hG i σ H p) (fun i x σ H H' hi p y => ?_) (fun σ H p => hd σ H (by rw [List.length_map] at p; exact p))
  obtain ⟨rfl, hx⟩ := y
  rw [List.getElem?_map] at hx
  obtain ⟨z, hz, rfl⟩ := Option.map_eq_some_iff.mp hx
  exact hs i z σ _ hz p
end
theorem take_snoc {α : Type} {l : List α} {i : Nat} {x : α} (h : l[i]? = some x) : l.take (i + 1) = l.take i ++ [x] := by
  rw [List.take_add_one, h]
  rfl
/-- what stands elsewhere than at f stays -/
def Oth (f : Addr) (H H' : Hp) : Prop := ∀ b o, b ≠ f → H b = some o → H' b = some o
theorem Oth.refl (f : Addr) (H : Hp) : Oth f H H := fun _ _ _ e => e
theorem Oth.trans {f : Addr} {H H1 H2 : Hp} (a : Oth f H H1) (b : Oth f H1 H2) : Oth f H H2 := fun c o h e => b c o h (a c o h e)
theorem ex_oth {f : Addr} {H H1 : Hp} (a : Ex H H1) : Oth f H H1 := fun c o _ e => a c o e
theorem Oth.upd {f : Addr} {H H1 : Hp} {o : HO} (a : Oth f H H1) : Oth f H (L2.upd H1 f o) := fun b u nb e => by rw [upd_ne nb]; exact a b u nb e
theorem Oth.ex {f : Addr} {H0 H H1 : Hp} (x : Ex H0 H) (n : H0 f = none) (a : Oth f H H1) : Ex H0 H1 := fun b o e => a b o (ne_of_none e n) (x b o e)
theorem sz_le {n : Nat} (h : n ≤ 100000) : n ≤ sizeLine := Nat.le_of_lt (small_len h)
end L3
set_option Elab.async false
set_option linter.all false
set_option maxRecDepth 100000
set_option maxHeartbeats 4000000
namespace L3
open PySem PySem.Spec PyProof.Rows L2
theorem slA_of {K : PySem.W.Frag} {H : Hp} {a : Addr} {xs : List V} {lo hi : Option Int} {Q : VK} (ha : SqT K H a xs) (q : ∀ p H', Ex H H' → SqT K H' p (cutV xs lo hi) → Q (.ref p) H') : rSlA K (.ref a) lo hi H Q := by
  refine ⟨a, xs, rfl, ha, fun hw => q a H (.refl _) ?_, fun _ p np => q p _ (ex_new np) (sq_tup upd_same)⟩
  have e : cutV xs lo hi = xs := by
    unfold cutV
    rw [hw.1, hw.2]
    simp
  rw [e]
  exact ha
theorem tyOf_mono {K : PySem.W.Frag} {H H' : Hp} {x : V} {t : Value} (e : Ex H H') (h : TyOf K H x t) : TyOf K H' x t := by
  cases h with
  | non => exact .non
  | bl x => exact .bl x
  | int i => exact .int i
  | str x => exact .str x
  | flt x => exact .flt x
  | lst h => exact .lst (e _ _ h)
  | frz h => exact .frz (e _ _ h)
  | tup h => exact .tup (e _ _ h)
  | dK h => exact .dK (e _ _ h)
  | dT h => exact .dT (e _ _ h)
  | ins h cl ha hn htk hm => exact .ins (e _ _ h) cl ha hn htk hm
theorem tyX_mono {K : PySem.W.Frag} {H H' : Hp} {x : V} {t : Value} (e : Ex H H') (h : TyX K H x t) : TyX K H' x t := by
  cases h with
  | base h => exact .base (tyOf_mono e h)
  | byt b => exact .byt b
  | set h => exact .set (e _ _ h)
  | kList h c => exact .kList h c
  | kTuple h c => exact .kTuple h c
  | kDict h c => exact .kDict h c
  | fTuple h => exact .fTuple (e _ _ h)
  | fDict h => exact .fDict (e _ _ h)
theorem Cl.mono {K : PySem.W.Frag} {H H' : Hp} {x : V} (c : Cl K H x) (e : Ex H H') : Cl K H' x := let ⟨t, b, d, h1, h2⟩ := c; ⟨t, b, d, tyX_mono e h1, h2⟩
section
variable {J : It} {n : Nat} {G : Hp → Prop} {g : TG} {tt : TT} {te : TE} {vs : List Nat} {σ : L2.St} {H1 : Hp} {D : Addr} {Qd : Hp → Prop}
/-- a comprehension over pairs of xs and ys -/
theorem lc_zip {α β : Type} (xs : List α) (ys : List β) (v : α → V) (w : β → V) (wk : L2.Walk J n G (L2.YPair (fun i => (xs.map v)[i]?) (fun i => (ys.map w)[i]?))) (hn : n = min xs.length ys.length) (gm : α → β → Option V) (I : Hp → Prop) (hI : ∀ H l, I H → I (upd H D (.lst l))) (i0 : I H1) (hz : xs.length ≤ 100000) (hG : ∀ H, I H → G H)
    (hs : ∀ (i : Nat) (a : α) (b : β) (u : Addr) (H : Hp) (acc : List V) (N : Hp → Prop), xs[i]? = some a → ys[i]? = some b → I H → H u = none → H D = some (.lst acc) → acc.length < sizeLine →
      (∀ H4, I H4 → H4 D = some (.lst acc) → match gm a b with | some y => N (upd H4 D (.lst (acc ++ [y]))) | none => N H4) → Turn g tt te vs σ D (.ref u) (upd H u (.tup [v a, w b])) N)
    (hd : ∀ H, I H → H D = some (.lst ((xs.zip ys).filterMap fun p => gm p.1 p.2)) → Qd H) :
    ∃ W : Nat → Nat → Hp → Prop, (∃ m, W 0 m (upd H1 D (.lst []))) ∧ ∀ i m H, W i m H →
      (J.stop i H ∧ Qd H) ∨ (J.go i H ∧ ∃ Nx : Hp → Prop, (∀ H', Nx H' → ∃ m', m' < m ∧ W (i + 1) m' H') ∧ ∀ x H', J.yld i H x H' → Turn g tt te vs σ D x H' Nx) := by
  refine lc_fm wk (fun i => (xs.zip ys)[i]?.bind fun p => gm p.1 p.2) I hI i0 (by omega) hG (fun i x H H' acc N hi p hD la y k => ?_) fun H p hD => hd H p ?_
  · obtain ⟨u, x1, x2, rfl, nu, rfl, g1, g2⟩ := y
    dsimp only at g1 g2
    rw [List.getElem?_map] at g1 g2
    obtain ⟨a, ha, rfl⟩ := Option.map_eq_some_iff.mp g1
    obtain ⟨b, hb, rfl⟩ := Option.map_eq_some_iff.mp g2
    refine hs i a b u H acc N ha hb p nu hD la fun H4 p4 d4 => ?_
    have := k H4 p4 d4
    have ez : (xs.zip ys)[i]? = some (a, b) := by
      rw [List.getElem?_zip_eq_some]
      exact ⟨ha, hb⟩
    simp only [ez, Option.bind_some] at this
    exact this
  · rw [hD, hn, ← List.length_zip, range_fm]
end
end L3
set_option Elab.async false
set_option linter.all false
set_option maxRecDepth 100000
set_option maxHeartbeats 4000000
namespace L3
open PySem PySem.Spec PyProof.Rows L2 PySem.SeqAt PySem.Calls
/-- the class at C is none of the types that decline -/
structure NoBase (K : PySem.W.Frag) (C : Addr) : Prop where
  non : PySem.W.mroIn K C (.type "NoneType") = some false
  bl : PySem.W.mroIn K C (.type "bool") = some false
  int : PySem.W.mroIn K C (.type "int") = some false
  str : PySem.W.mroIn K C (.type "str") = some false
  lst : PySem.W.mroIn K C (.type "list") = some false
  tup : PySem.W.mroIn K C (.type "tuple") = some false
  dct : PySem.W.mroIn K C (.type "dict") = some false
  ne : PySem.W.findIn K (.ref C) "__ne__" = some (some (.builtin "object.__ne__"))
  ob : PySem.W.mroIn K C (.type "object") = some true
def noBaseF (x : Str) : Fx := fun K => (["NoneType", "bool", "int", "str", "list", "tuple", "dict"].all fun T => decide (PySem.W.mroIn K (He.ga K x) (.type T) = some false)) &&
  (He.eqO (PySem.W.findIn K (.ref (He.ga K x)) "__ne__") (some (some (.builtin "object.__ne__"))) && decide (PySem.W.mroIn K (He.ga K x) (.type "object") = some true))
theorem noBase_of {x : Str} {K : PySem.W.Frag} (h : noBaseF x K = true) : NoBase K (He.ga K x) := by
  obtain ⟨h1, h⟩ := He.ba h
  obtain ⟨h2, h3⟩ := He.ba h
  have g : ∀ T ∈ ["NoneType", "bool", "int", "str", "list", "tuple", "dict"], PySem.W.mroIn K (He.ga K x) (.type T) = some false := fun T hT => of_decide_eq_true (List.all_eq_true.mp h1 T hT)
  exact ⟨g _ (by decide), g _ (by decide), g _ (by decide), g _ (by decide), g _ (by decide), g _ (by decide), g _ (by decide), He.eqO_ok h2, of_decide_eq_true h3⟩
end L3
set_option Elab.async false
set_option linter.all false
set_option maxRecDepth 100000
set_option maxHeartbeats 4000000
namespace L3
open PySem PySem.Spec PyProof.Rows L2 PySem.SeqAt PySem.Calls
theorem call_isiK {X : Cx} (K : PySem.W.Frag) (h : X.K = K := by rfl) : CallR X (.builtin "isinstance") (rIsi K) := by
  subst h
  exact call_isi
end L3
set_option Elab.async false
set_option linter.all false
set_option maxRecDepth 100000
set_option maxHeartbeats 4000000
namespace L3
open PySem PySem.Spec PyProof.Rows L2 PySem.SeqAt PySem.Calls
section
variable {X : Cx} {e : Expr} {t1 t2 : TE}
def tOrE (t1 t2 : TE) : TE := fun σ H Q => t1 σ H Q ∨ t2 σ H Q
/-- one reading or the other -/
theorem pe_orE (h1 : PE X e t1) (h2 : PE X e t2) : PE X e (tOrE t1 t2) := ⟨fun pins s σ H Q I h => h.elim (h1.run pins s σ H Q I) (h2.run pins s σ H Q I)⟩
end
/-- a promise that is asked for nothing -/
theorem fc_no {P : Program} {w : World} {K : PySem.W.Frag} {mg : Str → Option Value} {base : Heap} {k : Nat} {f : Addr} {ks : List Str} {sp : Sp} (h : ∀ vs H Q E, ¬ sp vs H Q E) : Fc P w K mg base k f ks sp := fun _ _ _ _ _ _ _ _ _ _ _ _ _ z => absurd z (h _ _ _ _)
end L3
set_option Elab.async false
set_option linter.all false
set_option maxRecDepth 100000
set_option maxHeartbeats 4000000
namespace L3
open PySem PySem.Spec PyProof.Rows L2 PySem.SeqAt PySem.Calls
end L3
set_option Elab.async false
set_option linter.all false
set_option maxRecDepth 100000
set_option maxHeartbeats 4000000
namespace L3
open PySem PySem.Spec PyProof.Rows L2
end L3
set_option Elab.async false
set_option linter.all false
set_option maxRecDepth 100000
set_option maxHeartbeats 4000000
namespace L3
open PySem PySem.Spec PyProof.Rows L2
structure FbN (P : Program) (w : World) (K : PySem.W.Frag) (mg : Str → Option Value) (base : Heap) (k : Nat) (f : Addr) (fd : FuncData) (ps : List Str) (sp : Sp) : Prop where
  len : ∀ vs H Q E, sp vs H Q E → vs.length = ps.length
  run : ∀ (A : Around) (outer : List Env) (s : Shared) (H : Hp) (args : Args) (us : List Value) (vs : List V) (Q : VK) (E : XK), Rm k A → Env0 P w K mg base A outer s H → BindsTo s fd args (ps.zip us) → Vals vs us → sp vs H Q E →
    codeAny (model P w) A (.call (.ref f) args) (CR (L2N.CX P w) outer P w H s Q E) s
section
variable {P : Program} {w : World} {K : PySem.W.Frag} {mg : Str → Option Value} {base : Heap} {x qual : Str} {params : Arguments} {body : List Stmt} {scope : Scope} {dvs : List V} {kws : List (Str × V)} {f : Addr} {fd : FuncData} {k : Nat} {ps N : List Str} {sp : Sp}
theorem FbN.mono {j : Nat} (F : FbN P w K mg base j f fd ps sp) (h : j ≤ k) : FbN P w K mg base k f fd ps sp := ⟨F.len, fun A outer s H args us vs Q E hr => F.run A outer s H args us vs Q E (hr.mono h)⟩
theorem FbN.imp {sp' : Sp} (F : FbN P w K mg base k f fd ps sp) (h : ∀ vs H Q E, sp' vs H Q E → sp vs H Q E) : FbN P w K mg base k f fd ps sp' :=
  ⟨fun vs H Q E q => F.len vs H Q E (h _ _ _ _ q), fun A outer s H args us vs Q E hr he hb hv hs => F.run A outer s H args us vs Q E hr he hb hv (h _ _ _ _ hs)⟩
def FcN (P : Program) (w : World) (K : PySem.W.Frag) (mg : Str → Option Value) (base : Heap) (k : Nat) (f : Addr) (ks : List Str) (sp : Sp) : Prop :=
  ∀ (A : Around) (outer : List Env) (s : Shared) (H : Hp) (us ws : List Value) (vs : List V) (Q : VK) (E : XK), Rm k A → Env0 P w K mg base A outer s H → Vals vs (us ++ ws) → ws.length = ks.length → sp vs H Q E →
    codeAny (model P w) A (.call (.ref f) ⟨us, ks.zip ws⟩) (CR (L2N.CX P w) outer P w H s Q E) s
theorem FcN.mono {j : Nat} {ks : List Str} (F : FcN P w K mg base j f ks sp) (h : j ≤ k) : FcN P w K mg base k f ks sp := fun A outer s H us ws vs Q E hr => F A outer s H us ws vs Q E (hr.mono h)
theorem FcN.imp {sp' : Sp} {ks : List Str} (F : FcN P w K mg base k f ks sp) (h : ∀ vs H Q E, sp' vs H Q E → sp vs H Q E) : FcN P w K mg base k f ks sp' :=
  fun A outer s H us ws vs Q E hr he hv hl hs => F A outer s H us ws vs Q E hr he hv hl (h _ _ _ _ hs)
/-- every parameter is given by place -/
theorem FbN.all (F : FbN P w K mg base k f fd ps sp) (hb : Binds K fd ps []) : FcN P w K mg base k f [] sp := fun A outer s H us ws vs Q E hr e0 r hl h => by
  cases ws with
  | cons w ws => cases hl
  | nil =>
    rw [List.append_nil] at r
    have KX : K.In s.heap := e0.mod.kin.keeps fun b o e => (e0.bs b o e).1
    have l2 : us.length = ps.length := by rw [← r.length]; exact F.len _ _ _ _ h
    have b := hb s us KX (by rw [List.append_nil]; exact l2)
    rw [List.append_nil] at b
    exact F.run A outer s H ⟨us, []⟩ us vs Q E hr e0 b r h
/-- all parameters given, some by name, no defaults -/
theorem FbN.names (D : FunD K x qual params body scope [] kws f fd) (F : FbN P w K mg base k f fd ps sp) (n : Nat) (ks : List Str) (g : {α : Type} → List α → List α)
    (hrel : ∀ {vs : List V} {us : List Value}, Vals vs us → Vals (g vs) (g us))
    (h : ∀ (kV doc pm : Value) (an : Option Addr) (cdv ct : Value) (us ws : List Value), us.length = n → ws.length = ks.length →
      bindArgs (PySem.W.fnOf x qual params body scope .none kV doc pm an cdv ct) ⟨us, ks.zip ws⟩ = pure (ps.zip (g (us ++ ws)))) :
    FcN P w K mg base k f ks (fun vs H Q E => vs.length = n + ks.length ∧ sp (g vs) H Q E) := by
  obtain ⟨oc, od, dV, kV, doc, pm, an, cdv, ct, osl, rfl, lk, hcd, hD, hK⟩ := D.ex
  rcases hD with ⟨_, rfl⟩ | ⟨e, _⟩
  · intro A outer s H us ws vs Q E hr e0 r hl hsp
    have l2 : us.length = n := by
      have e := r.length
      rw [hsp.1, List.length_append, hl] at e
      omega
    exact F.run A outer s H ⟨us, ks.zip ws⟩ (g (us ++ ws)) (g vs) Q E hr e0 (.of_eq (h kV doc pm an cdv ct us ws l2 hl)) (hrel r) hsp.2
  · exact absurd rfl e
end
end L3
namespace L3
open PySem PySem.Spec PyProof.Rows L2 L2H HotX
end L3
set_option Elab.async false
set_option linter.all false
set_option maxRecDepth 100000
set_option maxHeartbeats 4000000
namespace L3
open PySem PySem.Spec PyProof.Rows L2
def wFst (K : PySem.W.Frag) (c : Value) (i : Nat) (ts : Addr → Value → Option Addr → TS) (D : Ends) : WX := fun cls d σ H =>
  PySem.W.exmOne K cls c = some true ∧ ∀ a, H a = none → ts a cls d { nx := fun σ' H' => D.nx (σ'.set i none) H', rt := D.rt, bk := fun σ' H' => D.bk (σ'.set i none) H', ct := fun σ' H' => D.ct (σ'.set i none) H' } (σ.set i (some (.ref a))) H
def tTryFst (K : PySem.W.Frag) (c : Value) (i : Nat) (ts : Addr → Value → Option Addr → TS) (tb : WX → TS) : TS := fun D σ H => tb (wFst K c i ts D) D σ H
section
variable {X : Cx} {x n : Str} {c : Value} {i : Nat} {body suite : List Stmt} {b₀ : Stmt} {np pos pos' : Pos} {tb : WX → TS} {ts : Addr → Value → Option Addr → TS} {hds : List ExceptHandler}
theorem ps_try_fst (hs : X.stack = X.env :: X.outer) (hf : X.env.frame = some X.env.locals) (hN : X.N.Nodup) (hi : X.N[i]? = some n) (hln : X.env.kindOf n = some .local) (hc : Names X x c)
    (hb : ∀ (W : WX) (pn : List (Addr × Obj)) (xe : Value → Shared → Prop), Takes (X.tr pn xe) W → PassesOwn (model X.prog X.w) X.A X.env xe → PSs (X.tr pn xe) body (tb W))
    (hsu : ∀ (a : Addr) (oe : Obj) (cls : Value) (d : Option Addr) (pn : List (Addr × Obj)), Zc cls d oe → (∃ vs, oe.data = .fields vs) → PSs (X.suite a ((a, oe) :: pn)) (b₀ :: suite) (ts a cls d)) :
    PS X (.Try body (.ExceptHandler (some (.Name x np)) (some n) (b₀ :: suite) pos' :: hds) [] [] pos) (tTryFst X.K c i ts tb) := by
  refine ⟨fun pins s σ H D I h => ?_⟩
  have ok := I.ok
  have hfr : X.A.frames = some (X.env :: X.outer) := by rw [ok.frames, hs]
  refine wpAny_Try_except ?_
  refine wpAny_mono ((hb (wFst X.K c i ts D) (X.pn ++ pins) (fun e s₁ => wpAny (model X.prog X.w) X.A (noteFrame e X.env) (fun _ s₂ => wpAny (model X.prog X.w) X.A (setFlight e none) (fun _ s₃ =>
    wpAny (model X.prog X.w) X.A (handleBy e X.env (.ExceptHandler (some (.Name x np)) (some n) (b₀ :: suite) pos' :: hds)) (SP X pins D) X.xe s₃) X.xe s₂) X.xe s₁) (fun u s' xx => ?_) PassesOwn.looking).run [] s σ H D (I.toTry _) h) (fun f s1 hsp => ?_) (fun e s1 he => he)
  · obtain ⟨a, B, sI, pins', σ', H', cls, d, rfl, J', nb, up, sky, na, os, ag, hb1, hyes⟩ := xx
    have J : Inv X pins σ' H' sI := J'.ofTry ok
    have sky' : Sky B (X.env :: X.outer) a (Zc cls d) X.env.locals s'.heap := by rw [← hs]; exact sky
    show wpAny (model X.prog X.w) X.A (noteFrame (.ref a) X.env) _ _ _
    refine Sky.land Zc.steady hfr hf sky' fun h3 fl3 up3 => ?_
    have J3 : Inv X pins σ' H' { s' with heap := h3 } := J.landed nb fl3.1 (up.trans up3) os ag
    obtain ⟨oe3, vs3, he3, hz3, hd3⟩ := fl3.there
    have nfr : a ∉ frs (X.env :: X.outer) := fun hm => by
      obtain ⟨_, o', e', hnf⟩ := fl3.2.2.1.mem hm
      rw [he3] at e'
      cases e'
      exact hnf _ hd3
    have nL : a ≠ X.env.locals := fun z => nfr (List.mem_filterMap.mpr ⟨X.env, List.mem_cons_self, by rw [hf, z]⟩)
    have nF : a ∉ X.fs := fun hm => by
      obtain ⟨e, he, q⟩ := List.mem_filterMap.mp hm
      exact nfr (List.mem_filterMap.mpr ⟨e, List.mem_cons_of_mem _ he, q⟩)
    have S3 := J3.suite he3 hd3 na nL nF
    refine wpAny_handleBy_cons (codeAny_handlers_test ?_) (by intro q; cases q)
    have LT : PySem.W.Looks (model X.prog X.w) h3 (typeOf (.ref a)) cls := fun A Q E s k q => wpAny_typeOf_ref (k _ _ he3) (by rw [hz3.1]; exact q)
    have LM := PySem.W.exm_one (M := model X.prog X.w) (J3.kIn) LT hb1
    have test : ∀ {Q : Value → Shared → Prop} {E : Value → Shared → Prop}, Q c { s' with heap := h3 } → wpAny (model X.prog X.w) (X.A.mark (some (.ref a))) (eval (.Name x np) X.env) Q E { s' with heap := h3 } := fun {Q E} q => by
      obtain ⟨hg, hdbg, hm | ⟨hm, hv, hnn⟩⟩ := hc
      · exact ld_glob (X := X.suite a ((a, oe3) :: (X.pn ++ pins))) S3 hg hm q hdbg
      · exact ld_blt (X := X.suite a ((a, oe3) :: (X.pn ++ pins))) S3 hg hm hv q hnn hdbg
    refine test (LM.here ?_)
    refine codeAny_handlers_suite_as ?_
    refine HandSPX.lands_againZ fl3 fun h4 fl4 up4 => ?_
    have J4 : Inv X pins σ' H' { s' with heap := h4 } := J.landed nb fl4.1 ((up.trans up3).trans up4) os ag
    obtain ⟨oe4, vs4, he4, hz4, hd4⟩ := fl4.there
    have S4 := J4.suite he4 hd4 na nL nF
    refine store_ok (X := X.suite a ((a, oe4) :: (X.pn ++ pins))) (v := .ref a) S4 hN hi (.inl hln) rfl (fun s5 S5 => ?_) (.inr hln)
    refine wpAny_mono ((hsu a oe4 cls d (X.pn ++ pins) hz4 ⟨_, hd4⟩).run [] s5 _ H' _ S5 (hyes a na)) (fun f s6 hsp => ?_) (fun _ _ z => False.elim z)
    have end_ : ∀ {σ6 : L2.St} {H6 : Hp} {Q : Shared → Prop}, Inv (X.suite a ((a, oe4) :: (X.pn ++ pins))) [] σ6 H6 s6 → (∀ s7, Inv X pins (σ6.set i none) H6 s7 → Q s7) →
        wpAny (model X.prog X.w) X.A (do bindName X.env n .none; unbindBehindTheSuite X.env n pos') (fun _ s7 => Q s7) X.xe s6 := fun {σ6 H6 Q} S6 hq => gone_ok (S6.unsuite ok) hN hi hln hq
    cases f with
    | next =>
      obtain ⟨σ6, H6, S6, q6⟩ := hsp
      exact end_ S6 fun s7 J7 => ⟨_, _, J7, q6⟩
    | brk =>
      obtain ⟨σ6, H6, S6, q6⟩ := hsp
      exact end_ S6 fun s7 J7 => ⟨_, _, J7, q6⟩
    | cont =>
      obtain ⟨σ6, H6, S6, q6⟩ := hsp
      exact end_ S6 fun s7 J7 => ⟨_, _, J7, q6⟩
    | ret u =>
      obtain ⟨v6, σ6, H6, S6, r6, q6⟩ := hsp
      exact end_ S6 fun s7 J7 => ⟨_, _, _, J7, r6, q6⟩
  · cases f with
    | next =>
      obtain ⟨σ6, H6, S6, q6⟩ := hsp
      exact wpAny_execs_nil ⟨_, _, S6.ofTry ok, q6⟩
    | brk =>
      obtain ⟨σ6, H6, S6, q6⟩ := hsp
      exact ⟨_, _, S6.ofTry ok, q6⟩
    | cont =>
      obtain ⟨σ6, H6, S6, q6⟩ := hsp
      exact ⟨_, _, S6.ofTry ok, q6⟩
    | ret u =>
      obtain ⟨v6, σ6, H6, S6, r6, q6⟩ := hsp
      exact ⟨_, _, _, S6.ofTry ok, r6, q6⟩
end
/-- o.m(e, ..) of a built-in type, the written part named -/
theorem pe_bmK {X : Cx} (K : PySem.W.Frag) {T id : String} {name : Str} {r : V → List V → Hp → VK → Prop} {o e : Expr} {es : List Expr} {to : TE} {t : TA} {apos cpos : Pos} (pa : PlainAttrs T) (slot : Slot T name id) (hty : typeOf (.builtin id) = pure (.type "method_descriptor")) (hm : MtR X id r) (ho : PE X o to) (ha : PA X (e :: es) t)
    (hK : X.K = K := by rfl)
    (hbase : attributeBase o name X.env (eval o X.env) = eval o X.env := by rfl)
    (hfew : ((backTo cpos (starEach (e :: es) X.env)).all (fun x => !x.1) && (backToKw cpos (keywordEach [] X.env)).all (fun x => x.1.isSome)
      && decide ((e :: es).length + ([] : List Keyword).length + (if ([] : List Keyword).isEmpty then 0 else 1) < 30)) = true := by rfl)
    (hline : (apos.endLine == cpos.line) = true := by rfl) (hs : starEach (e :: es) X.env = (false, eval e X.env) :: starEach es X.env := by rfl) (hplain : (backTo cpos (starEach es X.env)).any (·.1) = false := by rfl) :
    PE X (.Call (.Attribute o name apos) (e :: es) [] cpos) (tBM K T r to t) := hK ▸ pe_bm pa slot hty hm ho ha hbase hfew hline hs hplain
end L3
set_option Elab.async false
set_option linter.all false
set_option maxRecDepth 100000
set_option maxHeartbeats 4000000
namespace L3
open PySem PySem.Spec PyProof.Rows L2
def Stays (H H' : Hp) (x : V) : Prop := ∀ a o, x = .ref a → H a = some o → H' a = some o
theorem tyOf_at {K : PySem.W.Frag} {H H' : Hp} {x : V} {t : Value} (e : Stays H H' x) (h : TyOf K H x t) : TyOf K H' x t := by
  cases h with
  | non => exact .non
  | bl x => exact .bl x
  | int i => exact .int i
  | str x => exact .str x
  | flt x => exact .flt x
  | lst h => exact .lst (e _ _ rfl h)
  | frz h => exact .frz (e _ _ rfl h)
  | tup h => exact .tup (e _ _ rfl h)
  | dK h => exact .dK (e _ _ rfl h)
  | dT h => exact .dT (e _ _ rfl h)
  | ins h cl ha hn htk hm => exact .ins (e _ _ rfl h) cl ha hn htk hm
theorem tyX_at {K : PySem.W.Frag} {H H' : Hp} {x : V} {t : Value} (e : Stays H H' x) (h : TyX K H x t) : TyX K H' x t := by
  cases h with
  | base h => exact .base (tyOf_at e h)
  | byt b => exact .byt b
  | set h => exact .set (e _ _ rfl h)
  | kList h c => exact .kList h c
  | kTuple h c => exact .kTuple h c
  | kDict h c => exact .kDict h c
  | fTuple h => exact .fTuple (e _ _ rfl h)
  | fDict h => exact .fDict (e _ _ rfl h)
theorem Cl.at {K : PySem.W.Frag} {H H' : Hp} {x : V} (c : Cl K H x) (e : Stays H H' x) : Cl K H' x := let ⟨t, b, d, h1, h2⟩ := c; ⟨t, b, d, tyX_at e h1, h2⟩
/-- a thing that is equal to itself, whatever its mark -/
def selfV : V → Bool
  | .non => true
  | .bl _ => true
  | .int _ => true
  | .str _ => true
  | .ref _ => true
  | _ => false
theorem eqAt_self {A : Around} {s : Shared} {x : V} {u v : Value} (h : selfV x = true) (r1 : RelV x u) (r2 : RelV x v) : SeqAt.EqAt A s u v true := by
  cases x with
  | non =>
    cases (show u = Value.none from r1)
    cases (show v = Value.none from r2)
    exact SeqAt.EqAt.same _
  | bl b =>
    cases (show u = Value.bool b from r1)
    cases (show v = Value.bool b from r2)
    exact SeqAt.EqAt.same _
  | int i =>
    obtain ⟨t, rfl⟩ := r1
    obtain ⟨t', rfl⟩ := r2
    have e := SeqAt.EqAt.int_int (A := A) (s := s) i t i t'
    rw [beq_self_eq_true] at e
    exact e
  | str z =>
    obtain ⟨t, rfl⟩ := r1
    obtain ⟨t', rfl⟩ := r2
    have e := SeqAt.EqAt.str_str (A := A) (s := s) z t z t'
    rw [beq_self_eq_true] at e
    exact e
  | ref a =>
    cases (show u = Value.ref a from r1)
    cases (show v = Value.ref a from r2)
    exact SeqAt.EqAt.same _
  | _ => cases h
/-- a != b, two lists of the same things -/
def rNeS (K : PySem.W.Frag) : R2 := fun x y H Q => ∃ (a b : Addr) (xs : List V), x = .ref a ∧ y = .ref b ∧ SqL K H a xs ∧ SqL K H b xs ∧ xs.all selfV = true ∧ Q (.bl false) H
theorem op_neS {X : Cx} (hu : X.A.units + 64 < cLine) : OpR X (compareOp .NotEq) (rNeS X.K) := by
  intro pins s σ H x y v u Q I rx ry h
  obtain ⟨a, b, xs, rfl, rfl, ha, hb, hs, q⟩ := h
  cases (show v = Value.ref a from rx)
  cases (show u = Value.ref b from ry)
  obtain ⟨us, r1, p1, _⟩ := I.list ha
  obtain ⟨ws, r2, p2, _⟩ := I.list hb
  have l1 := r1.length
  have l2 := r2.length
  refine SeqAt.RcNeAt.lists (A := X.A) (e := fun _ => true) p1.isList p2.isList (by simp; omega) (by omega) (fun j h1 h2 => ?_) X.prog X.w _ _ ?_
  · have hj : j < xs.length := by simp at h1; omega
    have e := List.getElem?_eq_getElem hj
    obtain ⟨u1, g1, q1⟩ := r1.get e
    obtain ⟨u2, g2, q2⟩ := r2.get e
    have f1 : us.toArray[j] = u1 := by
      obtain ⟨_, z⟩ := List.getElem?_eq_some_iff.mp g1
      simpa using z
    have f2 : ws.toArray[j] = u2 := by
      obtain ⟨_, z⟩ := List.getElem?_eq_some_iff.mp g2
      simpa using z
    rw [f1, f2]
    exact eqAt_self (List.all_eq_true.mp hs _ (List.getElem_mem hj)) q1 q2
  · rw [show ((List.range us.toArray.size).all fun _ => true) = true from List.all_eq_true.mpr fun _ _ => rfl]
    exact ⟨.bl false, H, I, rfl, q⟩
end L3
set_option Elab.async false
set_option linter.all false
set_option maxRecDepth 100000
set_option maxHeartbeats 4000000
namespace L3
open PySem PySem.Spec PyProof.Rows L2
def obsA (as : List Addr) (xf : List Fx) (fn : List He.DefD) (g : Addr → Option Obj) : He.AlD := obsX xf fn (He.frG g as)
def hookA (as : List Addr) (xf : List Fx) (fn : List He.DefD) : PySem.W.Hook where
  α := He.AlD
  obs := fun s => obsA as xf fn s.heap.get?
  val := fun _ => He.valD fn
  says := fun _ h => ∃ K : PySem.W.Frag, K.In h ∧ SaysX xf fn K
  of := fun _ _ e => ⟨_, He.frG_in, e⟩
  keeps := fun _ _ _ ⟨K, hK, c⟩ k => ⟨K, PySem.W.Frag.In.keeps hK k, c⟩
theorem obsA_eq {as : List Addr} {xf : List Fx} {fn : List He.DefD} {g : Addr → Option Obj} {s : Shared} (h : ∀ a, g a = s.heap.get? a) : obsA as xf fn g = (hookA as xf fn).obs s := by
  have e : g = s.heap.get? := funext h
  rw [e] <;> rfl
end L3
noncomputable section
namespace HandSHeadRun
open PySem PySem.W PySem.Calls PyProof.Rows
abbrev endR (r : OpenRow) (M : Nat) (w : World) (os : OsState) : Option SharedT := endF (stepQ (denQ tabQ) r.prog w) M r.prog w os
/-- what the machine's own looks say behind the run -/
def RunA (r : OpenRow) (q : Program) (M : Nat) (loose : List PySem.Str) (w : World) : Prop :=
  ∀ os : OsState, (endR r M w os).map (fun s => (looksF r.prog (boot_heap w.params) s.abs, seenQ q loose (importedModules r.prog.main.body) (fun s => xlAt q [] s && recOk r.toRowW.records s) s.abs)) = some (true, openGood q loose)
/-- some facts of what stands behind the run -/
def RunB (r : OpenRow) (M : Nat) (fs : SharedT → Bool) (w : World) : Prop := ∀ os : OsState, (endR r M w os).map fs = some true
/-- the defs' own values -/
def RunC (r : OpenRow) (H : Hook) (ob : SharedT → H.α) (M : Nat) (w : World) : Prop := ∀ os : OsState, (endR r M w os).map ob = some (H.val w)
theorem runEq_of {r : OpenRow} {q : Program} {H : Hook} {ob : SharedT → H.α} {M : Nat} {loose : List PySem.Str} {w : World} (a : RunA r q M loose w) (c : RunC r H ob M w) : RunEq r q H ob M loose w := fun os => by
  have h1 := a os
  have h2 := c os
  show (endR r M w os).map _ = _
  cases e : endR r M w os with
  | none =>
    rw [e] at h1
    cases h1
  | some s =>
    rw [e] at h1 h2
    have g1 := Option.some.inj h1
    have g2 := Option.some.inj h2
    show some _ = some _
    rw [← g2]
    have e1 := congrArg Prod.fst g1
    have e2 := congrArg Prod.snd g1
    dsimp only at e1 e2 ⊢
    rw [e1, e2]
end HandSHeadRun
end
namespace L3
open PySem PySem.Spec PyProof.Rows L2 HandSHeadRun
/-- the facts in three parts: two of the Bools, one of the defs -/
theorem runC_of {r : PySem.W.OpenRow} {as : List Addr} {xf xf1 xf2 : List Fx} {fn : List He.DefD} {M : Nat} {w : World} (e : xf = xf1 ++ xf2)
    (a : RunB r M (fun s => xf1.all fun p => p (He.frG (getT s) as)) w) (b : RunB r M (fun s => xf2.all fun p => p (He.frG (getT s) as)) w)
    (c : ∀ os : OsState, (endR r M w os).map (fun s => (fn.all fun d => d.ok (He.frG (getT s) as), fn.map fun d => He.fnW (He.frG (getT s) as) d.at_)) = some (true, fn.map He.DefD.val)) :
    RunC r (hookA as xf fn) (fun s => obsA as xf fn (getT s)) M w := fun os => by
  have h1 := a os
  have h2 := b os
  have h3 := c os
  cases e2 : endR r M w os with
  | none =>
    rw [e2] at h1
    cases h1
  | some s =>
    rw [e2] at h1 h2 h3
    have g1 : (xf1.all fun p => p (He.frG (getT s) as)) = true := Option.some.inj h1
    have g2 : (xf2.all fun p => p (He.frG (getT s) as)) = true := Option.some.inj h2
    have g3 := Option.some.inj h3
    have e3 := congrArg Prod.fst g3
    have e4 := congrArg Prod.snd g3
    dsimp only at e3 e4
    show some (obsA as xf fn (getT s)) = some (He.valD fn)
    unfold obsA obsX He.valD
    rw [e, List.all_append, g1, g2, e3, e4]
    rfl
end L3
set_option Elab.async false
set_option linter.all false
set_option maxRecDepth 100000
set_option maxHeartbeats 4000000
namespace Toy
open PySem PySem.Spec PyProof.Rows L2 L3
def top (i : Nat) : Stmt := PySem.Challenge.pw_shortgoings_k23_what_is_no_short.main.body.getD i (.Pass ⟨0, 0, 0, 0⟩)
abbrev s__wall : Stmt := top 0
abbrev s_NoText_init : Stmt := inClass (top 11) 0
abbrev s_is_whole : Stmt := top 19
abbrev s_is_moment : Stmt := top 20
abbrev s_want_moment : Stmt := top 21
abbrev s_want_below : Stmt := top 22
abbrev s_moment_at : Stmt := top 23
abbrev s_clock_of : Stmt := top 24
abbrev s_show_moment : Stmt := top 25
abbrev s_are_figures : Stmt := top 26
abbrev s_number_of : Stmt := top 27
abbrev s_day_of : Stmt := top 28
abbrev s_read_moment : Stmt := top 29
abbrev s_is_number : Stmt := top 34
abbrev s_Short_moments : Stmt := inClass (top 35) 0
abbrev s_Short_pieces : Stmt := inClass (top 35) 1
abbrev s_Short_begins : Stmt := inClass (top 35) 2
abbrev s_Short_ends : Stmt := inClass (top 35) 3
abbrev s_Short_means_many : Stmt := inClass (top 35) 4
abbrev s_Short_nested : Stmt := inClass (top 35) 5
abbrev s_all_rising : Stmt := top 36
abbrev s_shorts_in : Stmt := top 37
abbrev s_row_moments : Stmt := top 38
abbrev s_row_many : Stmt := top 39
abbrev s_row_text : Stmt := top 40
abbrev s_At_init : Stmt := inClass (top 41) 0
abbrev s_At_moments : Stmt := inClass (top 41) 1
abbrev s_At_pieces : Stmt := inClass (top 41) 2
abbrev s_At_begins : Stmt := inClass (top 41) 3
abbrev s_At_ends : Stmt := inClass (top 41) 4
abbrev s_At_means_many : Stmt := inClass (top 41) 5
abbrev s_At_nested : Stmt := inClass (top 41) 6
abbrev s_At_str : Stmt := inClass (top 41) 7
abbrev s_Over_init : Stmt := inClass (top 42) 0
abbrev s_Over_parts : Stmt := inClass (top 42) 1
abbrev s_Over_moments : Stmt := inClass (top 42) 2
abbrev s_Over_pieces : Stmt := inClass (top 42) 3
abbrev s_Over_begins : Stmt := inClass (top 42) 4
abbrev s_Over_ends : Stmt := inClass (top 42) 5
abbrev s_Over_means_many : Stmt := inClass (top 42) 6
abbrev s_Over_nested : Stmt := inClass (top 42) 7
abbrev s_Over_str : Stmt := inClass (top 42) 8
abbrev s_Spread_init : Stmt := inClass (top 45) 0
abbrev s_Spread_parts : Stmt := inClass (top 45) 1
abbrev s_Spread_moments : Stmt := inClass (top 45) 2
abbrev s_Spread_pieces : Stmt := inClass (top 45) 3
abbrev s_Spread_eq : Stmt := inClass (top 45) 4
abbrev s_Spread_len : Stmt := inClass (top 45) 5
abbrev s_Spread_str : Stmt := inClass (top 45) 6
abbrev s_Spread_repr : Stmt := inClass (top 45) 7
abbrev s_number_in : Stmt := top 46
abbrev s_at_in : Stmt := top 47
abbrev s_item_end : Stmt := top 48
abbrev s_over_in : Stmt := top 49
abbrev s_read_on : Stmt := top 50
abbrev s_read_spread : Stmt := top 51
abbrev s__law_pot : Stmt := top 53
abbrev s__law_draw : Stmt := top 54
abbrev s__law_moments : Stmt := top 55
abbrev s__law_row_moments : Stmt := top 56
abbrev s__law_wide : Stmt := top 57
abbrev s__law_gap : Stmt := top 58
abbrev s__law_short : Stmt := top 59
abbrev s__law_row : Stmt := top 60
abbrev s__law_spread : Stmt := top 61
abbrev s__law_made : Stmt := top 62
abbrev s__law_word_of : Stmt := top 63
abbrev s__law_is_refused : Stmt := top 64
abbrev s__law_odd : Stmt := top 65
abbrev s__law_no_part : Stmt := top 66
abbrev s__law_no_list : Stmt := top 67
abbrev s__law_too_early : Stmt := top 68
abbrev s__law_bent : Stmt := top 69
abbrev s__law_right : Stmt := top 70
abbrev s_law : Stmt := top 71
theorem sc_is_number : FnScope ["thing", "least"] ["thing", "least"] (defScope s_is_number) := ⟨rfl, rfl, rfl, by decide +kernel, rfl, by decide +kernel, by decide +kernel⟩
theorem sc_all_rising : FnScope ["parts", "one", "other"] ["parts"] (defScope s_all_rising) := ⟨rfl, rfl, rfl, by decide +kernel, rfl, by decide +kernel, by decide +kernel⟩
theorem sc_shorts_in : FnScope ["parts", "found", "one"] ["parts"] (defScope s_shorts_in) := ⟨rfl, rfl, rfl, by decide +kernel, rfl, by decide +kernel, by decide +kernel⟩
theorem sc_row_moments : FnScope ["parts", "found", "one"] ["parts"] (defScope s_row_moments) := ⟨rfl, rfl, rfl, by decide +kernel, rfl, by decide +kernel, by decide +kernel⟩
theorem sc_row_many : FnScope ["parts", "one"] ["parts"] (defScope s_row_many) := ⟨rfl, rfl, rfl, by decide +kernel, rfl, by decide +kernel, by decide +kernel⟩
theorem sc_At_init : FnScope ["self", "moment"] ["self", "moment"] (defScope s_At_init) := ⟨rfl, rfl, rfl, by decide +kernel, rfl, by decide +kernel, by decide +kernel⟩
theorem sc_At_moments : FnScope ["self"] ["self"] (defScope s_At_moments) := ⟨rfl, rfl, rfl, by decide +kernel, rfl, by decide +kernel, by decide +kernel⟩
theorem sc_At_begins : FnScope ["self"] ["self"] (defScope s_At_begins) := ⟨rfl, rfl, rfl, by decide +kernel, rfl, by decide +kernel, by decide +kernel⟩
theorem sc_At_ends : FnScope ["self"] ["self"] (defScope s_At_ends) := ⟨rfl, rfl, rfl, by decide +kernel, rfl, by decide +kernel, by decide +kernel⟩
theorem sc_At_means_many : FnScope ["self"] ["self"] (defScope s_At_means_many) := ⟨rfl, rfl, rfl, by decide +kernel, rfl, by decide +kernel, by decide +kernel⟩
theorem sc_At_nested : FnScope ["self"] ["self"] (defScope s_At_nested) := ⟨rfl, rfl, rfl, by decide +kernel, rfl, by decide +kernel, by decide +kernel⟩
theorem sc_Over_init : FnScope ["self", "parts", "many", "step"] ["self", "parts", "many", "step"] (defScope s_Over_init) := ⟨rfl, rfl, rfl, by decide +kernel, rfl, by decide +kernel, by decide +kernel⟩
theorem sc_Over_moments : FnScope ["self", "own", "found", "time", "moment"] ["self"] (defScope s_Over_moments) := ⟨rfl, rfl, rfl, by decide +kernel, rfl, by decide +kernel, by decide +kernel⟩
theorem sc_Over_begins : FnScope ["self"] ["self"] (defScope s_Over_begins) := ⟨rfl, rfl, rfl, by decide +kernel, rfl, by decide +kernel, by decide +kernel⟩
theorem sc_Over_ends : FnScope ["self"] ["self"] (defScope s_Over_ends) := ⟨rfl, rfl, rfl, by decide +kernel, rfl, by decide +kernel, by decide +kernel⟩
theorem sc_Over_means_many : FnScope ["self"] ["self"] (defScope s_Over_means_many) := ⟨rfl, rfl, rfl, by decide +kernel, rfl, by decide +kernel, by decide +kernel⟩
theorem sc_Over_nested : FnScope ["self", "one"] ["self"] (defScope s_Over_nested) := ⟨rfl, rfl, rfl, by decide +kernel, rfl, by decide +kernel, by decide +kernel⟩
theorem sc_Spread_init : FnScope ["self", "parts"] ["self", "parts"] (defScope s_Spread_init) := ⟨rfl, rfl, rfl, by decide +kernel, rfl, by decide +kernel, by decide +kernel⟩
theorem sc__law_pot : FnScope ["_law_script", "_law_k", "_law_cell"] ["_law_script", "_law_k"] (defScope s__law_pot) := ⟨rfl, rfl, rfl, by decide +kernel, rfl, by decide +kernel, by decide +kernel⟩
theorem sc__law_draw : FnScope ["_law_pot_here", "_law_many", "_law_digit"] ["_law_pot_here", "_law_many"] (defScope s__law_draw) := ⟨rfl, rfl, rfl, by decide +kernel, rfl, by decide +kernel, by decide +kernel⟩
theorem sc__law_moments : FnScope ["_law_short_here", "_law_own", "_law_found", "_law_time", "_law_moment"] ["_law_short_here"] (defScope s__law_moments) := ⟨rfl, rfl, rfl, by decide +kernel, rfl, by decide +kernel, by decide +kernel⟩
theorem sc__law_row_moments : FnScope ["_law_row_here", "_law_found", "_law_short_here"] ["_law_row_here"] (defScope s__law_row_moments) := ⟨rfl, rfl, rfl, by decide +kernel, rfl, by decide +kernel, by decide +kernel⟩
theorem sc__law_wide : FnScope ["_law_pot_here", "_law_found", "_law_k"] ["_law_pot_here"] (defScope s__law_wide) := ⟨rfl, rfl, rfl, by decide +kernel, rfl, by decide +kernel, by decide +kernel⟩
theorem sc__law_gap : FnScope ["_law_pot_here", "_law_way"] ["_law_pot_here"] (defScope s__law_gap) := ⟨rfl, rfl, rfl, by decide +kernel, rfl, by decide +kernel, by decide +kernel⟩
theorem sc__law_short : FnScope ["_law_pot_here", "_law_at", "_law_room", "_law_deep", "_law_left", "_law_row_here", "_law_moments_here", "_law_most", "_law_many"] ["_law_pot_here", "_law_at", "_law_room", "_law_deep", "_law_left"] (defScope s__law_short) := ⟨rfl, rfl, rfl, by decide +kernel, rfl, by decide +kernel, by decide +kernel⟩
theorem sc__law_row : FnScope ["_law_pot_here", "_law_at", "_law_room", "_law_deep", "_law_left", "_law_found", "_law_here", "_law_many", "_law_k", "_law_short_here"] ["_law_pot_here", "_law_at", "_law_room", "_law_deep", "_law_left"] (defScope s__law_row) := ⟨rfl, rfl, rfl, by decide +kernel, rfl, by decide +kernel, by decide +kernel⟩
theorem sc__law_made : FnScope ["_law_short_here", "_law_part"] ["_law_short_here"] (defScope s__law_made) := ⟨rfl, rfl, rfl, by decide +kernel, rfl, by decide +kernel, by decide +kernel⟩
theorem sc__law_word_of : FnScope ["_law_kind", "_law_things", "_law_told", "e"] ["_law_kind", "_law_things"] (defScope s__law_word_of) := ⟨rfl, rfl, rfl, by decide +kernel, rfl, by decide +kernel, by decide +kernel⟩
theorem sc__law_is_refused : FnScope ["_law_kind", "_law_things"] ["_law_kind", "_law_things"] (defScope s__law_is_refused) := ⟨rfl, rfl, rfl, by decide +kernel, rfl, by decide +kernel, by decide +kernel⟩
theorem sc__law_odd : FnScope ["_law_pot_here", "_law_odd_here"] ["_law_pot_here"] (defScope s__law_odd) := ⟨rfl, rfl, rfl, by decide +kernel, rfl, by decide +kernel, by decide +kernel⟩
theorem sc__law_no_part : FnScope ["_law_pot_here", "_law_odd_here"] ["_law_pot_here"] (defScope s__law_no_part) := ⟨rfl, rfl, rfl, by decide +kernel, rfl, by decide +kernel, by decide +kernel⟩
theorem sc__law_no_list : FnScope ["_law_pot_here", "_law_odd_here"] ["_law_pot_here"] (defScope s__law_no_list) := ⟨rfl, rfl, rfl, by decide +kernel, rfl, by decide +kernel, by decide +kernel⟩
theorem sc__law_too_early : FnScope ["_law_pot_here", "_law_row_here", "_law_at", "_law_end", "_law_sooner", "_law_early"] ["_law_pot_here", "_law_row_here"] (defScope s__law_too_early) := ⟨rfl, rfl, rfl, by decide +kernel, rfl, by decide +kernel, by decide +kernel⟩
theorem sc__law_bent : FnScope ["_law_pot_here", "_law_way", "_law_parts", "_law_row_here", "_law_many", "_law_step", "_law_span", "_law_at", "_law_odd_here", "_law_short_here"] ["_law_pot_here", "_law_way", "_law_parts", "_law_row_here", "_law_many", "_law_step"] (defScope s__law_bent) := ⟨rfl, rfl, rfl, by decide +kernel, rfl, by decide +kernel, by decide +kernel⟩
theorem sc__law_right : FnScope ["_law_pot_here", "_law_way", "_law_row_here", "_law_moments_here", "_law_parts", "_law_good", "_law_bad", "_law_handed", "_law_short_here"] ["_law_pot_here"] (defScope s__law_right) := ⟨rfl, rfl, rfl, by decide +kernel, rfl, by decide +kernel, by decide +kernel⟩
theorem sc_law : FnScope ["_law_script", "_law_k"] ["_law_script"] (defScope s_law) := ⟨rfl, rfl, rfl, by decide +kernel, rfl, by decide +kernel, by decide +kernel⟩
structure Env (K : PySem.W.Frag) (mg : Str → Option Value) : Prop where
  g__wall : mg "_wall" = some (.ref (He.ga K "_wall"))
  g_is_whole : mg "is_whole" = some (.ref (He.ga K "is_whole"))
  g_is_moment : mg "is_moment" = some (.ref (He.ga K "is_moment"))
  g_want_moment : mg "want_moment" = some (.ref (He.ga K "want_moment"))
  g_want_below : mg "want_below" = some (.ref (He.ga K "want_below"))
  g_moment_at : mg "moment_at" = some (.ref (He.ga K "moment_at"))
  g_clock_of : mg "clock_of" = some (.ref (He.ga K "clock_of"))
  g_show_moment : mg "show_moment" = some (.ref (He.ga K "show_moment"))
  g_are_figures : mg "are_figures" = some (.ref (He.ga K "are_figures"))
  g_number_of : mg "number_of" = some (.ref (He.ga K "number_of"))
  g_day_of : mg "day_of" = some (.ref (He.ga K "day_of"))
  g_read_moment : mg "read_moment" = some (.ref (He.ga K "read_moment"))
  g_is_number : mg "is_number" = some (.ref (He.ga K "is_number"))
  g_all_rising : mg "all_rising" = some (.ref (He.ga K "all_rising"))
  g_shorts_in : mg "shorts_in" = some (.ref (He.ga K "shorts_in"))
  g_row_moments : mg "row_moments" = some (.ref (He.ga K "row_moments"))
  g_row_many : mg "row_many" = some (.ref (He.ga K "row_many"))
  g_row_text : mg "row_text" = some (.ref (He.ga K "row_text"))
  g_number_in : mg "number_in" = some (.ref (He.ga K "number_in"))
  g_at_in : mg "at_in" = some (.ref (He.ga K "at_in"))
  g_item_end : mg "item_end" = some (.ref (He.ga K "item_end"))
  g_over_in : mg "over_in" = some (.ref (He.ga K "over_in"))
  g_read_on : mg "read_on" = some (.ref (He.ga K "read_on"))
  g_read_spread : mg "read_spread" = some (.ref (He.ga K "read_spread"))
  g__law_pot : mg "_law_pot" = some (.ref (He.ga K "_law_pot"))
  g__law_draw : mg "_law_draw" = some (.ref (He.ga K "_law_draw"))
  g__law_moments : mg "_law_moments" = some (.ref (He.ga K "_law_moments"))
  g__law_row_moments : mg "_law_row_moments" = some (.ref (He.ga K "_law_row_moments"))
  g__law_wide : mg "_law_wide" = some (.ref (He.ga K "_law_wide"))
  g__law_gap : mg "_law_gap" = some (.ref (He.ga K "_law_gap"))
  g__law_short : mg "_law_short" = some (.ref (He.ga K "_law_short"))
  g__law_row : mg "_law_row" = some (.ref (He.ga K "_law_row"))
  g__law_spread : mg "_law_spread" = some (.ref (He.ga K "_law_spread"))
  g__law_made : mg "_law_made" = some (.ref (He.ga K "_law_made"))
  g__law_word_of : mg "_law_word_of" = some (.ref (He.ga K "_law_word_of"))
  g__law_is_refused : mg "_law_is_refused" = some (.ref (He.ga K "_law_is_refused"))
  g__law_odd : mg "_law_odd" = some (.ref (He.ga K "_law_odd"))
  g__law_no_part : mg "_law_no_part" = some (.ref (He.ga K "_law_no_part"))
  g__law_no_list : mg "_law_no_list" = some (.ref (He.ga K "_law_no_list"))
  g__law_too_early : mg "_law_too_early" = some (.ref (He.ga K "_law_too_early"))
  g__law_bent : mg "_law_bent" = some (.ref (He.ga K "_law_bent"))
  g__law_right : mg "_law_right" = some (.ref (He.ga K "_law_right"))
  g_law : mg "law" = some (.ref (He.ga K "law"))
  v_HOUR : ∃ u, mg "HOUR" = some u ∧ RelV (.int (60)) u
  v_DAY : ∃ u, mg "DAY" = some u ∧ RelV (.int (1440)) u
  v_HOURS : ∃ u, mg "HOURS" = some u ∧ RelV (.int (24)) u
  v_FIGURES_clock : ∃ u, mg "FIGURES_clock" = some u ∧ RelV (.str "0123456789") u
  v_COLON : ∃ u, mg "COLON" = some u ∧ RelV (.str ":") u
  v_BLANK : ∃ u, mg "BLANK" = some u ∧ RelV (.str " ") u
  v_MOST_MOMENTS : ∃ u, mg "MOST_MOMENTS" = some u ∧ RelV (.int (1440)) u
  v_MOST_NESTED : ∃ u, mg "MOST_NESTED" = some u ∧ RelV (.int (8)) u
  v_NO_PARTS : ∃ u, mg "NO_PARTS" = some u ∧ RelV (.str "-") u
  v_FIGURES_spreads : ∃ u, mg "FIGURES_spreads" = some u ∧ RelV (.str "0123456789") u
  n_ValueError : mg "ValueError" = none
  n_all : mg "all" = none
  n_bool : mg "bool" = none
  n_divmod : mg "divmod" = none
  n_int : mg "int" = none
  n_isinstance : mg "isinstance" = none
  n_len : mg "len" = none
  n_list : mg "list" = none
  n_max : mg "max" = none
  n_min : mg "min" = none
  n_range : mg "range" = none
  n_str : mg "str" = none
  n_sum : mg "sum" = none
  n_tuple : mg "tuple" = none
  n_zip : mg "zip" = none
  g_GoingError : mg "GoingError" = some (.ref (He.ga K "GoingError"))
  x_GoingError : Exo K (He.ga K "GoingError") bmV "ValueError.__new__"
  g_LackError : mg "LackError" = some (.ref (He.ga K "LackError"))
  x_LackError : Exo K (He.ga K "LackError") bmL "LookupError.__new__"
  g_BookError : mg "BookError" = some (.ref (He.ga K "BookError"))
  x_BookError : Exo K (He.ga K "BookError") bmR "RuntimeError.__new__"
  g_NoTime : mg "NoTime" = some (.ref (He.ga K "NoTime"))
  x_NoTime : Exo K (He.ga K "NoTime") bmV "ValueError.__new__"
  g_NoPiece : mg "NoPiece" = some (.ref (He.ga K "NoPiece"))
  x_NoPiece : Exo K (He.ga K "NoPiece") bmV "ValueError.__new__"
  g_NoDays : mg "NoDays" = some (.ref (He.ga K "NoDays"))
  x_NoDays : Exo K (He.ga K "NoDays") bmV "ValueError.__new__"
  g_NoCard : mg "NoCard" = some (.ref (He.ga K "NoCard"))
  x_NoCard : Exo K (He.ga K "NoCard") bmV "ValueError.__new__"
  g_NoName : mg "NoName" = some (.ref (He.ga K "NoName"))
  x_NoName : Exo K (He.ga K "NoName") bmV "ValueError.__new__"
  g_NoRow : mg "NoRow" = some (.ref (He.ga K "NoRow"))
  x_NoRow : Exo K (He.ga K "NoRow") bmV "ValueError.__new__"
  g_NoText : mg "NoText" = some (.ref (He.ga K "NoText"))
  g_Short : mg "Short" = some (.ref (He.ga K "Short"))
  g_At : mg "At" = some (.ref (He.ga K "At"))
  g_Over : mg "Over" = some (.ref (He.ga K "Over"))
  g_Spread : mg "Spread" = some (.ref (He.ga K "Spread"))
  sys : SysK K
  c_Short : Cls K (He.ga K "Short")
  i_Short : InsC K (He.ga K "Short")
  m_Short_moments : Meth K (He.ga K "Short") "moments" (He.ma K (He.ga K "Short") "moments")
  m_Short_pieces : Meth K (He.ga K "Short") "pieces" (He.ma K (He.ga K "Short") "pieces")
  m_Short_begins : Meth K (He.ga K "Short") "begins" (He.ma K (He.ga K "Short") "begins")
  m_Short_ends : Meth K (He.ga K "Short") "ends" (He.ma K (He.ga K "Short") "ends")
  m_Short_means_many : Meth K (He.ga K "Short") "means_many" (He.ma K (He.ga K "Short") "means_many")
  m_Short_nested : Meth K (He.ga K "Short") "nested" (He.ma K (He.ga K "Short") "nested")
  kit_Short_Short : PySem.W.kitOne K (.ref (He.ga K "Short")) (.ref (He.ga K "Short")) = some true
  kit_Short_Spread : PySem.W.kitOne K (.ref (He.ga K "Short")) (.ref (He.ga K "Spread")) = some false
  kit_Short_int : PySem.W.kitOne K (.ref (He.ga K "Short")) (.type "int") = some false
  kit_Short_bool : PySem.W.kitOne K (.ref (He.ga K "Short")) (.type "bool") = some false
  kit_Short_str : PySem.W.kitOne K (.ref (He.ga K "Short")) (.type "str") = some false
  kit_Short_list : PySem.W.kitOne K (.ref (He.ga K "Short")) (.type "list") = some false
  kit_Short_tuple : PySem.W.kitOne K (.ref (He.ga K "Short")) (.type "tuple") = some false
  kit_Short_ValueError : PySem.W.kitOne K (.ref (He.ga K "Short")) (.type "ValueError") = some false
  c_At : Cls K (He.ga K "At")
  i_At : InsC K (He.ga K "At")
  a_At_moment : NoAttr K (He.ga K "At") "moment"
  m_At_init : Meth K (He.ga K "At") "__init__" (He.ma K (He.ga K "At") "__init__")
  m_At_moments : Meth K (He.ga K "At") "moments" (He.ma K (He.ga K "At") "moments")
  m_At_pieces : Meth K (He.ga K "At") "pieces" (He.ma K (He.ga K "At") "pieces")
  m_At_begins : Meth K (He.ga K "At") "begins" (He.ma K (He.ga K "At") "begins")
  m_At_ends : Meth K (He.ga K "At") "ends" (He.ma K (He.ga K "At") "ends")
  m_At_means_many : Meth K (He.ga K "At") "means_many" (He.ma K (He.ga K "At") "means_many")
  m_At_nested : Meth K (He.ga K "At") "nested" (He.ma K (He.ga K "At") "nested")
  m_At_str : Meth K (He.ga K "At") "__str__" (He.ma K (He.ga K "At") "__str__")
  mk_At : Mk K (He.ga K "At") (He.ma K (He.ga K "At") "__init__")
  kit_At_Short : PySem.W.kitOne K (.ref (He.ga K "At")) (.ref (He.ga K "Short")) = some true
  kit_At_Spread : PySem.W.kitOne K (.ref (He.ga K "At")) (.ref (He.ga K "Spread")) = some false
  kit_At_int : PySem.W.kitOne K (.ref (He.ga K "At")) (.type "int") = some false
  kit_At_bool : PySem.W.kitOne K (.ref (He.ga K "At")) (.type "bool") = some false
  kit_At_str : PySem.W.kitOne K (.ref (He.ga K "At")) (.type "str") = some false
  kit_At_list : PySem.W.kitOne K (.ref (He.ga K "At")) (.type "list") = some false
  kit_At_tuple : PySem.W.kitOne K (.ref (He.ga K "At")) (.type "tuple") = some false
  kit_At_ValueError : PySem.W.kitOne K (.ref (He.ga K "At")) (.type "ValueError") = some false
  c_Over : Cls K (He.ga K "Over")
  i_Over : InsC K (He.ga K "Over")
  a_Over_kept : NoAttr K (He.ga K "Over") "kept"
  a_Over_many : NoAttr K (He.ga K "Over") "many"
  a_Over_step : NoAttr K (He.ga K "Over") "step"
  m_Over_init : Meth K (He.ga K "Over") "__init__" (He.ma K (He.ga K "Over") "__init__")
  m_Over_parts : Meth K (He.ga K "Over") "parts" (He.ma K (He.ga K "Over") "parts")
  m_Over_moments : Meth K (He.ga K "Over") "moments" (He.ma K (He.ga K "Over") "moments")
  m_Over_pieces : Meth K (He.ga K "Over") "pieces" (He.ma K (He.ga K "Over") "pieces")
  m_Over_begins : Meth K (He.ga K "Over") "begins" (He.ma K (He.ga K "Over") "begins")
  m_Over_ends : Meth K (He.ga K "Over") "ends" (He.ma K (He.ga K "Over") "ends")
  m_Over_means_many : Meth K (He.ga K "Over") "means_many" (He.ma K (He.ga K "Over") "means_many")
  m_Over_nested : Meth K (He.ga K "Over") "nested" (He.ma K (He.ga K "Over") "nested")
  m_Over_str : Meth K (He.ga K "Over") "__str__" (He.ma K (He.ga K "Over") "__str__")
  mk_Over : Mk K (He.ga K "Over") (He.ma K (He.ga K "Over") "__init__")
  kit_Over_Short : PySem.W.kitOne K (.ref (He.ga K "Over")) (.ref (He.ga K "Short")) = some true
  kit_Over_Spread : PySem.W.kitOne K (.ref (He.ga K "Over")) (.ref (He.ga K "Spread")) = some false
  kit_Over_int : PySem.W.kitOne K (.ref (He.ga K "Over")) (.type "int") = some false
  kit_Over_bool : PySem.W.kitOne K (.ref (He.ga K "Over")) (.type "bool") = some false
  kit_Over_str : PySem.W.kitOne K (.ref (He.ga K "Over")) (.type "str") = some false
  kit_Over_list : PySem.W.kitOne K (.ref (He.ga K "Over")) (.type "list") = some false
  kit_Over_tuple : PySem.W.kitOne K (.ref (He.ga K "Over")) (.type "tuple") = some false
  kit_Over_ValueError : PySem.W.kitOne K (.ref (He.ga K "Over")) (.type "ValueError") = some false
  c_Spread : Cls K (He.ga K "Spread")
  i_Spread : InsC K (He.ga K "Spread")
  a_Spread_kept : NoAttr K (He.ga K "Spread") "kept"
  a_Spread_held : NoAttr K (He.ga K "Spread") "held"
  m_Spread_init : Meth K (He.ga K "Spread") "__init__" (He.ma K (He.ga K "Spread") "__init__")
  m_Spread_parts : Meth K (He.ga K "Spread") "parts" (He.ma K (He.ga K "Spread") "parts")
  m_Spread_moments : Meth K (He.ga K "Spread") "moments" (He.ma K (He.ga K "Spread") "moments")
  m_Spread_pieces : Meth K (He.ga K "Spread") "pieces" (He.ma K (He.ga K "Spread") "pieces")
  m_Spread_eq : Meth K (He.ga K "Spread") "__eq__" (He.ma K (He.ga K "Spread") "__eq__")
  m_Spread_len : Meth K (He.ga K "Spread") "__len__" (He.ma K (He.ga K "Spread") "__len__")
  m_Spread_str : Meth K (He.ga K "Spread") "__str__" (He.ma K (He.ga K "Spread") "__str__")
  m_Spread_repr : Meth K (He.ga K "Spread") "__repr__" (He.ma K (He.ga K "Spread") "__repr__")
  mk_Spread : Mk K (He.ga K "Spread") (He.ma K (He.ga K "Spread") "__init__")
  nb_Spread : NoBase K (He.ga K "Spread")
  kit_Spread_Short : PySem.W.kitOne K (.ref (He.ga K "Spread")) (.ref (He.ga K "Short")) = some false
  kit_Spread_Spread : PySem.W.kitOne K (.ref (He.ga K "Spread")) (.ref (He.ga K "Spread")) = some true
  kit_Spread_int : PySem.W.kitOne K (.ref (He.ga K "Spread")) (.type "int") = some false
  kit_Spread_bool : PySem.W.kitOne K (.ref (He.ga K "Spread")) (.type "bool") = some false
  kit_Spread_str : PySem.W.kitOne K (.ref (He.ga K "Spread")) (.type "str") = some false
  kit_Spread_list : PySem.W.kitOne K (.ref (He.ga K "Spread")) (.type "list") = some false
  kit_Spread_tuple : PySem.W.kitOne K (.ref (He.ga K "Spread")) (.type "tuple") = some false
  kit_Spread_ValueError : PySem.W.kitOne K (.ref (He.ga K "Spread")) (.type "ValueError") = some false
  kit_int_Short : PySem.W.kitOne K (.type "int") (.ref (He.ga K "Short")) = some false
  kit_bool_Short : PySem.W.kitOne K (.type "bool") (.ref (He.ga K "Short")) = some false
  kit_str_Short : PySem.W.kitOne K (.type "str") (.ref (He.ga K "Short")) = some false
  kit_NoneType_Short : PySem.W.kitOne K (.type "NoneType") (.ref (He.ga K "Short")) = some false
  kit_list_Short : PySem.W.kitOne K (.type "list") (.ref (He.ga K "Short")) = some false
  kit_tuple_Short : PySem.W.kitOne K (.type "tuple") (.ref (He.ga K "Short")) = some false
  kit_dict_Short : PySem.W.kitOne K (.type "dict") (.ref (He.ga K "Short")) = some false
  kit_int_Spread : PySem.W.kitOne K (.type "int") (.ref (He.ga K "Spread")) = some false
  kit_bool_Spread : PySem.W.kitOne K (.type "bool") (.ref (He.ga K "Spread")) = some false
  kit_str_Spread : PySem.W.kitOne K (.type "str") (.ref (He.ga K "Spread")) = some false
  kit_NoneType_Spread : PySem.W.kitOne K (.type "NoneType") (.ref (He.ga K "Spread")) = some false
  kit_list_Spread : PySem.W.kitOne K (.type "list") (.ref (He.ga K "Spread")) = some false
  kit_tuple_Spread : PySem.W.kitOne K (.type "tuple") (.ref (He.ga K "Spread")) = some false
  kit_dict_Spread : PySem.W.kitOne K (.type "dict") (.ref (He.ga K "Spread")) = some false
  exm_NoTime_NoTime : PySem.W.exmOne K (.ref (He.ga K "NoTime")) (.ref (He.ga K "NoTime")) = some true
  exm_NoTime_GoingError : PySem.W.exmOne K (.ref (He.ga K "NoTime")) (.ref (He.ga K "GoingError")) = some true
  xc_NoTime : ExcC K (He.ga K "NoTime")
  kit_NoTime_GoingError : PySem.W.kitOne K (.ref (He.ga K "NoTime")) (.ref (He.ga K "GoingError")) = some true
  kit_NoTime_LackError : PySem.W.kitOne K (.ref (He.ga K "NoTime")) (.ref (He.ga K "LackError")) = some false
  kit_NoTime_BookError : PySem.W.kitOne K (.ref (He.ga K "NoTime")) (.ref (He.ga K "BookError")) = some false
  kit_NoTime_NoTime : PySem.W.kitOne K (.ref (He.ga K "NoTime")) (.ref (He.ga K "NoTime")) = some true
  kit_NoTime_NoPiece : PySem.W.kitOne K (.ref (He.ga K "NoTime")) (.ref (He.ga K "NoPiece")) = some false
  kit_NoTime_NoDays : PySem.W.kitOne K (.ref (He.ga K "NoTime")) (.ref (He.ga K "NoDays")) = some false
  kit_NoTime_NoCard : PySem.W.kitOne K (.ref (He.ga K "NoTime")) (.ref (He.ga K "NoCard")) = some false
  kit_NoTime_NoName : PySem.W.kitOne K (.ref (He.ga K "NoTime")) (.ref (He.ga K "NoName")) = some false
  kit_NoTime_NoRow : PySem.W.kitOne K (.ref (He.ga K "NoTime")) (.ref (He.ga K "NoRow")) = some false
  kit_NoTime_NoText : PySem.W.kitOne K (.ref (He.ga K "NoTime")) (.ref (He.ga K "NoText")) = some false
  kit_NoTime_ValueError : PySem.W.kitOne K (.ref (He.ga K "NoTime")) (.type "ValueError") = some true
  kit_NoTime_LookupError : PySem.W.kitOne K (.ref (He.ga K "NoTime")) (.type "LookupError") = some false
  kit_NoTime_RuntimeError : PySem.W.kitOne K (.ref (He.ga K "NoTime")) (.type "RuntimeError") = some false
  exm_NoTime : PySem.W.exmAny K (.ref (He.ga K "NoTime")) [.ref (He.ga K "GoingError"), .ref (He.ga K "LackError"), .ref (He.ga K "BookError")] = some true
  exm_NoPiece_NoTime : PySem.W.exmOne K (.ref (He.ga K "NoPiece")) (.ref (He.ga K "NoTime")) = some false
  exm_NoPiece_GoingError : PySem.W.exmOne K (.ref (He.ga K "NoPiece")) (.ref (He.ga K "GoingError")) = some true
  xc_NoPiece : ExcC K (He.ga K "NoPiece")
  kit_NoPiece_GoingError : PySem.W.kitOne K (.ref (He.ga K "NoPiece")) (.ref (He.ga K "GoingError")) = some true
  kit_NoPiece_LackError : PySem.W.kitOne K (.ref (He.ga K "NoPiece")) (.ref (He.ga K "LackError")) = some false
  kit_NoPiece_BookError : PySem.W.kitOne K (.ref (He.ga K "NoPiece")) (.ref (He.ga K "BookError")) = some false
  kit_NoPiece_NoTime : PySem.W.kitOne K (.ref (He.ga K "NoPiece")) (.ref (He.ga K "NoTime")) = some false
  kit_NoPiece_NoPiece : PySem.W.kitOne K (.ref (He.ga K "NoPiece")) (.ref (He.ga K "NoPiece")) = some true
  kit_NoPiece_NoDays : PySem.W.kitOne K (.ref (He.ga K "NoPiece")) (.ref (He.ga K "NoDays")) = some false
  kit_NoPiece_NoCard : PySem.W.kitOne K (.ref (He.ga K "NoPiece")) (.ref (He.ga K "NoCard")) = some false
  kit_NoPiece_NoName : PySem.W.kitOne K (.ref (He.ga K "NoPiece")) (.ref (He.ga K "NoName")) = some false
  kit_NoPiece_NoRow : PySem.W.kitOne K (.ref (He.ga K "NoPiece")) (.ref (He.ga K "NoRow")) = some false
  kit_NoPiece_NoText : PySem.W.kitOne K (.ref (He.ga K "NoPiece")) (.ref (He.ga K "NoText")) = some false
  kit_NoPiece_ValueError : PySem.W.kitOne K (.ref (He.ga K "NoPiece")) (.type "ValueError") = some true
  kit_NoPiece_LookupError : PySem.W.kitOne K (.ref (He.ga K "NoPiece")) (.type "LookupError") = some false
  kit_NoPiece_RuntimeError : PySem.W.kitOne K (.ref (He.ga K "NoPiece")) (.type "RuntimeError") = some false
  exm_NoPiece : PySem.W.exmAny K (.ref (He.ga K "NoPiece")) [.ref (He.ga K "GoingError"), .ref (He.ga K "LackError"), .ref (He.ga K "BookError")] = some true
  f__wall : ∃ fd, FunD K "_wall" "_wall" (defArgs s__wall) (defBody s__wall) (defScope s__wall) [] [] (He.ga K "_wall") fd
  f_NoText_init : ∃ fd, FunD K "__init__" "NoText.__init__" (defArgs s_NoText_init) (defBody s_NoText_init) (defScope s_NoText_init) [] [] (He.ma K (He.ga K "NoText") "__init__") fd
  f_is_whole : ∃ fd, FunD K "is_whole" "is_whole" (defArgs s_is_whole) (defBody s_is_whole) (defScope s_is_whole) [] [] (He.ga K "is_whole") fd
  f_is_moment : ∃ fd, FunD K "is_moment" "is_moment" (defArgs s_is_moment) (defBody s_is_moment) (defScope s_is_moment) [] [] (He.ga K "is_moment") fd
  f_want_moment : ∃ fd, FunD K "want_moment" "want_moment" (defArgs s_want_moment) (defBody s_want_moment) (defScope s_want_moment) [] [] (He.ga K "want_moment") fd
  f_want_below : ∃ fd, FunD K "want_below" "want_below" (defArgs s_want_below) (defBody s_want_below) (defScope s_want_below) [] [] (He.ga K "want_below") fd
  f_moment_at : ∃ fd, FunD K "moment_at" "moment_at" (defArgs s_moment_at) (defBody s_moment_at) (defScope s_moment_at) [.int (0), .int (0), .int (0)] [] (He.ga K "moment_at") fd
  f_clock_of : ∃ fd, FunD K "clock_of" "clock_of" (defArgs s_clock_of) (defBody s_clock_of) (defScope s_clock_of) [] [] (He.ga K "clock_of") fd
  f_show_moment : ∃ fd, FunD K "show_moment" "show_moment" (defArgs s_show_moment) (defBody s_show_moment) (defScope s_show_moment) [] [] (He.ga K "show_moment") fd
  f_are_figures : ∃ fd, FunD K "are_figures" "are_figures" (defArgs s_are_figures) (defBody s_are_figures) (defScope s_are_figures) [] [] (He.ga K "are_figures") fd
  f_number_of : ∃ fd, FunD K "number_of" "number_of" (defArgs s_number_of) (defBody s_number_of) (defScope s_number_of) [] [] (He.ga K "number_of") fd
  f_day_of : ∃ fd, FunD K "day_of" "day_of" (defArgs s_day_of) (defBody s_day_of) (defScope s_day_of) [] [] (He.ga K "day_of") fd
  f_read_moment : ∃ fd, FunD K "read_moment" "read_moment" (defArgs s_read_moment) (defBody s_read_moment) (defScope s_read_moment) [] [] (He.ga K "read_moment") fd
  f_is_number : ∃ fd, FunD K "is_number" "is_number" (defArgs s_is_number) (defBody s_is_number) (defScope s_is_number) [] [] (He.ga K "is_number") fd
  f_Short_moments : ∃ fd, FunD K "moments" "Short.moments" (defArgs s_Short_moments) (defBody s_Short_moments) (defScope s_Short_moments) [] [] (He.ma K (He.ga K "Short") "moments") fd
  f_Short_pieces : ∃ fd, FunD K "pieces" "Short.pieces" (defArgs s_Short_pieces) (defBody s_Short_pieces) (defScope s_Short_pieces) [] [] (He.ma K (He.ga K "Short") "pieces") fd
  f_Short_begins : ∃ fd, FunD K "begins" "Short.begins" (defArgs s_Short_begins) (defBody s_Short_begins) (defScope s_Short_begins) [] [] (He.ma K (He.ga K "Short") "begins") fd
  f_Short_ends : ∃ fd, FunD K "ends" "Short.ends" (defArgs s_Short_ends) (defBody s_Short_ends) (defScope s_Short_ends) [] [] (He.ma K (He.ga K "Short") "ends") fd
  f_Short_means_many : ∃ fd, FunD K "means_many" "Short.means_many" (defArgs s_Short_means_many) (defBody s_Short_means_many) (defScope s_Short_means_many) [] [] (He.ma K (He.ga K "Short") "means_many") fd
  f_Short_nested : ∃ fd, FunD K "nested" "Short.nested" (defArgs s_Short_nested) (defBody s_Short_nested) (defScope s_Short_nested) [] [] (He.ma K (He.ga K "Short") "nested") fd
  f_all_rising : ∃ fd, FunD K "all_rising" "all_rising" (defArgs s_all_rising) (defBody s_all_rising) (defScope s_all_rising) [] [] (He.ga K "all_rising") fd
  f_shorts_in : ∃ fd, FunD K "shorts_in" "shorts_in" (defArgs s_shorts_in) (defBody s_shorts_in) (defScope s_shorts_in) [] [] (He.ga K "shorts_in") fd
  f_row_moments : ∃ fd, FunD K "row_moments" "row_moments" (defArgs s_row_moments) (defBody s_row_moments) (defScope s_row_moments) [] [] (He.ga K "row_moments") fd
  f_row_many : ∃ fd, FunD K "row_many" "row_many" (defArgs s_row_many) (defBody s_row_many) (defScope s_row_many) [] [] (He.ga K "row_many") fd
  f_row_text : ∃ fd, FunD K "row_text" "row_text" (defArgs s_row_text) (defBody s_row_text) (defScope s_row_text) [] [] (He.ga K "row_text") fd
  f_At_init : ∃ fd, FunD K "__init__" "At.__init__" (defArgs s_At_init) (defBody s_At_init) (defScope s_At_init) [] [] (He.ma K (He.ga K "At") "__init__") fd
  f_At_moments : ∃ fd, FunD K "moments" "At.moments" (defArgs s_At_moments) (defBody s_At_moments) (defScope s_At_moments) [] [] (He.ma K (He.ga K "At") "moments") fd
  f_At_pieces : ∃ fd, FunD K "pieces" "At.pieces" (defArgs s_At_pieces) (defBody s_At_pieces) (defScope s_At_pieces) [] [] (He.ma K (He.ga K "At") "pieces") fd
  f_At_begins : ∃ fd, FunD K "begins" "At.begins" (defArgs s_At_begins) (defBody s_At_begins) (defScope s_At_begins) [] [] (He.ma K (He.ga K "At") "begins") fd
  f_At_ends : ∃ fd, FunD K "ends" "At.ends" (defArgs s_At_ends) (defBody s_At_ends) (defScope s_At_ends) [] [] (He.ma K (He.ga K "At") "ends") fd
  f_At_means_many : ∃ fd, FunD K "means_many" "At.means_many" (defArgs s_At_means_many) (defBody s_At_means_many) (defScope s_At_means_many) [] [] (He.ma K (He.ga K "At") "means_many") fd
  f_At_nested : ∃ fd, FunD K "nested" "At.nested" (defArgs s_At_nested) (defBody s_At_nested) (defScope s_At_nested) [] [] (He.ma K (He.ga K "At") "nested") fd
  f_At_str : ∃ fd, FunD K "__str__" "At.__str__" (defArgs s_At_str) (defBody s_At_str) (defScope s_At_str) [] [] (He.ma K (He.ga K "At") "__str__") fd
  f_Over_init : ∃ fd, FunD K "__init__" "Over.__init__" (defArgs s_Over_init) (defBody s_Over_init) (defScope s_Over_init) [.int (2), .int (60)] [] (He.ma K (He.ga K "Over") "__init__") fd
  f_Over_parts : ∃ fd, FunD K "parts" "Over.parts" (defArgs s_Over_parts) (defBody s_Over_parts) (defScope s_Over_parts) [] [] (He.ma K (He.ga K "Over") "parts") fd
  f_Over_moments : ∃ fd, FunD K "moments" "Over.moments" (defArgs s_Over_moments) (defBody s_Over_moments) (defScope s_Over_moments) [] [] (He.ma K (He.ga K "Over") "moments") fd
  f_Over_pieces : ∃ fd, FunD K "pieces" "Over.pieces" (defArgs s_Over_pieces) (defBody s_Over_pieces) (defScope s_Over_pieces) [] [] (He.ma K (He.ga K "Over") "pieces") fd
  f_Over_begins : ∃ fd, FunD K "begins" "Over.begins" (defArgs s_Over_begins) (defBody s_Over_begins) (defScope s_Over_begins) [] [] (He.ma K (He.ga K "Over") "begins") fd
  f_Over_ends : ∃ fd, FunD K "ends" "Over.ends" (defArgs s_Over_ends) (defBody s_Over_ends) (defScope s_Over_ends) [] [] (He.ma K (He.ga K "Over") "ends") fd
  f_Over_means_many : ∃ fd, FunD K "means_many" "Over.means_many" (defArgs s_Over_means_many) (defBody s_Over_means_many) (defScope s_Over_means_many) [] [] (He.ma K (He.ga K "Over") "means_many") fd
  f_Over_nested : ∃ fd, FunD K "nested" "Over.nested" (defArgs s_Over_nested) (defBody s_Over_nested) (defScope s_Over_nested) [] [] (He.ma K (He.ga K "Over") "nested") fd
  f_Over_str : ∃ fd, FunD K "__str__" "Over.__str__" (defArgs s_Over_str) (defBody s_Over_str) (defScope s_Over_str) [] [] (He.ma K (He.ga K "Over") "__str__") fd
  f_Spread_init : ∃ fd, FunD K "__init__" "Spread.__init__" (defArgs s_Spread_init) (defBody s_Spread_init) (defScope s_Spread_init) [] [] (He.ma K (He.ga K "Spread") "__init__") fd
  f_Spread_parts : ∃ fd, FunD K "parts" "Spread.parts" (defArgs s_Spread_parts) (defBody s_Spread_parts) (defScope s_Spread_parts) [] [] (He.ma K (He.ga K "Spread") "parts") fd
  f_Spread_moments : ∃ fd, FunD K "moments" "Spread.moments" (defArgs s_Spread_moments) (defBody s_Spread_moments) (defScope s_Spread_moments) [] [] (He.ma K (He.ga K "Spread") "moments") fd
  f_Spread_pieces : ∃ fd, FunD K "pieces" "Spread.pieces" (defArgs s_Spread_pieces) (defBody s_Spread_pieces) (defScope s_Spread_pieces) [] [] (He.ma K (He.ga K "Spread") "pieces") fd
  f_Spread_eq : ∃ fd, FunD K "__eq__" "Spread.__eq__" (defArgs s_Spread_eq) (defBody s_Spread_eq) (defScope s_Spread_eq) [] [] (He.ma K (He.ga K "Spread") "__eq__") fd
  f_Spread_len : ∃ fd, FunD K "__len__" "Spread.__len__" (defArgs s_Spread_len) (defBody s_Spread_len) (defScope s_Spread_len) [] [] (He.ma K (He.ga K "Spread") "__len__") fd
  f_Spread_str : ∃ fd, FunD K "__str__" "Spread.__str__" (defArgs s_Spread_str) (defBody s_Spread_str) (defScope s_Spread_str) [] [] (He.ma K (He.ga K "Spread") "__str__") fd
  f_Spread_repr : ∃ fd, FunD K "__repr__" "Spread.__repr__" (defArgs s_Spread_repr) (defBody s_Spread_repr) (defScope s_Spread_repr) [] [] (He.ma K (He.ga K "Spread") "__repr__") fd
  f_number_in : ∃ fd, FunD K "number_in" "number_in" (defArgs s_number_in) (defBody s_number_in) (defScope s_number_in) [] [] (He.ga K "number_in") fd
  f_at_in : ∃ fd, FunD K "at_in" "at_in" (defArgs s_at_in) (defBody s_at_in) (defScope s_at_in) [] [] (He.ga K "at_in") fd
  f_item_end : ∃ fd, FunD K "item_end" "item_end" (defArgs s_item_end) (defBody s_item_end) (defScope s_item_end) [] [] (He.ga K "item_end") fd
  f_over_in : ∃ fd, FunD K "over_in" "over_in" (defArgs s_over_in) (defBody s_over_in) (defScope s_over_in) [] [] (He.ga K "over_in") fd
  f_read_on : ∃ fd, FunD K "read_on" "read_on" (defArgs s_read_on) (defBody s_read_on) (defScope s_read_on) [] [] (He.ga K "read_on") fd
  f_read_spread : ∃ fd, FunD K "read_spread" "read_spread" (defArgs s_read_spread) (defBody s_read_spread) (defScope s_read_spread) [] [] (He.ga K "read_spread") fd
  f__law_pot : ∃ fd, FunD K "_law_pot" "_law_pot" (defArgs s__law_pot) (defBody s__law_pot) (defScope s__law_pot) [] [] (He.ga K "_law_pot") fd
  f__law_draw : ∃ fd, FunD K "_law_draw" "_law_draw" (defArgs s__law_draw) (defBody s__law_draw) (defScope s__law_draw) [] [] (He.ga K "_law_draw") fd
  f__law_moments : ∃ fd, FunD K "_law_moments" "_law_moments" (defArgs s__law_moments) (defBody s__law_moments) (defScope s__law_moments) [] [] (He.ga K "_law_moments") fd
  f__law_row_moments : ∃ fd, FunD K "_law_row_moments" "_law_row_moments" (defArgs s__law_row_moments) (defBody s__law_row_moments) (defScope s__law_row_moments) [] [] (He.ga K "_law_row_moments") fd
  f__law_wide : ∃ fd, FunD K "_law_wide" "_law_wide" (defArgs s__law_wide) (defBody s__law_wide) (defScope s__law_wide) [] [] (He.ga K "_law_wide") fd
  f__law_gap : ∃ fd, FunD K "_law_gap" "_law_gap" (defArgs s__law_gap) (defBody s__law_gap) (defScope s__law_gap) [] [] (He.ga K "_law_gap") fd
  f__law_short : ∃ fd, FunD K "_law_short" "_law_short" (defArgs s__law_short) (defBody s__law_short) (defScope s__law_short) [] [] (He.ga K "_law_short") fd
  f__law_row : ∃ fd, FunD K "_law_row" "_law_row" (defArgs s__law_row) (defBody s__law_row) (defScope s__law_row) [] [] (He.ga K "_law_row") fd
  f__law_spread : ∃ fd, FunD K "_law_spread" "_law_spread" (defArgs s__law_spread) (defBody s__law_spread) (defScope s__law_spread) [] [] (He.ga K "_law_spread") fd
  f__law_made : ∃ fd, FunD K "_law_made" "_law_made" (defArgs s__law_made) (defBody s__law_made) (defScope s__law_made) [] [] (He.ga K "_law_made") fd
  f__law_word_of : ∃ fd, FunD K "_law_word_of" "_law_word_of" (defArgs s__law_word_of) (defBody s__law_word_of) (defScope s__law_word_of) [] [] (He.ga K "_law_word_of") fd
  f__law_is_refused : ∃ fd, FunD K "_law_is_refused" "_law_is_refused" (defArgs s__law_is_refused) (defBody s__law_is_refused) (defScope s__law_is_refused) [] [] (He.ga K "_law_is_refused") fd
  f__law_odd : ∃ fd, FunD K "_law_odd" "_law_odd" (defArgs s__law_odd) (defBody s__law_odd) (defScope s__law_odd) [] [] (He.ga K "_law_odd") fd
  f__law_no_part : ∃ fd, FunD K "_law_no_part" "_law_no_part" (defArgs s__law_no_part) (defBody s__law_no_part) (defScope s__law_no_part) [] [] (He.ga K "_law_no_part") fd
  f__law_no_list : ∃ fd, FunD K "_law_no_list" "_law_no_list" (defArgs s__law_no_list) (defBody s__law_no_list) (defScope s__law_no_list) [] [] (He.ga K "_law_no_list") fd
  f__law_too_early : ∃ fd, FunD K "_law_too_early" "_law_too_early" (defArgs s__law_too_early) (defBody s__law_too_early) (defScope s__law_too_early) [] [] (He.ga K "_law_too_early") fd
  f__law_bent : ∃ fd, FunD K "_law_bent" "_law_bent" (defArgs s__law_bent) (defBody s__law_bent) (defScope s__law_bent) [] [] (He.ga K "_law_bent") fd
  f__law_right : ∃ fd, FunD K "_law_right" "_law_right" (defArgs s__law_right) (defBody s__law_right) (defScope s__law_right) [] [] (He.ga K "_law_right") fd
  f_law : ∃ fd, FunD K "law" "law" (defArgs s_law) (defBody s_law) (defScope s_law) [] [] (He.ga K "law") fd
end Toy
namespace Toy
open PySem PySem.Spec PyProof.Rows L2 L3
theorem Env.k_is_number {K : PySem.W.Frag} {mg : Str → Option Value} (T : Env K mg) : PySem.W.keepIn K (.ref (He.ga K "is_number")) = true := let ⟨_, F⟩ := T.f_is_number; F.kp
theorem Env.k_all_rising {K : PySem.W.Frag} {mg : Str → Option Value} (T : Env K mg) : PySem.W.keepIn K (.ref (He.ga K "all_rising")) = true := let ⟨_, F⟩ := T.f_all_rising; F.kp
theorem Env.k_shorts_in {K : PySem.W.Frag} {mg : Str → Option Value} (T : Env K mg) : PySem.W.keepIn K (.ref (He.ga K "shorts_in")) = true := let ⟨_, F⟩ := T.f_shorts_in; F.kp
theorem Env.k_row_moments {K : PySem.W.Frag} {mg : Str → Option Value} (T : Env K mg) : PySem.W.keepIn K (.ref (He.ga K "row_moments")) = true := let ⟨_, F⟩ := T.f_row_moments; F.kp
theorem Env.k_row_many {K : PySem.W.Frag} {mg : Str → Option Value} (T : Env K mg) : PySem.W.keepIn K (.ref (He.ga K "row_many")) = true := let ⟨_, F⟩ := T.f_row_many; F.kp
theorem Env.k_read_spread {K : PySem.W.Frag} {mg : Str → Option Value} (T : Env K mg) : PySem.W.keepIn K (.ref (He.ga K "read_spread")) = true := let ⟨_, F⟩ := T.f_read_spread; F.kp
theorem Env.k__law_pot {K : PySem.W.Frag} {mg : Str → Option Value} (T : Env K mg) : PySem.W.keepIn K (.ref (He.ga K "_law_pot")) = true := let ⟨_, F⟩ := T.f__law_pot; F.kp
theorem Env.k__law_draw {K : PySem.W.Frag} {mg : Str → Option Value} (T : Env K mg) : PySem.W.keepIn K (.ref (He.ga K "_law_draw")) = true := let ⟨_, F⟩ := T.f__law_draw; F.kp
theorem Env.k__law_moments {K : PySem.W.Frag} {mg : Str → Option Value} (T : Env K mg) : PySem.W.keepIn K (.ref (He.ga K "_law_moments")) = true := let ⟨_, F⟩ := T.f__law_moments; F.kp
theorem Env.k__law_row_moments {K : PySem.W.Frag} {mg : Str → Option Value} (T : Env K mg) : PySem.W.keepIn K (.ref (He.ga K "_law_row_moments")) = true := let ⟨_, F⟩ := T.f__law_row_moments; F.kp
theorem Env.k__law_wide {K : PySem.W.Frag} {mg : Str → Option Value} (T : Env K mg) : PySem.W.keepIn K (.ref (He.ga K "_law_wide")) = true := let ⟨_, F⟩ := T.f__law_wide; F.kp
theorem Env.k__law_gap {K : PySem.W.Frag} {mg : Str → Option Value} (T : Env K mg) : PySem.W.keepIn K (.ref (He.ga K "_law_gap")) = true := let ⟨_, F⟩ := T.f__law_gap; F.kp
theorem Env.k__law_short {K : PySem.W.Frag} {mg : Str → Option Value} (T : Env K mg) : PySem.W.keepIn K (.ref (He.ga K "_law_short")) = true := let ⟨_, F⟩ := T.f__law_short; F.kp
theorem Env.k__law_row {K : PySem.W.Frag} {mg : Str → Option Value} (T : Env K mg) : PySem.W.keepIn K (.ref (He.ga K "_law_row")) = true := let ⟨_, F⟩ := T.f__law_row; F.kp
theorem Env.k__law_made {K : PySem.W.Frag} {mg : Str → Option Value} (T : Env K mg) : PySem.W.keepIn K (.ref (He.ga K "_law_made")) = true := let ⟨_, F⟩ := T.f__law_made; F.kp
theorem Env.k__law_word_of {K : PySem.W.Frag} {mg : Str → Option Value} (T : Env K mg) : PySem.W.keepIn K (.ref (He.ga K "_law_word_of")) = true := let ⟨_, F⟩ := T.f__law_word_of; F.kp
theorem Env.k__law_is_refused {K : PySem.W.Frag} {mg : Str → Option Value} (T : Env K mg) : PySem.W.keepIn K (.ref (He.ga K "_law_is_refused")) = true := let ⟨_, F⟩ := T.f__law_is_refused; F.kp
theorem Env.k__law_odd {K : PySem.W.Frag} {mg : Str → Option Value} (T : Env K mg) : PySem.W.keepIn K (.ref (He.ga K "_law_odd")) = true := let ⟨_, F⟩ := T.f__law_odd; F.kp
theorem Env.k__law_no_part {K : PySem.W.Frag} {mg : Str → Option Value} (T : Env K mg) : PySem.W.keepIn K (.ref (He.ga K "_law_no_part")) = true := let ⟨_, F⟩ := T.f__law_no_part; F.kp
theorem Env.k__law_no_list {K : PySem.W.Frag} {mg : Str → Option Value} (T : Env K mg) : PySem.W.keepIn K (.ref (He.ga K "_law_no_list")) = true := let ⟨_, F⟩ := T.f__law_no_list; F.kp
theorem Env.k__law_too_early {K : PySem.W.Frag} {mg : Str → Option Value} (T : Env K mg) : PySem.W.keepIn K (.ref (He.ga K "_law_too_early")) = true := let ⟨_, F⟩ := T.f__law_too_early; F.kp
theorem Env.k__law_bent {K : PySem.W.Frag} {mg : Str → Option Value} (T : Env K mg) : PySem.W.keepIn K (.ref (He.ga K "_law_bent")) = true := let ⟨_, F⟩ := T.f__law_bent; F.kp
theorem Env.k__law_right {K : PySem.W.Frag} {mg : Str → Option Value} (T : Env K mg) : PySem.W.keepIn K (.ref (He.ga K "_law_right")) = true := let ⟨_, F⟩ := T.f__law_right; F.kp
section
def isN (n : Int) (x : V) : Bool := isW x && (match x with | .int i => decide (n ≤ i) | _ => false)
def sp_is_number (K : PySem.W.Frag) : Sp := fun vs H Q _ => ∃ x n, vs = [x, .int n] ∧ Cl K H x ∧ Q (.bl (isN n x)) H
theorem fb_is_number {P : Program} {w : World} {K : PySem.W.Frag} {mg : Str → Option Value} {base : Heap} (T : Env K mg) : ∃ fd, FunD K "is_number" "is_number" (defArgs s_is_number) (defBody s_is_number) (defScope s_is_number) [] [] (He.ga K "is_number") fd ∧ Fb P w K mg base 1 (He.ga K "is_number") fd ["thing", "least"] (sp_is_number K) := by
  obtain ⟨fd, F⟩ := T.f_is_number
  refine ⟨fd, F, fb_of F sc_is_number (fun vs H Q E h => ?_) (fun cdv A outer s H vs Q E hr h => ?_)⟩
  · obtain ⟨x, n, rfl, _⟩ := h
    rfl
  · obtain ⟨x, n, rfl, ⟨t, b, c, ty, h1, h2, e⟩, q⟩ := h
    refine ⟨_, (pss_one (ps_ret (pe_and (pe_callB call_isi (by rfl) T.n_isinstance (by decide +kernel) (pa_cons (pv 0) (pa_cons (pe_bltn (v := .ty "int") (by rfl) T.n_int (by decide +kernel) rfl) pa_nil))) (pe_and (pe_not (pe_callB call_isi (by rfl) T.n_isinstance (by decide +kernel) (pa_cons (pv 0) (pa_cons (pe_bltn (v := .ty "bool") (by rfl) T.n_bool (by decide +kernel) rfl) pa_nil)))) (pe_one (pe_cmpR op_ge (pv 0) (pv 1) (nomark _))))))), ?_⟩
    refine ⟨x, rfl, x, .ty "int", t, _, b, rfl, .ty "int", ty, h1, b, rfl, ?_⟩
    unfold isN at q
    rw [e] at q
    cases b with
    | false => exact q
    | true =>
      refine ⟨x, rfl, x, .ty "bool", t, _, c, rfl, .ty "bool", ty, h2, c, rfl, ?_⟩
      cases c with
      | true => exact ⟨false, rfl, q⟩
      | false =>
        refine ⟨true, rfl, iteT ?_⟩
        cases x with
        | int i => exact ⟨_, rfl, _, rfl, i, n, rfl, rfl, q⟩
        | _ => cases e
theorem ok_is_number {P : Program} {w : World} {K : PySem.W.Frag} {mg : Str → Option Value} {base : Heap} (T : Env K mg) : Fc P w K mg base 1 (He.ga K "is_number") [] (sp_is_number K ) := by
  obtain ⟨fd, D, F⟩ := fb_is_number T
  exact F.all (D.bindsN fun _ _ _ _ _ _ us hl => match us, hl with | [_, _], _ => rfl)
end
section
theorem ex_made {H : Hp} {x dx : Addr} {o1 o2 : HO} (nx : H x = none) (nd : H dx = none) (ne : dx ≠ x) : Ex H (upd (upd H dx o1) x o2) := fun b o e => by
  rw [upd_ne (ne_of_none e nx), upd_ne (ne_of_none e nd)]
  exact e
end
section
abbrev AtC (K : PySem.W.Frag) : Addr := He.ga K "At"
/-- at a an At of a moment -/
def AtAt (K : PySem.W.Frag) (H : Hp) (a : Addr) (n : Nat) : Prop := ∃ dx, H a = some (.ins (AtC K) dx [("moment", .int (n : Nat))])
theorem AtAt.mono {K : PySem.W.Frag} {H H' : Hp} {a : Addr} {n : Nat} (h : AtAt K H a n) (e : Ex H H') : AtAt K H' a n := let ⟨dx, h⟩ := h; ⟨dx, e _ _ h⟩
def sp_At_init (K : PySem.W.Frag) : Sp := fun vs H Q E => ∃ a dx x, vs = [.ref a, x] ∧ H a = some (.ins (AtC K) dx []) ∧ Cl K H x ∧ (isN 0 x = true → Q .non (upd H a (.ins (AtC K) dx [("moment", x)]))) ∧ (isN 0 x = false → E (.ref (He.ga K "NoPiece")) none H)
theorem fb_At_init {P : Program} {w : World} {K : PySem.W.Frag} {mg : Str → Option Value} {base : Heap} (T : Env K mg) : ∃ fd, FunD K "__init__" "At.__init__" (defArgs s_At_init) (defBody s_At_init) (defScope s_At_init) [] [] (He.ma K (He.ga K "At") "__init__") fd ∧ Fb P w K mg base 2 (He.ma K (He.ga K "At") "__init__") fd ["self", "moment"] (sp_At_init K) := by
  obtain ⟨fd, F⟩ := T.f_At_init
  refine ⟨fd, F, fb_of F sc_At_init (fun vs H Q E h => ?_) (fun cdv A outer s H vs Q E hr h => ?_)⟩
  · obtain ⟨a, dx, x, rfl, _⟩ := h
    rfl
  · obtain ⟨a, dx, x, rfl, ha, cl, q, qe⟩ := h
    refine ⟨_, (pss_cons (ps_if (pt_not (pt_val (c_call (ok_is_number T) (hr.mono (by decide)) T.g_is_number T.k_is_number (takes_of rfl rfl rfl rfl) (pa_cons (pv 1) (pa_cons pe_int pa_nil)))))
      (pss_one (ps_raise rfl (takes_of rfl rfl rfl rfl) (pmk_own PySem.F.excBase_ValueError T.x_NoPiece.x T.g_NoPiece T.x_NoPiece.kp (raises_own T.x_NoPiece.sub T.x_NoPiece.ty) rfl)))
      pss_nil)
      (pss_one (ps_fld (pv 0) (pv 1) rfl))), ?_⟩
    refine ⟨_, rfl, x, 0, rfl, cl, _, rfl, ?_⟩
    cases e : isN 0 x with
    | false => exact qe e
    | true =>
      refine iteF ?_
      refine ⟨_, rfl, _, rfl, a, _, dx, [], rfl, ha, T.c_At, T.a_At_moment, by decide, ?_⟩
      exact q e
theorem isN_nat {n m : Nat} (h : m ≤ n) : isN (m : Int) (.int (n : Nat)) = true := by
  show (true && decide ((m : Int) ≤ (n : Int))) = true
  rw [decide_eq_true (by omega)]
  rfl
theorem at_new {K : PySem.W.Frag} {H : Hp} {x dx : Addr} {n : Nat} {Q : VK} {E : XK} (nx : H x = none) (nd : H dx = none) (ne : dx ≠ x) (q : ∀ H', Ex H H' → AtAt K H' x n → Q .non H') :
    sp_At_init K [.ref x, .int (n : Nat)] (upd (upd H dx (.own x)) x (.ins (AtC K) dx [])) Q E := by
  refine ⟨x, dx, _, rfl, upd_same, cl_int _, fun _ => q _ ?_ ⟨dx, upd_same⟩, fun z => ?_⟩
  · exact ex_mut (ex_made nx nd ne) nx
  · rw [show isN 0 (.int (n : Nat)) = true from isN_nat (m := 0) (Nat.zero_le _)] at z
    cases z
theorem ok_At_init {P : Program} {w : World} {K : PySem.W.Frag} {mg : Str → Option Value} {base : Heap} (T : Env K mg) : Fc P w K mg base 2 (He.ma K (He.ga K "At") "__init__") [] (sp_At_init K ) := by
  obtain ⟨fd, D, F⟩ := fb_At_init T
  exact F.all (D.bindsN fun _ _ _ _ _ _ us hl => match us, hl with | [_, _], _ => rfl)
end
section
def sp_At_ends (K : PySem.W.Frag) : Sp := fun vs H Q _ => ∃ a n, vs = [.ref a] ∧ AtAt K H a n ∧ Q (.int (n : Nat)) H
theorem fb_At_ends {P : Program} {w : World} {K : PySem.W.Frag} {mg : Str → Option Value} {base : Heap} (T : Env K mg) : ∃ fd, FunD K "ends" "At.ends" (defArgs s_At_ends) (defBody s_At_ends) (defScope s_At_ends) [] [] (He.ma K (He.ga K "At") "ends") fd ∧ Fb P w K mg base 1 (He.ma K (He.ga K "At") "ends") fd ["self"] (sp_At_ends K) := by
  obtain ⟨fd, F⟩ := T.f_At_ends
  refine ⟨fd, F, fb_of F sc_At_ends (fun vs H Q E h => ?_) (fun cdv A outer s H vs Q E hr h => ?_)⟩
  · obtain ⟨a, n, rfl, _⟩ := h
    rfl
  · obtain ⟨a, n, rfl, ⟨dx, ha⟩, q⟩ := h
    refine ⟨_, (pss_one (ps_ret (pe_fld (pv 0) (by rfl)))), ?_⟩
    exact ⟨_, rfl, a, _, dx, _, _, rfl, ha, T.c_At, T.a_At_moment, rfl, q⟩
theorem ok_At_ends {P : Program} {w : World} {K : PySem.W.Frag} {mg : Str → Option Value} {base : Heap} (T : Env K mg) : Fc P w K mg base 1 (He.ma K (He.ga K "At") "ends") [] (sp_At_ends K ) := by
  obtain ⟨fd, D, F⟩ := fb_At_ends T
  exact F.all (D.bindsN fun _ _ _ _ _ _ us hl => match us, hl with | [_], _ => rfl)
end
section
/-- whole numbers as values -/
def natV (ns : List Nat) : List V := ns.map fun n : Nat => V.int (n : Int)
theorem natV_len (ns : List Nat) : (natV ns).length = ns.length := by
  unfold natV
  rw [List.length_map]
theorem cut1 (xs : List V) : cutV xs (some 1) none = xs.drop 1 := by
  unfold cutV
  rw [HT.sIx_none, show (some (1 : Int)) = some ((1 : Nat) : Int) from rfl, HT.sIx_nat]
  cases xs with
  | nil => rfl
  | cons x r =>
    rw [show min 1 (x :: r).length = 1 by simp]
    exact List.take_of_length_le (by simp)
end
section
/-- the moments of ns, over and over -/
def overN (ns : List Nat) (m s : Nat) : List Nat := (List.range m).flatMap fun t => ns.map fun n => n + t * s
theorem overN_len (ns : List Nat) (m s : Nat) : (overN ns m s).length = m * ns.length := by
  unfold overN
  induction m with
  | zero => simp
  | succ m ih =>
    rw [List.range_succ, List.flatMap_append, List.length_append, ih]
    simp
    rw [Nat.add_mul, Nat.one_mul]
theorem overN_succ (ns : List Nat) (m s : Nat) : overN ns (m + 1) s = overN ns m s ++ ns.map fun n => n + m * s := by
  unfold overN
  rw [List.range_succ, List.flatMap_append]
  simp
/-- shorts -/
inductive Tr where
  | at (n : Nat)
  | ov (ps : List Tr) (m s : Nat)
mutual
def Tr.moms : Tr → List Nat
  | .at n => [n]
  | .ov ps m s => overN (momsL ps) m s
def momsL : List Tr → List Nat
  | [] => []
  | t :: ts => t.moms ++ momsL ts
end
mutual
def Tr.nest : Tr → Nat
  | .at _ => 0
  | .ov ps _ _ => 1 + nestL ps
def nestL : List Tr → Nat
  | [] => 0
  | t :: ts => max t.nest (nestL ts)
end
mutual
def Tr.pcs : Tr → Nat
  | .at _ => 1
  | .ov ps _ _ => 1 + pcsL ps
def pcsL : List Tr → Nat
  | [] => 0
  | t :: ts => t.pcs + pcsL ts
end
theorem pcsL_app (a b : List Tr) : pcsL (a ++ b) = pcsL a + pcsL b := by
  induction a with
  | nil => simp [pcsL]
  | cons t r ih => simp [pcsL, ih, Nat.add_assoc]
theorem momsL_app (a b : List Tr) : momsL (a ++ b) = momsL a ++ momsL b := by
  induction a with
  | nil => simp [momsL]
  | cons t r ih => simp [momsL, ih]
theorem nestL_mem {t : Tr} : ∀ {ts : List Tr}, t ∈ ts → t.nest ≤ nestL ts
  | x :: r, h => by
    show _ ≤ max x.nest (nestL r)
    rcases List.mem_cons.mp h with rfl | h
    · exact Nat.le_max_left _ _
    · exact Nat.le_trans (nestL_mem h) (Nat.le_max_right _ _)
theorem nestL_max : ∀ {ts : List Tr}, ts ≠ [] → ∃ t ∈ ts, t.nest = nestL ts
  | [t], _ => ⟨t, List.mem_cons_self, by show _ = max t.nest 0; omega⟩
  | t :: x :: r, _ => by
    obtain ⟨y, hy, e⟩ := nestL_max (ts := x :: r) (by simp)
    have e2 : nestL (t :: x :: r) = max t.nest (nestL (x :: r)) := by simp [nestL]
    by_cases c : nestL (x :: r) ≤ t.nest
    · exact ⟨t, List.mem_cons_self, by omega⟩
    · exact ⟨y, List.mem_cons_of_mem _ hy, by omega⟩
theorem momsL_take {ts : List Tr} {i : Nat} {t : Tr} (h : ts[i]? = some t) : momsL (ts.take (i + 1)) = momsL (ts.take i) ++ t.moms := by
  rw [take_snoc h, momsL_app]
  simp [momsL]
theorem momsL_take_len (ts : List Tr) (i : Nat) : (momsL (ts.take i)).length ≤ (momsL ts).length := by
  conv => rhs; rw [← List.take_append_drop i ts, momsL_app, List.length_append]
  omega
mutual
/-- a short that may be made -/
def Tr.ok : Tr → Prop
  | .at _ => True
  | .ov ps m s => ps ≠ [] ∧ 2 ≤ m ∧ 1 ≤ s ∧ m * (momsL ps).length ≤ 1440 ∧ (momsL ps).getLastD 0 < s + (momsL ps).headD 0 ∧ (momsL ps).Pairwise (· < ·) ∧ okL_ ps
def okL_ : List Tr → Prop
  | [] => True
  | t :: ts => t.ok ∧ okL_ ts
end
theorem okL_mem {t : Tr} : ∀ {ts : List Tr}, okL_ ts → t ∈ ts → t.ok
  | x :: r, h, hm => by
    unfold okL_ at h
    rcases List.mem_cons.mp hm with rfl | hm
    · exact h.1
    · exact okL_mem h.2 hm
theorem pos_moms (t : Tr) (h : t.ok) : 1 ≤ t.moms.length := by
  match t, h with
  | .at n, _ =>
    unfold Tr.moms
    exact Nat.le_refl _
  | .ov (x :: r) m s, h =>
    unfold Tr.ok at h
    obtain ⟨_, h2, _, _, _, _, h7⟩ := h
    unfold Tr.moms
    rw [overN_len]
    have hx : 1 ≤ x.moms.length := pos_moms x (by unfold okL_ at h7; exact h7.1)
    have : 1 ≤ (momsL (x :: r)).length := by
      unfold momsL
      rw [List.length_append]
      omega
    exact Nat.le_trans (by decide) (Nat.mul_le_mul h2 this)
  | .ov [] m s, h =>
    unfold Tr.ok at h
    exact absurd rfl h.1
theorem len_moms : ∀ {ts : List Tr}, okL_ ts → ts.length ≤ (momsL ts).length
  | [], _ => Nat.le_refl _
  | t :: ts, h => by
    unfold okL_ at h
    have h1 := pos_moms t h.1
    have h2 := len_moms h.2
    unfold momsL
    rw [List.length_cons, List.length_append]
    omega
theorem ov_facts {ps : List Tr} {m s : Nat} (h : (Tr.ov ps m s).ok) : ps ≠ [] ∧ 2 ≤ m ∧ m ≤ 1440 ∧ m * (momsL ps).length ≤ 1440 ∧ (momsL ps).length ≤ 1440 ∧ ps.length ≤ 1440 ∧ okL_ ps := by
  unfold Tr.ok at h
  obtain ⟨h1, h2, h3, h4, _, _, h7⟩ := h
  have h8 := len_moms h7
  have h9 : 0 < ps.length := List.length_pos_iff.mpr h1
  have h10 : m ≤ m * (momsL ps).length := Nat.le_mul_of_pos_right m (by omega)
  have h11 : (momsL ps).length ≤ m * (momsL ps).length := Nat.le_mul_of_pos_left _ (by omega)
  exact ⟨h1, h2, by omega, h4, by omega, by omega, h7⟩
theorem momsL_few : ∀ {ts : List Tr}, okL_ ts → (momsL ts).length ≤ 1440 * ts.length
  | [], _ => by
    unfold momsL
    exact Nat.zero_le _
  | t :: r, h => by
    have h1 : t.moms.length ≤ 1440 := by
      have h2 := h
      unfold okL_ at h2
      cases t with
      | «at» n =>
        unfold Tr.moms
        show 1 ≤ 1440
        decide
      | ov ps m s =>
        have h3 := h2.1
        unfold Tr.ok at h3
        unfold Tr.moms
        rw [overN_len]
        exact h3.2.2.2.1
    have h2 : (momsL r).length ≤ 1440 * r.length := momsL_few (by unfold okL_ at h; exact h.2)
    unfold momsL
    rw [List.length_append, List.length_cons]
    omega
theorem ov_nest {ps : List Tr} {m s d : Nat} (h : (Tr.ov ps m s).nest ≤ d + 1) : nestL ps ≤ d := by
  unfold Tr.nest at h
  omega
theorem headD_app {a b : List Nat} (h : a ≠ []) : (a ++ b).headD 0 = a.headD 0 := by
  cases a with
  | nil => exact absurd rfl h
  | cons x r => rfl
theorem lastD_app {a b : List Nat} (h : b ≠ []) : (a ++ b).getLastD 0 = b.getLastD 0 := by
  rw [List.getLastD_eq_getLast?, List.getLastD_eq_getLast?, List.getLast?_append]
  cases hb : b.getLast? with
  | none => exact absurd (List.getLast?_eq_none_iff.mp hb) h
  | some x => rfl
theorem lastD_map {a : List Nat} (k : Nat) (h : a ≠ []) : (a.map fun n => n + k).getLastD 0 = a.getLastD 0 + k := by
  rw [List.getLastD_eq_getLast?, List.getLastD_eq_getLast?, List.getLast?_map]
  cases hb : a.getLast? with
  | none => exact absurd (List.getLast?_eq_none_iff.mp hb) h
  | some x => rfl
theorem overN_head {ns : List Nat} {s : Nat} (h : ns ≠ []) : ∀ m, 1 ≤ m → (overN ns m s).headD 0 = ns.headD 0
  | 1, _ => by
    rw [overN_succ]
    show ([] ++ ns.map fun n => n + 0 * s).headD 0 = _
    cases ns with
    | nil => exact absurd rfl h
    | cons x r => simp
  | m + 2, _ => by
    have ih := overN_head (s := s) h (m + 1) (by omega)
    have ne : overN ns (m + 1) s ≠ [] := fun z => by
      have := congrArg List.length z
      rw [overN_len] at this
      have p : 0 < ns.length := List.length_pos_iff.mpr h
      have : (m + 1) * ns.length = 0 := this
      have := Nat.mul_pos (show 0 < m + 1 by omega) p
      omega
    rw [overN_succ, headD_app ne, ih]
theorem overN_last {ns : List Nat} {m s : Nat} (h : ns ≠ []) (hm : 1 ≤ m) : (overN ns m s).getLastD 0 = ns.getLastD 0 + (m - 1) * s := by
  obtain ⟨k, rfl⟩ : ∃ k, m = k + 1 := ⟨m - 1, by omega⟩
  rw [overN_succ, lastD_app (by intro z; exact h (List.map_eq_nil_iff.mp z)), lastD_map _ h]
  rfl
theorem moms_ne {t : Tr} (h : t.ok) : t.moms ≠ [] := fun z => by
  have := pos_moms t h
  rw [z] at this
  exact absurd this (by decide)
theorem momsL_ne {ts : List Tr} (h : okL_ ts) (h0 : ts ≠ []) : momsL ts ≠ [] := fun z => by
  have h1 := len_moms h
  rw [z] at h1
  exact h0 (List.length_eq_zero_iff.mp (Nat.le_zero.mp h1))
theorem momsL_head {t : Tr} {ts : List Tr} (h : okL_ (t :: ts)) : (momsL (t :: ts)).headD 0 = t.moms.headD 0 := by
  have e : momsL (t :: ts) = t.moms ++ momsL ts := by simp [momsL]
  rw [e, headD_app (moms_ne (okL_mem h List.mem_cons_self))]
theorem momsL_last {t : Tr} {ts : List Tr} (h : okL_ (ts ++ [t])) : (momsL (ts ++ [t])).getLastD 0 = t.moms.getLastD 0 := by
  have ht : t.ok := okL_mem h (List.mem_append_right _ List.mem_cons_self)
  have e : momsL [t] = t.moms := by simp [momsL]
  rw [momsL_app, e, lastD_app (moms_ne ht)]
theorem last_ref {as : List Addr} (h : as ≠ []) : ∃ b, as[as.length - 1]? = some b ∧ atI (as.map V.ref) (-1) = some (.ref b) := by
  refine ⟨as.getLast h, ?_, ?_⟩
  · have p : 0 < as.length := List.length_pos_iff.mpr h
    rw [List.getLast_eq_getElem, List.getElem?_eq_getElem (by omega)]
  · have e := (List.dropLast_concat_getLast h).symm
    generalize as.getLast h = z at e
    rw [e, List.map_append]
    exact atI_last _ _
/-- rising: each behind the end of the one ahead -/
def risB (ts : List Tr) : Bool := (ts.zip (ts.drop 1)).all fun p => decide (p.1.moms.getLastD 0 < p.2.moms.headD 0)
theorem all_repT (n : Nat) : (List.replicate n true).all id = true := by
  induction n with
  | zero => rfl
  | succ n ih =>
    rw [List.replicate_succ, List.all_cons, ih]
    rfl
theorem le_lastD {ns : List Nat} (h : ns.Pairwise (· < ·)) : ∀ n ∈ ns, n ≤ ns.getLastD 0 := fun n hn => by
  have h0 : ns ≠ [] := fun z => by rw [z] at hn; cases hn
  have e : ns.getLastD 0 = ns.getLast h0 := by
    rw [List.getLastD_eq_getLast?, List.getLast?_eq_some_getLast h0]
    rfl
  rw [e]
  have ec := (List.dropLast_concat_getLast h0).symm
  generalize ns.getLast h0 = z at ec
  rw [ec] at hn h
  rcases List.mem_append.mp hn with hm | hm
  · exact Nat.le_of_lt ((List.pairwise_append.mp h).2.2 n hm z (List.mem_singleton.mpr rfl))
  · rw [List.mem_singleton.mp hm]
    exact Nat.le_refl _
theorem headD_le {ns : List Nat} (h : ns.Pairwise (· < ·)) : ∀ n ∈ ns, ns.headD 0 ≤ n := fun n hn => by
  cases ns with
  | nil => cases hn
  | cons x r =>
    show x ≤ n
    rcases List.mem_cons.mp hn with rfl | hm
    · exact Nat.le_refl _
    · exact Nat.le_of_lt ((List.pairwise_cons.mp h).1 n hm)
theorem mem_overN {ns : List Nat} {m s x : Nat} : x ∈ overN ns m s ↔ ∃ t n, t < m ∧ n ∈ ns ∧ x = n + t * s := by
  unfold overN
  rw [List.mem_flatMap]
  constructor
  · rintro ⟨t, ht, h⟩
    obtain ⟨n, hn, rfl⟩ := List.mem_map.mp h
    exact ⟨t, n, List.mem_range.mp ht, hn, rfl⟩
  · rintro ⟨t, n, ht, hn, rfl⟩
    exact ⟨t, List.mem_range.mpr ht, List.mem_map.mpr ⟨n, hn, rfl⟩⟩
theorem overN_sorted {ns : List Nat} {s : Nat} (h : ns.Pairwise (· < ·)) (hs : ns.getLastD 0 < s + ns.headD 0) : ∀ m, (overN ns m s).Pairwise (· < ·)
  | 0 => .nil
  | m + 1 => by
    rw [overN_succ]
    refine List.pairwise_append.mpr ⟨overN_sorted h hs m, List.pairwise_map.mpr (h.imp fun {a b} z => by omega), fun a ha b hb => ?_⟩
    obtain ⟨t, n, ht, hn, rfl⟩ := mem_overN.mp ha
    obtain ⟨k, hk, rfl⟩ := List.mem_map.mp hb
    have h1 := le_lastD h n hn
    have h2 := headD_le h k hk
    have h3 : t * s + s ≤ m * s := by
      have := Nat.mul_le_mul_right s (show t + 1 ≤ m by omega)
      rw [Nat.add_mul, Nat.one_mul] at this
      exact this
    omega
mutual
theorem sorted_moms : ∀ {t : Tr}, t.ok → t.moms.Pairwise (· < ·)
  | .at n, _ => by
    unfold Tr.moms
    exact List.pairwise_singleton _ _
  | .ov ps m s, h => by
    unfold Tr.ok at h
    obtain ⟨_, _, _, _, h5, h6, _⟩ := h
    unfold Tr.moms
    exact overN_sorted h6 h5 m
end
theorem risB_cons {t x : Tr} {r : List Tr} (h : risB (t :: x :: r) = true) : t.moms.getLastD 0 < x.moms.headD 0 ∧ risB (x :: r) = true := by
  have h : (decide (t.moms.getLastD 0 < x.moms.headD 0) && risB (x :: r)) = true := h
  obtain ⟨h1, h2⟩ := Bool.and_eq_true_iff.mp h
  exact ⟨of_decide_eq_true h1, h2⟩
theorem ris_sorted : ∀ {ts : List Tr}, okL_ ts → risB ts = true → (momsL ts).Pairwise (· < ·)
  | [], _, _ => by
    unfold momsL
    exact .nil
  | [t], h, _ => by
    have e : momsL [t] = t.moms := by simp [momsL]
    rw [e]
    exact sorted_moms (okL_mem h List.mem_cons_self)
  | t :: x :: r, h, hr => by
    obtain ⟨h1, h2⟩ := risB_cons hr
    have hok : okL_ (x :: r) := by
      unfold okL_ at h
      exact h.2
    have ih := ris_sorted hok h2
    have e : momsL (t :: x :: r) = t.moms ++ momsL (x :: r) := by rw [momsL]
    rw [e]
    refine List.pairwise_append.mpr ⟨sorted_moms (okL_mem h List.mem_cons_self), ih, fun a ha b hb => ?_⟩
    have g1 := le_lastD (sorted_moms (okL_mem h List.mem_cons_self)) a ha
    have g2 := headD_le ih b hb
    rw [momsL_head hok] at g2
    omega
theorem lastD_mem {ns : List Nat} (h : ns ≠ []) : ns.getLastD 0 ∈ ns := by
  rw [List.getLastD_eq_getLast?, List.getLast?_eq_some_getLast h]
  exact List.getLast_mem h
theorem headD_mem {ns : List Nat} (h : ns ≠ []) : ns.headD 0 ∈ ns := by
  cases ns with
  | nil => exact absurd rfl h
  | cons x r => exact List.mem_cons_self
theorem ris_of : ∀ {ts : List Tr}, okL_ ts → (momsL ts).Pairwise (· < ·) → risB ts = true
  | [], _, _ => rfl
  | [t], _, _ => rfl
  | t :: x :: r, h, hs => by
    have hok : okL_ (x :: r) := by
      unfold okL_ at h
      exact h.2
    have e : momsL (t :: x :: r) = t.moms ++ momsL (x :: r) := by rw [momsL]
    rw [e] at hs
    obtain ⟨h1, h2, h3⟩ := List.pairwise_append.mp hs
    have ih := ris_of hok h2
    have lt := h3 _ (lastD_mem (moms_ne (okL_mem h List.mem_cons_self))) _ (headD_mem (momsL_ne hok (by simp)))
    rw [momsL_head hok] at lt
    show (decide (t.moms.getLastD 0 < x.moms.headD 0) && risB (x :: r)) = true
    rw [decide_eq_true lt, ih]
    rfl
end
section
abbrev OverC (K : PySem.W.Frag) : Addr := He.ga K "Over"
def overF (kp : Addr) (m s : Nat) : List (Str × V) := [("kept", .ref kp), ("many", .int (m : Nat)), ("step", .int (s : Nat))]
mutual
/-- at a this short -/
def ShAt (K : PySem.W.Frag) (H : Hp) : Tr → Addr → Prop
  | .at n, a => AtAt K H a n
  | .ov ps m s, a => ∃ dx kp as, H a = some (.ins (OverC K) dx (overF kp m s)) ∧ H kp = some (.tup (as.map V.ref)) ∧ ShsAt K H ps as
def ShsAt (K : PySem.W.Frag) (H : Hp) : List Tr → List Addr → Prop
  | [], as => as = []
  | t :: ts, as => ∃ a r, as = a :: r ∧ ShAt K H t a ∧ ShsAt K H ts r
end
mutual
theorem ShAt.mono {K : PySem.W.Frag} {H H' : Hp} (e : Ex H H') : ∀ {t : Tr} {a : Addr}, ShAt K H t a → ShAt K H' t a
  | .at n, a, h => by
    unfold ShAt at h ⊢
    exact AtAt.mono h e
  | .ov ps m s, a, h => by
    unfold ShAt at h ⊢
    obtain ⟨dx, kp, as, h1, h2, h3⟩ := h
    exact ⟨dx, kp, as, e _ _ h1, e _ _ h2, ShsAt.mono e h3⟩
theorem ShsAt.mono {K : PySem.W.Frag} {H H' : Hp} (e : Ex H H') : ∀ {ts : List Tr} {as : List Addr}, ShsAt K H ts as → ShsAt K H' ts as
  | [], as, h => by
    unfold ShsAt at h ⊢
    exact h
  | t :: ts, as, h => by
    unfold ShsAt at h ⊢
    obtain ⟨a, r, h1, h2, h3⟩ := h
    exact ⟨a, r, h1, ShAt.mono e h2, ShsAt.mono e h3⟩
end
theorem ShsAt.len {K : PySem.W.Frag} {H : Hp} : ∀ {ts : List Tr} {as : List Addr}, ShsAt K H ts as → as.length = ts.length
  | [], as, h => by
    unfold ShsAt at h
    rw [h]
    rfl
  | t :: ts, as, h => by
    unfold ShsAt at h
    obtain ⟨a, r, rfl, _, h3⟩ := h
    rw [List.length_cons, List.length_cons, ShsAt.len h3]
theorem ShsAt.get {K : PySem.W.Frag} {H : Hp} : ∀ {ts : List Tr} {as : List Addr} {i : Nat} {a : Addr}, ShsAt K H ts as → as[i]? = some a → ∃ t, ts[i]? = some t ∧ ShAt K H t a
  | [], as, i, a, h, hi => by
    unfold ShsAt at h
    rw [h] at hi
    cases hi
  | t :: ts, as, i, a, h, hi => by
    unfold ShsAt at h
    obtain ⟨b, r, rfl, h2, h3⟩ := h
    cases i with
    | zero =>
      cases hi
      exact ⟨t, rfl, h2⟩
    | succ i => exact ShsAt.get (i := i) h3 hi
/-- nothing in it is a list -/
theorem ShAt.ins {K : PySem.W.Frag} {H : Hp} {t : Tr} {a : Addr} (h : ShAt K H t a) : ∃ C dx fs, H a = some (.ins C dx fs) := by
  cases t with
  | «at» n =>
    unfold ShAt at h
    obtain ⟨dx, h⟩ := h
    exact ⟨_, dx, _, h⟩
  | ov ps m s =>
    unfold ShAt at h
    obtain ⟨dx, kp, as, h1, _⟩ := h
    exact ⟨_, dx, _, h1⟩
mutual
theorem ShAt.oth {K : PySem.W.Frag} {H H' : Hp} {d : Addr} (o : Oth d H H') (hd : ∀ ob, H d = some ob → (∃ xs, ob = .lst xs)) : ∀ {t : Tr} {a : Addr}, ShAt K H t a → ShAt K H' t a
  | .at n, a, h => by
    unfold ShAt at h ⊢
    obtain ⟨dx, h⟩ := h
    refine ⟨dx, o _ _ (fun z => ?_) h⟩
    obtain ⟨xs, e⟩ := hd _ (z ▸ h)
    cases e
  | .ov ps m s, a, h => by
    unfold ShAt at h ⊢
    obtain ⟨dx, kp, as, h1, h2, h3⟩ := h
    refine ⟨dx, kp, as, o _ _ (fun z => ?_) h1, o _ _ (fun z => ?_) h2, ShsAt.oth o hd h3⟩
    · obtain ⟨xs, e⟩ := hd _ (z ▸ h1)
      cases e
    · obtain ⟨xs, e⟩ := hd _ (z ▸ h2)
      cases e
theorem ShsAt.oth {K : PySem.W.Frag} {H H' : Hp} {d : Addr} (o : Oth d H H') (hd : ∀ ob, H d = some ob → (∃ xs, ob = .lst xs)) : ∀ {ts : List Tr} {as : List Addr}, ShsAt K H ts as → ShsAt K H' ts as
  | [], as, h => by
    unfold ShsAt at h ⊢
    exact h
  | t :: ts, as, h => by
    unfold ShsAt at h ⊢
    obtain ⟨a, r, h1, h2, h3⟩ := h
    exact ⟨a, r, h1, ShAt.oth o hd h2, ShsAt.oth o hd h3⟩
end
def sp_Over_moments (K : PySem.W.Frag) (d : Nat) : Sp := fun vs H Q _ => ∃ a ps m s, vs = [.ref a] ∧ ShAt K H (.ov ps m s) a ∧ (Tr.ov ps m s).nest ≤ d ∧ (Tr.ov ps m s).ok ∧ ∀ p H', Ex H H' → H p = none → H' p = some (.lst (natV (Tr.ov ps m s).moms)) → Q (.ref p) H'
def sp_Over_means_many (K : PySem.W.Frag) (d : Nat) : Sp := fun vs H Q _ => ∃ a ps m s, vs = [.ref a] ∧ ShAt K H (.ov ps m s) a ∧ (Tr.ov ps m s).nest ≤ d ∧ okL_ ps ∧ ps.length ≤ 20000 ∧ ∀ H', Ex H H' → Q (.int ((m * (momsL ps).length : Nat) : Int)) H'
def sp_Over_nested (K : PySem.W.Frag) (d : Nat) : Sp := fun vs H Q _ => ∃ a ps m s, vs = [.ref a] ∧ ShAt K H (.ov ps m s) a ∧ (Tr.ov ps m s).nest ≤ d ∧ ps ≠ [] ∧ okL_ ps ∧ ps.length ≤ 20000 ∧ ∀ H', Ex H H' → Q (.int (((Tr.ov ps m s).nest : Nat) : Int)) H'
def sp_Over_begins (K : PySem.W.Frag) (d : Nat) : Sp := fun vs H Q _ => ∃ a ps m s, vs = [.ref a] ∧ ShAt K H (.ov ps m s) a ∧ (Tr.ov ps m s).nest ≤ d ∧ (Tr.ov ps m s).ok ∧ Q (.int ((((Tr.ov ps m s).moms.headD 0 : Nat)) : Int)) H
def sp_Over_ends (K : PySem.W.Frag) (d : Nat) : Sp := fun vs H Q _ => ∃ a ps m s, vs = [.ref a] ∧ ShAt K H (.ov ps m s) a ∧ (Tr.ov ps m s).nest ≤ d ∧ (Tr.ov ps m s).ok ∧ Q (.int ((((Tr.ov ps m s).moms.getLastD 0 : Nat)) : Int)) H
theorem ShsAt.snoc {K : PySem.W.Frag} {H : Hp} {t : Tr} {a : Addr} : ∀ {ts : List Tr} {as : List Addr}, ShsAt K H ts as → ShAt K H t a → ShsAt K H (ts ++ [t]) (as ++ [a])
  | [], as, h, ha => by
    unfold ShsAt at h
    rw [h]
    show ShsAt K H [t] [a]
    unfold ShsAt
    exact ⟨a, [], rfl, ha, by unfold ShsAt; rfl⟩
  | x :: ts, as, h, ha => by
    unfold ShsAt at h
    obtain ⟨b, r, rfl, h2, h3⟩ := h
    show ShsAt K H (x :: (ts ++ [t])) (b :: (r ++ [a]))
    unfold ShsAt
    exact ⟨b, r ++ [a], rfl, h2, ShsAt.snoc h3 ha⟩
end
section
theorem fb_Over_ends {P : Program} {w : World} {K : PySem.W.Frag} {mg : Str → Option Value} {base : Heap} (T : Env K mg) {d L : Nat} (hL : 40 ≤ L) (r_Over_ends : Fc P w K mg base L (He.ma K (He.ga K "Over") "ends") [] (sp_Over_ends K d)) : ∃ fd, FunD K "ends" "Over.ends" (defArgs s_Over_ends) (defBody s_Over_ends) (defScope s_Over_ends) [] [] (He.ma K (He.ga K "Over") "ends") fd ∧ Fb P w K mg base (L + 1) (He.ma K (He.ga K "Over") "ends") fd ["self"] (sp_Over_ends K (d + 1)) := by
  obtain ⟨fd, F⟩ := T.f_Over_ends
  refine ⟨fd, F, fb_of F sc_Over_ends (fun vs H Q E h => ?_) (fun cdv A outer s H vs Q E hr h => ?_)⟩
  · obtain ⟨a, ps, m, s, rfl, _⟩ := h
    rfl
  · obtain ⟨a, ps, m, s_, rfl, hO, hn, hok, q⟩ := h
    refine ⟨_, (pss_one (ps_ret (pe_op op_add (pe_orE (c_meth0 (pe_ix ix_tup (pe_fld (pv 0) (by rfl)) (pe_un un_neg pe_int) (fun _ _ => rfl)) T.c_At T.m_At_ends (ok_At_ends T) (hr.mono (by omega)) takes0) (c_meth0 (pe_ix ix_tup (pe_fld (pv 0) (by rfl)) (pe_un un_neg pe_int) (fun _ _ => rfl)) T.c_Over T.m_Over_ends r_Over_ends (hr.mono (by omega)) takes0)) (pe_op op_mul (pe_op op_sub (pe_fld (pv 0) (by rfl)) pe_int) (pe_fld (pv 0) (by rfl)))))), ?_⟩
    have hnL := ov_nest hn
    obtain ⟨o1, o2, _, _, _, _, o7⟩ := ov_facts hok
    have nn := momsL_ne o7 o1
    unfold Tr.moms at q
    obtain ⟨dx, kp, as, ha, hk, hA⟩ := (by unfold ShAt at hO; exact hO : ∃ dx kp as, H a = some (.ins (OverC K) dx (overF kp m s_)) ∧ H kp = some (.tup (as.map V.ref)) ∧ ShsAt K H ps as)
    rw [overN_last nn (by omega)] at q
    have hm := (ov_facts hok).2.2.1
    have hl1 := hA.len
    have as0 : as ≠ [] := fun z => by
      rw [z] at hl1
      exact o1 (List.length_eq_zero_iff.mp hl1.symm)
    obtain ⟨b, gb, aL⟩ := last_ref as0
    obtain ⟨t, ht, hS⟩ := hA.get gb
    have ep : ps = ps.dropLast ++ [t] := by
      have e := (List.dropLast_concat_getLast o1).symm
      have e2 : ps.getLast o1 = t := by
        rw [List.getLast_eq_getElem]
        rw [hl1] at ht
        obtain ⟨_, e⟩ := List.getElem?_eq_some_iff.mp ht
        exact e
      rw [e2] at e
      exact e
    have htm := List.mem_of_getElem? ht
    have eL : (momsL ps).getLastD 0 = t.moms.getLastD 0 := by
      rw [ep] at o7 ⊢
      exact momsL_last o7
    rw [eL] at q
    have ok := okL_mem o7 htm
    have tn := Nat.le_trans (nestL_mem htm) hnL
    have e : ((t.moms.getLastD 0 : Nat) : Int) + (((m : Nat) : Int) - 1) * ((s_ : Nat) : Int) = ((t.moms.getLastD 0 + (m - 1) * s_ : Nat) : Int) := by
      rw [Int.natCast_add, Int.natCast_mul, Int.natCast_sub (by omega)]
      rfl
    rw [← e] at q
    cases t with
    | «at» n =>
      unfold ShAt at hS
      obtain ⟨dy, h2⟩ := id hS
      unfold Tr.moms at q
      exact .inl ⟨_, rfl, a, _, dx, _, _, rfl, ha, T.c_Over, T.a_Over_kept, rfl, _, rfl, kp, _, _, _, rfl, rfl, sq_tup hk, aL, b, dy, _, rfl, h2, rfl, b, n, rfl, hS, _, rfl, a, _, dx, _, _, rfl, ha, T.c_Over, T.a_Over_many, rfl, _, _, rfl, rfl, _, rfl, a, _, dx, _, _, rfl, ha, T.c_Over, T.a_Over_step, rfl, _, _, rfl, rfl, .inl ⟨by omega, by omega⟩, _, _, rfl, rfl, q⟩
    | ov ps' m' s' =>
      obtain ⟨dy, kp', as', h2, _⟩ := (by unfold ShAt at hS; exact hS : ∃ dx kp as, H b = some (.ins (OverC K) dx (overF kp m' s')) ∧ H kp = some (.tup (as.map V.ref)) ∧ ShsAt K H ps' as)
      exact .inr ⟨_, rfl, a, _, dx, _, _, rfl, ha, T.c_Over, T.a_Over_kept, rfl, _, rfl, kp, _, _, _, rfl, rfl, sq_tup hk, aL, b, dy, _, rfl, h2, rfl, b, ps', m', s', rfl, hS, tn, ok, _, rfl, a, _, dx, _, _, rfl, ha, T.c_Over, T.a_Over_many, rfl, _, _, rfl, rfl, _, rfl, a, _, dx, _, _, rfl, ha, T.c_Over, T.a_Over_step, rfl, _, _, rfl, rfl, .inl ⟨by omega, by omega⟩, _, _, rfl, rfl, q⟩
theorem ok_Over_ends {P : Program} {w : World} {K : PySem.W.Frag} {mg : Str → Option Value} {base : Heap} (T : Env K mg) {d L : Nat} (hL : 40 ≤ L) (r_Over_ends : Fc P w K mg base L (He.ma K (He.ga K "Over") "ends") [] (sp_Over_ends K d)) : Fc P w K mg base (L + 1) (He.ma K (He.ga K "Over") "ends") [] (sp_Over_ends K (d + 1)) := by
  obtain ⟨fd, D, F⟩ := fb_Over_ends T hL r_Over_ends
  exact F.all (D.bindsN fun _ _ _ _ _ _ us hl => match us, hl with | [_], _ => rfl)
theorem all_Over_ends {P : Program} {w : World} {K : PySem.W.Frag} {mg : Str → Option Value} {base : Heap} (T : Env K mg) : ∀ d, Fc P w K mg base (40 + 1 * d) (He.ma K (He.ga K "Over") "ends") [] (sp_Over_ends K d)
  | 0 => fc_no fun vs H Q E h => by
    obtain ⟨a, ps, m, s, _, _, h, _⟩ := h
    unfold Tr.nest at h
    omega
  | d + 1 => ok_Over_ends T (Nat.le_add_right 40 _) (all_Over_ends T d)
end
section
def sp_At_begins (K : PySem.W.Frag) : Sp := fun vs H Q _ => ∃ a n, vs = [.ref a] ∧ AtAt K H a n ∧ Q (.int (n : Nat)) H
theorem fb_At_begins {P : Program} {w : World} {K : PySem.W.Frag} {mg : Str → Option Value} {base : Heap} (T : Env K mg) : ∃ fd, FunD K "begins" "At.begins" (defArgs s_At_begins) (defBody s_At_begins) (defScope s_At_begins) [] [] (He.ma K (He.ga K "At") "begins") fd ∧ Fb P w K mg base 1 (He.ma K (He.ga K "At") "begins") fd ["self"] (sp_At_begins K) := by
  obtain ⟨fd, F⟩ := T.f_At_begins
  refine ⟨fd, F, fb_of F sc_At_begins (fun vs H Q E h => ?_) (fun cdv A outer s H vs Q E hr h => ?_)⟩
  · obtain ⟨a, n, rfl, _⟩ := h
    rfl
  · obtain ⟨a, n, rfl, ⟨dx, ha⟩, q⟩ := h
    refine ⟨_, (pss_one (ps_ret (pe_fld (pv 0) (by rfl)))), ?_⟩
    exact ⟨_, rfl, a, _, dx, _, _, rfl, ha, T.c_At, T.a_At_moment, rfl, q⟩
theorem ok_At_begins {P : Program} {w : World} {K : PySem.W.Frag} {mg : Str → Option Value} {base : Heap} (T : Env K mg) : Fc P w K mg base 1 (He.ma K (He.ga K "At") "begins") [] (sp_At_begins K ) := by
  obtain ⟨fd, D, F⟩ := fb_At_begins T
  exact F.all (D.bindsN fun _ _ _ _ _ _ us hl => match us, hl with | [_], _ => rfl)
end
section
theorem fb_Over_begins {P : Program} {w : World} {K : PySem.W.Frag} {mg : Str → Option Value} {base : Heap} (T : Env K mg) {d L : Nat} (hL : 40 ≤ L) (r_Over_begins : Fc P w K mg base L (He.ma K (He.ga K "Over") "begins") [] (sp_Over_begins K d)) : ∃ fd, FunD K "begins" "Over.begins" (defArgs s_Over_begins) (defBody s_Over_begins) (defScope s_Over_begins) [] [] (He.ma K (He.ga K "Over") "begins") fd ∧ Fb P w K mg base (L + 1) (He.ma K (He.ga K "Over") "begins") fd ["self"] (sp_Over_begins K (d + 1)) := by
  obtain ⟨fd, F⟩ := T.f_Over_begins
  refine ⟨fd, F, fb_of F sc_Over_begins (fun vs H Q E h => ?_) (fun cdv A outer s H vs Q E hr h => ?_)⟩
  · obtain ⟨a, ps, m, s, rfl, _⟩ := h
    rfl
  · obtain ⟨a, ps, m, s_, rfl, hO, hn, hok, q⟩ := h
    refine ⟨_, (pss_one (ps_ret (pe_orE (c_meth0 (pe_ix ix_tup (pe_fld (pv 0) (by rfl)) pe_int (fun _ _ => rfl)) T.c_At T.m_At_begins (ok_At_begins T) (hr.mono (by omega)) takes0) (c_meth0 (pe_ix ix_tup (pe_fld (pv 0) (by rfl)) pe_int (fun _ _ => rfl)) T.c_Over T.m_Over_begins r_Over_begins (hr.mono (by omega)) takes0)))), ?_⟩
    have hnL := ov_nest hn
    obtain ⟨o1, o2, _, _, _, _, o7⟩ := ov_facts hok
    have nn := momsL_ne o7 o1
    unfold Tr.moms at q
    obtain ⟨dx, kp, as, ha, hk, hA⟩ := (by unfold ShAt at hO; exact hO : ∃ dx kp as, H a = some (.ins (OverC K) dx (overF kp m s_)) ∧ H kp = some (.tup (as.map V.ref)) ∧ ShsAt K H ps as)
    rw [overN_head nn m (by omega)] at q
    cases ps with
    | nil => exact absurd rfl o1
    | cons t ts =>
      rw [momsL_head o7] at q
      unfold ShsAt at hA
      obtain ⟨b, r, rfl, hS, _⟩ := hA
      have aF : atI ((b :: r).map V.ref) 0 = some (.ref b) := atI_nat (j := 0) rfl
      have ok := okL_mem o7 (List.mem_cons_self (a := t) (l := ts))
      have tn := Nat.le_trans (nestL_mem (List.mem_cons_self (a := t) (l := ts))) hnL
      cases t with
      | «at» n =>
        unfold ShAt at hS
        obtain ⟨dy, h2⟩ := id hS
        exact .inl ⟨_, rfl, a, _, dx, _, _, rfl, ha, T.c_Over, T.a_Over_kept, rfl, kp, _, _, _, rfl, rfl, sq_tup hk, aF, b, dy, _, rfl, h2, rfl, b, n, rfl, hS, by unfold Tr.moms at q; exact q⟩
      | ov ps' m' s' =>
        obtain ⟨dy, kp', as', h2, _⟩ := (by unfold ShAt at hS; exact hS : ∃ dx kp as, H b = some (.ins (OverC K) dx (overF kp m' s')) ∧ H kp = some (.tup (as.map V.ref)) ∧ ShsAt K H ps' as)
        exact .inr ⟨_, rfl, a, _, dx, _, _, rfl, ha, T.c_Over, T.a_Over_kept, rfl, kp, _, _, _, rfl, rfl, sq_tup hk, aF, b, dy, _, rfl, h2, rfl, b, ps', m', s', rfl, hS, tn, ok, q⟩
theorem ok_Over_begins {P : Program} {w : World} {K : PySem.W.Frag} {mg : Str → Option Value} {base : Heap} (T : Env K mg) {d L : Nat} (hL : 40 ≤ L) (r_Over_begins : Fc P w K mg base L (He.ma K (He.ga K "Over") "begins") [] (sp_Over_begins K d)) : Fc P w K mg base (L + 1) (He.ma K (He.ga K "Over") "begins") [] (sp_Over_begins K (d + 1)) := by
  obtain ⟨fd, D, F⟩ := fb_Over_begins T hL r_Over_begins
  exact F.all (D.bindsN fun _ _ _ _ _ _ us hl => match us, hl with | [_], _ => rfl)
theorem all_Over_begins {P : Program} {w : World} {K : PySem.W.Frag} {mg : Str → Option Value} {base : Heap} (T : Env K mg) : ∀ d, Fc P w K mg base (40 + 1 * d) (He.ma K (He.ga K "Over") "begins") [] (sp_Over_begins K d)
  | 0 => fc_no fun vs H Q E h => by
    obtain ⟨a, ps, m, s, _, _, h, _⟩ := h
    unfold Tr.nest at h
    omega
  | d + 1 => ok_Over_begins T (Nat.le_add_right 40 _) (all_Over_begins T d)
end
section
theorem sh_ends {K : PySem.W.Frag} {W : WX} {ta : TE} {σ : L2.St} {H : Hp} {Q : VK} {t : Tr} {a : Addr} {d : Nat} (hS : ShAt K H t a) (hok : t.ok) (hn : t.nest ≤ d) (hta : ∀ R : VK, R (.ref a) H → ta σ H R) (q : Q (.int ((t.moms.getLastD 0 : Nat) : Int)) H) : tOrE (tMt (He.ga K "At") "ends" (sp_At_ends K) W ta tNil) (tMt (He.ga K "Over") "ends" (sp_Over_ends K d) W ta tNil) σ H Q := by
  cases t with
  | «at» n =>
    unfold ShAt at hS
    obtain ⟨dy, h2⟩ := id hS
    unfold Tr.moms at q
    exact .inl (hta _ ⟨a, dy, _, rfl, h2, rfl, a, n, rfl, hS, q⟩)
  | ov ps' m' s' =>
    obtain ⟨dy, kp', as', h2, _⟩ := (by unfold ShAt at hS; exact hS : ∃ dx kp as, H a = some (.ins (OverC K) dx (overF kp m' s')) ∧ H kp = some (.tup (as.map V.ref)) ∧ ShsAt K H ps' as)
    exact .inr (hta _ ⟨a, dy, _, rfl, h2, rfl, a, ps', m', s', rfl, hS, hn, hok, q⟩)
theorem sh_begins {K : PySem.W.Frag} {W : WX} {ta : TE} {σ : L2.St} {H : Hp} {Q : VK} {t : Tr} {a : Addr} {d : Nat} (hS : ShAt K H t a) (hok : t.ok) (hn : t.nest ≤ d) (hta : ∀ R : VK, R (.ref a) H → ta σ H R) (q : Q (.int ((t.moms.headD 0 : Nat) : Int)) H) : tOrE (tMt (He.ga K "At") "begins" (sp_At_begins K) W ta tNil) (tMt (He.ga K "Over") "begins" (sp_Over_begins K d) W ta tNil) σ H Q := by
  cases t with
  | «at» n =>
    unfold ShAt at hS
    obtain ⟨dy, h2⟩ := id hS
    unfold Tr.moms at q
    exact .inl (hta _ ⟨a, dy, _, rfl, h2, rfl, a, n, rfl, hS, q⟩)
  | ov ps' m' s' =>
    obtain ⟨dy, kp', as', h2, _⟩ := (by unfold ShAt at hS; exact hS : ∃ dx kp as, H a = some (.ins (OverC K) dx (overF kp m' s')) ∧ H kp = some (.tup (as.map V.ref)) ∧ ShsAt K H ps' as)
    exact .inr (hta _ ⟨a, dy, _, rfl, h2, rfl, a, ps', m', s', rfl, hS, hn, hok, q⟩)
def sp_all_rising (K : PySem.W.Frag) : Sp := fun vs H Q _ => ∃ (p : Addr) (as : List Addr) (ts : List Tr), vs = [.ref p] ∧ H p = some (.tup (as.map V.ref)) ∧ ShsAt K H ts as ∧ nestL ts ≤ 9 ∧ okL_ ts ∧ ts.length ≤ 20000 ∧ ∀ H', Ex H H' → Q (.bl (risB ts)) H'
theorem fb_all_rising {P : Program} {w : World} {K : PySem.W.Frag} {mg : Str → Option Value} {base : Heap} (T : Env K mg) : ∃ fd, FunD K "all_rising" "all_rising" (defArgs s_all_rising) (defBody s_all_rising) (defScope s_all_rising) [] [] (He.ga K "all_rising") fd ∧ Fb P w K mg base 60 (He.ga K "all_rising") fd ["parts"] (sp_all_rising K) := by
  obtain ⟨fd, F⟩ := T.f_all_rising
  refine ⟨fd, F, fb_of F sc_all_rising (fun vs H Q E h => ?_) (fun cdv A outer s H vs Q E hr h => ?_)⟩
  · obtain ⟨p, as, ts, rfl, _⟩ := h
    rfl
  · obtain ⟨p, as, ts, rfl, hp, hA, hn, hok, hl, q⟩ := h
    refine ⟨_, (pss_one (ps_ret (pe_callB (cr_all rfl) (by rfl) T.n_all (by decide +kernel) (pa_cons (pe_lc (own := [("one", 1), ("other", 2)]) (by rfl) sc_all_rising.nd (RZ.pi_zipA (by rfl) T.n_zip (pa_cons (pv 0) (pa_cons (pe_slice sl_tupA (pv 0) (po_some pe_int) po_none) pa_nil))) (blkOk_by (own := [("one", 1), ("other", 2)]) (N := ["parts", "one", "other"]) (sc := defScope s_all_rising) (by decide +kernel)) (fun _ _ _ _ _ => (pg_tupK K (n := 2) rfl (pgs_cons (pg_name (i := 1) sc_all_rising.nd rfl (Or.inl rfl)) (pgs_cons (pg_name (i := 2) sc_all_rising.nd rfl (Or.inl rfl)) pgs_nil)))) (fun _ _ _ _ _ => pts_nil) (fun _ _ _ _ _ => (pe_cmpR op_lt (pe_orE (c_meth0 (pv 1) T.c_At T.m_At_ends (ok_At_ends T) (hr.mono (by decide)) takes0) (c_meth0 (pv 1) T.c_Over T.m_Over_ends (all_Over_ends T 9) (hr.mono (by decide)) takes0)) (pe_orE (c_meth0 (pv 2) T.c_At T.m_At_begins (ok_At_begins T) (hr.mono (by decide)) takes0) (c_meth0 (pv 2) T.c_Over T.m_Over_begins (all_Over_begins T 9) (hr.mono (by decide)) takes0)) (nomark _)))) pa_nil)))), ?_⟩
    refine ⟨_, rfl, _, rfl, _, rfl, ?_⟩
    dsimp only [tNoPart]
    refine slA_of (sq_tup hp) fun b2 H4 X4 hb2 => ?_
    rw [cut1] at hb2
    have ed : (as.map V.ref).drop 1 = (as.drop 1).map V.ref := by rw [List.map_drop]
    rw [ed] at hb2
    have hA4 := hA.mono X4
    have hl1 := hA.len
    have hz1 : (as.zip ts).map (fun p => V.ref p.1) = as.map V.ref := by
      show (as.zip ts).map (V.ref ∘ Prod.fst) = _
      rw [← List.map_map, List.map_fst_zip (by omega)]
    have hz1d : ((as.zip ts).drop 1).map (fun p => V.ref p.1) = (as.drop 1).map V.ref := by rw [List.map_drop, List.map_drop, hz1]
    have hz2 : (as.zip ts).map Prod.snd = ts := List.map_snd_zip (by omega)
    have zl : (as.zip ts).length ≤ 20000 := by rw [List.length_zip]; omega
    have hp4 : H4 p = some (.tup ((as.zip ts).map fun p => V.ref p.1)) := by rw [hz1]; exact X4 _ _ hp
    rw [← hz1d] at hb2
    refine ⟨p, b2, (as.zip ts).map (fun p => V.ref p.1), ((as.zip ts).drop 1).map (fun p => V.ref p.1), rfl, .inr ⟨sq_tup hp4, hb2, fun D nD => lc_zip (as.zip ts) ((as.zip ts).drop 1) (fun p => V.ref p.1) (fun p => V.ref p.1) (walk_zipT rfl) (by rw [List.length_map, List.length_map]) (fun x y => some (.bl (decide (x.2.moms.getLastD 0 < y.2.moms.headD 0)))) (fun H' => Ex H4 H') (fun H' z e => ex_mut e nD) (.refl _) (by omega) (fun H' e => ⟨sq_tup (e _ _ hp4), ex_sqt e hb2⟩) (fun i x y u H5 acc N hx hy X5 nu hD la k => ?_) fun H5 X5 d5 => ?_⟩⟩
    · have hD2 := fun o => ex_new (o := o) nu _ _ hD
      have Z := X5.trans (ex_new (o := .tup [.ref x.1, .ref y.1]) nu)
      rw [List.getElem?_drop] at hy
      obtain ⟨hx1, hx2⟩ := List.getElem?_zip_eq_some.mp hx
      obtain ⟨hy1, hy2⟩ := List.getElem?_zip_eq_some.mp hy
      have gx : ShAt K H4 x.2 x.1 := by
        obtain ⟨t, ht, h⟩ := hA4.get hx1
        rw [hx2] at ht
        cases ht
        exact h
      have gy : ShAt K H4 y.2 y.1 := by
        obtain ⟨t, ht, h⟩ := hA4.get hy1
        rw [hy2] at ht
        cases ht
        exact h
      have mx := List.mem_of_getElem? hx2
      have my := List.mem_of_getElem? hy2
      refine ⟨u, _, rfl, sq_tup upd_same, rfl, _, _, rfl, _, _, rfl, rfl, rfl, ?_⟩
      refine sh_ends (gx.mono Z) (okL_mem hok mx) (Nat.le_trans (nestL_mem mx) hn) (fun R r => ⟨_, rfl, r⟩) ?_
      refine sh_begins (gy.mono Z) (okL_mem hok my) (Nat.le_trans (nestL_mem my) hn) (fun R r => ⟨_, rfl, r⟩) ?_
      refine ⟨_, _, rfl, rfl, acc, hD2 _, la, ?_⟩
      have ei : decide (((x.2.moms.getLastD 0 : Nat) : Int) < ((y.2.moms.headD 0 : Nat) : Int)) = decide (x.2.moms.getLastD 0 < y.2.moms.headD 0) := decide_eq_decide.mpr ⟨fun z => by omega, fun z => by omega⟩
      show N (upd (upd H5 u (.tup [.ref x.1, .ref y.1])) D (.lst (acc ++ [.bl (decide (((x.2.moms.getLastD 0 : Nat) : Int) < ((y.2.moms.headD 0 : Nat) : Int)))])))
      rw [ei]
      exact k _ Z (hD2 _)
    · have ef : ((as.zip ts).zip ((as.zip ts).drop 1)).filterMap (fun p => some (V.bl (decide (p.1.2.moms.getLastD 0 < p.2.2.moms.headD 0)))) = ((ts.zip (ts.drop 1)).map fun p => decide (p.1.moms.getLastD 0 < p.2.moms.headD 0)).map V.bl := by
        rw [List.filterMap_eq_map', List.map_map]
        conv => rhs; rw [← hz2, ← List.map_drop, List.zip_map, List.map_map]
        rfl
      rw [ef] at d5
      refine ⟨D, _, rfl, sq_lst d5, ?_⟩
      rw [List.all_map]
      exact q _ (X4.trans X5)
theorem ok_all_rising {P : Program} {w : World} {K : PySem.W.Frag} {mg : Str → Option Value} {base : Heap} (T : Env K mg) : Fc P w K mg base 60 (He.ga K "all_rising") [] (sp_all_rising K ) := by
  obtain ⟨fd, D, F⟩ := fb_all_rising T
  exact F.all (D.bindsN fun _ _ _ _ _ _ us hl => match us, hl with | [_], _ => rfl)
end
section
/-- at p a list or a tuple -/
def SqA (H : Hp) (p : Addr) (xs : List V) : Prop := H p = some (.lst xs) ∨ H p = some (.tup xs)
/-- what is no list of shorts -/
def NoParts (K : PySem.W.Frag) (H : Hp) (x : V) : Prop := (∃ t, TyX K H x t ∧ PySem.W.kitOne K t (.type "list") = some false ∧ PySem.W.kitOne K t (.type "tuple") = some false) ∨
  (∃ p xs, x = .ref p ∧ SqA H p xs ∧ xs.length ≤ 100 ∧ (∀ y ∈ xs, ∃ t b, TyX K H y t ∧ PySem.W.kitOne K t (.ref (He.ga K "Short")) = some b) ∧ ∃ y ∈ xs, ∃ t, TyX K H y t ∧ PySem.W.kitOne K t (.ref (He.ga K "Short")) = some false)
theorem SqA.mono {H H' : Hp} {p : Addr} {xs : List V} (h : SqA H p xs) (e : Ex H H') : SqA H' p xs := h.imp (fun h => e _ _ h) (fun h => e _ _ h)
theorem NoParts.mono {K : PySem.W.Frag} {H H' : Hp} {x : V} (h : NoParts K H x) (e : Ex H H') : NoParts K H' x := by
  rcases h with ⟨t, h1, h2⟩ | ⟨p, xs, rfl, h1, h2, h3, y, hy, t, h4, h5⟩
  · exact .inl ⟨t, tyX_mono e h1, h2⟩
  · exact .inr ⟨p, xs, rfl, h1.mono e, h2, fun y hy => let ⟨t, b, g1, g2⟩ := h3 y hy; ⟨t, b, tyX_mono e g1, g2⟩, y, hy, t, tyX_mono e h4, h5⟩
def sp_shorts_in (K : PySem.W.Frag) : Sp := fun vs H Q E => (∃ (p : Addr) (as : List Addr) (ts : List Tr), vs = [.ref p] ∧ SqA H p (as.map V.ref) ∧ ShsAt K H ts as ∧ nestL ts ≤ 9 ∧ okL_ ts ∧ ts.length ≤ 20000 ∧ (risB ts = true → ∀ t H', Ex H H' → H' t = some (.tup (as.map V.ref)) → Q (.ref t) H') ∧ (risB ts = false → ∀ H', Ex H H' → E (.ref (He.ga K "NoPiece")) none H')) ∨ (∃ x, vs = [x] ∧ NoParts K H x ∧ ∀ H', Ex H H' → E (.ref (He.ga K "NoPiece")) none H')
theorem fb_shorts_in {P : Program} {w : World} {K : PySem.W.Frag} {mg : Str → Option Value} {base : Heap} (T : Env K mg) : ∃ fd, FunD K "shorts_in" "shorts_in" (defArgs s_shorts_in) (defBody s_shorts_in) (defScope s_shorts_in) [] [] (He.ga K "shorts_in") fd ∧ Fb P w K mg base 61 (He.ga K "shorts_in") fd ["parts"] (sp_shorts_in K) := by
  obtain ⟨fd, F⟩ := T.f_shorts_in
  refine ⟨fd, F, fb_of F sc_shorts_in (fun vs H Q E h => ?_) (fun cdv A outer s H vs Q E hr h => ?_)⟩
  · rcases h with ⟨p, as, ts, rfl, _⟩ | ⟨x, rfl, _⟩
    · rfl
    · rfl
  · refine ⟨_, (pss_cons (ps_if (pt_not (pt_val (pe_callB call_isiT (by rfl) T.n_isinstance (by decide +kernel) (pa_cons (pv 0) (pa_cons (pe_tup (pa_cons (pe_bltn (v := .ty "list") (by rfl) T.n_list (by decide +kernel) rfl) (pa_cons (pe_bltn (v := .ty "tuple") (by rfl) T.n_tuple (by decide +kernel) rfl) pa_nil))) pa_nil)))))
      (pss_one (ps_raise rfl (takes_of rfl rfl rfl rfl) (pmk_own PySem.F.excBase_ValueError T.x_NoPiece.x T.g_NoPiece T.x_NoPiece.kp (raises_own T.x_NoPiece.sub T.x_NoPiece.ty) rfl)))
      pss_nil)
      (pss_cons (ps_set (i := 1) sc_shorts_in.nd rfl (Or.inl rfl) (pe_callTy call_tuple_of (by rfl) T.n_tuple (by decide +kernel) (pa_cons (pv 0) pa_nil)))
      (pss_cons (ps_if (PW.pt (pw_or (pt_not (pt_val (pe_callB (cr_all rfl) (by rfl) T.n_all (by decide +kernel) (pa_cons (pe_lc (own := [("one", 2)]) (by rfl) sc_shorts_in.nd (pi_tup (pv 1)) (blkOk_by (own := [("one", 2)]) (N := ["parts", "found", "one"]) (sc := defScope s_shorts_in) (by decide +kernel)) (fun _ _ _ _ _ => (pg_name (i := 2) sc_shorts_in.nd rfl (Or.inl rfl))) (fun _ _ _ _ _ => pts_nil) (fun _ _ _ _ _ => (pe_callB (call_isiK K) (by rfl) T.n_isinstance (by decide +kernel) (pa_cons (pv 2) (pa_cons (pe_glob (v := .ref _) (by rfl) T.g_Short rfl) pa_nil))))) pa_nil)))) (pw_or1 (pt_not (pt_val (c_call (ok_all_rising T) (hr.mono (by decide)) T.g_all_rising T.k_all_rising (takes_of rfl rfl rfl rfl) (pa_cons (pv 1) pa_nil)))))))
      (pss_one (ps_raise rfl (takes_of rfl rfl rfl rfl) (pmk_own PySem.F.excBase_ValueError T.x_NoPiece.x T.g_NoPiece T.x_NoPiece.kp (raises_own T.x_NoPiece.sub T.x_NoPiece.ty) rfl)))
      pss_nil)
      (pss_one (ps_ret (pv 1)))))), ?_⟩
    rcases h with ⟨p, as, ts, rfl, hp, hA, hn, hok, hl, q, qe⟩ | ⟨x, rfl, hN, qe⟩
    rotate_left
    · refine ⟨_, rfl, by show 2 ≤ sizeLine; decide, fun tp ntp => ?_⟩
      have X1 := ex_new (o := .tup [.ty "list", .ty "tuple"]) ntp
      rcases hN with ⟨t, ty, k1, k2⟩ | ⟨p, xs, rfl, hp, hl, hall, y0, hy0, t0, ty0, k0⟩
      · refine ⟨x, tp, _, t, _, false, rfl, upd_same, .cons (.ty "list") (.cons (.ty "tuple") .nil), tyX_mono X1 ty, kitAny_cons (b := false) k1 (fun _ => kitAny_cons (b := false) k2 (fun _ => kitAny_nil) (by decide)) (by decide), false, rfl, iteT ?_⟩
        exact qe _ X1
      · have ty : ∃ t, TyX K (upd H tp (.tup [.ty "list", .ty "tuple"])) (.ref p) t ∧ PySem.W.kitAny K t [.type "list", .type "tuple"] = some true := by
          rcases hp with h | h
          · exact ⟨_, .base (.lst (X1 _ _ h)), kitAny_cons (b := true) (kit_ty (by decide +kernel)) (fun z => nomatch z) (fun _ => rfl)⟩
          · exact ⟨_, .base (.tup (X1 _ _ h)), kitAny_cons (b := false) (kit_ty (by decide +kernel)) (fun _ => kitAny_cons (b := true) (kit_ty (by decide +kernel)) (fun z => nomatch z) (fun _ => rfl)) (by decide)⟩
        obtain ⟨t, ty, kt⟩ := ty
        refine ⟨.ref p, tp, _, t, _, true, rfl, upd_same, .cons (.ty "list") (.cons (.ty "tuple") .nil), ty, kt, true, rfl, iteF ?_⟩
        generalize upd H tp (.tup [.ty "list", .ty "tuple"]) = H1 at X1 ty ⊢
        refine ⟨_, rfl, p, xs, rfl, ?_⟩
        have rest : ∀ t2 H2, Ex H1 H2 → H2 t2 = some (.tup xs) → (tSeq (tIfS (tOr (tNot (tB (tCB (rAll K) (tCons (tLc (iTup K (tVar 1)) (gName 2) tYes (tCB (rIsi K) (tCons (tVar 2) (tCons (tC (V.ref (He.ga K "Short"))) tNil))) (List.map (fun x => x.snd) [(Str.ofString "one", 2)])) tNil)))) (tNot (tB (tFc (sp_all_rising K) (fun cls d x H => E cls d H) (tCons (tVar 1) tNil))))) (fun x σ H => (fun cls d H' => E cls d H') (Value.ref (He.ga K "NoPiece")) none H) tNext) (tRet (tVar 1))) { nx := fun _ H' => Q .non H', rt := Q } [some (.ref p), some (.ref t2), none] H2 := fun t2 H2 X2 h2 => by
          have X02 := X1.trans X2
          have h2' : H2 t2 = some (.tup (xs.map fun y => y)) := by rw [List.map_id']; exact h2
          have dec : ∀ y, Decidable (∃ t, TyX K H y t ∧ PySem.W.kitOne K t (.ref (He.ga K "Short")) = some false) := fun _ => Classical.propDecidable _
          refine ⟨_, rfl, t2, rfl, ⟨_, sq_tup h2⟩, fun A nA => lc_on xs (fun y => y) L2.walk_tup (fun y => some (.bl (!decide (∃ t, TyX K H y t ∧ PySem.W.kitOne K t (.ref (He.ga K "Short")) = some false)))) (fun H' => Ex H2 H') (fun H' z e => ex_mut e nA) (.refl _) (by omega) (fun H' e => sq_tup (e _ _ h2')) (fun i x H3 acc N hx X3 hD la k => ?_) fun H3 X3 d3 => ?_⟩
          · have hm := List.mem_of_getElem? hx
            have X03 := X02.trans X3
            by_cases c : ∃ t, TyX K H x t ∧ PySem.W.kitOne K t (.ref (He.ga K "Short")) = some false
            · obtain ⟨t3, ty3, k3⟩ := id c
              have k' := k H3 X3 hD
              rw [decide_eq_true c] at k'
              exact ⟨rfl, _, rfl, x, .ref (He.ga K "Short"), _, _, false, rfl, .own _, tyX_mono X03 ty3, k3, acc, hD, la, k'⟩
            · obtain ⟨t3, b3, ty3, k3⟩ := hall x hm
              have b3t : b3 = true := by
                cases b3 with
                | true => rfl
                | false => exact absurd ⟨t3, ty3, k3⟩ c
              subst b3t
              have k' := k H3 X3 hD
              rw [decide_eq_false c] at k'
              exact ⟨rfl, _, rfl, x, .ref (He.ga K "Short"), _, _, true, rfl, .own _, tyX_mono X03 ty3, k3, acc, hD, la, k'⟩
          · rw [List.filterMap_eq_map', show (xs.map fun y => V.bl (!decide (∃ t, TyX K H y t ∧ PySem.W.kitOne K t (.ref (He.ga K "Short")) = some false))) = (xs.map fun y => !decide (∃ t, TyX K H y t ∧ PySem.W.kitOne K t (.ref (He.ga K "Short")) = some false)).map V.bl from by rw [List.map_map]; rfl] at d3
            refine ⟨A, _, rfl, sq_lst d3, ?_⟩
            have ef : (xs.map fun y => !decide (∃ t, TyX K H y t ∧ PySem.W.kitOne K t (.ref (He.ga K "Short")) = some false)).all id = false := by
              rw [List.all_eq_false]
              refine ⟨false, List.mem_map.mpr ⟨y0, hy0, ?_⟩, by decide⟩
              rw [decide_eq_true ⟨t0, ty0, k0⟩]
              rfl
            rw [ef]
            exact ⟨false, rfl, iteT (iteT (qe H3 (X02.trans X3)))⟩
        rcases hp with h | h
        · exact .inl ⟨sq_lst (X1 _ _ h), fun t2 nt2 => rest t2 _ (ex_new nt2) upd_same⟩
        · exact .inr ⟨sq_tup (X1 _ _ h), rest p _ (.refl _) (X1 _ _ h)⟩
    have hl1 := hA.len
    refine ⟨_, rfl, by show 2 ≤ sizeLine; decide, fun tp ntp => ?_⟩
    have X1 := ex_new (o := .tup [.ty "list", .ty "tuple"]) ntp
    have ty : ∃ t, TyX K (upd H tp (.tup [.ty "list", .ty "tuple"])) (.ref p) t ∧ PySem.W.kitAny K t [.type "list", .type "tuple"] = some true := by
      rcases hp with h | h
      · exact ⟨_, .base (.lst (X1 _ _ h)), kitAny_cons (b := true) (kit_ty (by decide +kernel)) (fun z => nomatch z) (fun _ => rfl)⟩
      · exact ⟨_, .base (.tup (X1 _ _ h)), kitAny_cons (b := false) (kit_ty (by decide +kernel)) (fun _ => kitAny_cons (b := true) (kit_ty (by decide +kernel)) (fun z => nomatch z) (fun _ => rfl)) (by decide)⟩
    obtain ⟨t, ty, kt⟩ := ty
    refine ⟨.ref p, tp, _, t, _, true, rfl, upd_same, .cons (.ty "list") (.cons (.ty "tuple") .nil), ty, kt, true, rfl, iteF ?_⟩
    generalize upd H tp (.tup [.ty "list", .ty "tuple"]) = H1 at X1 ty ⊢
    refine ⟨_, rfl, p, as.map V.ref, rfl, ?_⟩
    have rest : ∀ t2 H2, Ex H1 H2 → H2 t2 = some (.tup (as.map V.ref)) → (tSeq (tIfS (tOr (tNot (tB (tCB (rAll K) (tCons (tLc (iTup K (tVar 1)) (gName 2) tYes (tCB (rIsi K) (tCons (tVar 2) (tCons (tC (V.ref (He.ga K "Short"))) tNil))) (List.map (fun x => x.snd) [(Str.ofString "one", 2)])) tNil)))) (tNot (tB (tFc (sp_all_rising K) (fun cls d x H => E cls d H) (tCons (tVar 1) tNil))))) (fun x σ H => (fun cls d H' => E cls d H') (Value.ref (He.ga K "NoPiece")) none H) tNext) (tRet (tVar 1))) { nx := fun _ H' => Q .non H', rt := Q } [some (.ref p), some (.ref t2), none] H2 := fun t2 H2 X2 h2 => by
      have X02 := X1.trans X2
      have hA2 := hA.mono X02
      refine ⟨_, rfl, t2, rfl, ⟨_, sq_tup h2⟩, fun A nA => lc_on as V.ref L2.walk_tup (fun _ => some (.bl true)) (fun H' => Ex H2 H') (fun H' z e => ex_mut e nA) (.refl _) (by omega) (fun H' e => sq_tup (e _ _ h2)) (fun i x H3 acc N hx X3 hD la k => ?_) fun H3 X3 d3 => ?_⟩
      · obtain ⟨t, ht, hS⟩ := hA2.get hx
        have hS3 := hS.mono X3
        cases t with
        | «at» n =>
          unfold ShAt at hS3
          obtain ⟨dx, h1⟩ := hS3
          exact ⟨rfl, _, rfl, .ref x, .ref (He.ga K "Short"), _, _, true, rfl, .own _, ty_ins T.i_At T.c_At h1, T.kit_At_Short, acc, hD, la, k H3 X3 hD⟩
        | ov ps m s =>
          unfold ShAt at hS3
          obtain ⟨dx, kp, as', h1, _⟩ := hS3
          exact ⟨rfl, _, rfl, .ref x, .ref (He.ga K "Short"), _, _, true, rfl, .own _, ty_ins T.i_Over T.c_Over h1, T.kit_Over_Short, acc, hD, la, k H3 X3 hD⟩
      · have ef : as.filterMap (fun _ => some (V.bl true)) = (List.replicate as.length true).map V.bl := by
          rw [List.map_replicate, ← List.map_const', List.filterMap_eq_map']
        rw [ef] at d3
        refine ⟨A, _, rfl, sq_lst d3, ?_⟩
        rw [all_repT]
        refine ⟨true, rfl, iteF ?_⟩
        refine ⟨_, rfl, t2, as, ts, rfl, X3 _ _ h2, hA2.mono X3, hn, hok, hl, fun H4 X4 => ⟨_, rfl, ?_⟩⟩
        cases hr2 : risB ts with
        | true =>
          refine iteF ?_
          exact ⟨_, rfl, q hr2 t2 H4 (X02.trans (X3.trans X4)) ((X3.trans X4) _ _ h2)⟩
        | false => exact iteT (qe hr2 H4 (X02.trans (X3.trans X4)))
    rcases hp with h | h
    · exact .inl ⟨sq_lst (X1 _ _ h), fun t2 nt2 => rest t2 _ (ex_new nt2) upd_same⟩
    · exact .inr ⟨sq_tup (X1 _ _ h), rest p _ (.refl _) (X1 _ _ h)⟩
theorem ok_shorts_in {P : Program} {w : World} {K : PySem.W.Frag} {mg : Str → Option Value} {base : Heap} (T : Env K mg) : Fc P w K mg base 61 (He.ga K "shorts_in") [] (sp_shorts_in K ) := by
  obtain ⟨fd, D, F⟩ := fb_shorts_in T
  exact F.all (D.bindsN fun _ _ _ _ _ _ us hl => match us, hl with | [_], _ => rfl)
end
section
def sp_At_moments (K : PySem.W.Frag) : Sp := fun vs H Q _ => ∃ a n, vs = [.ref a] ∧ AtAt K H a n ∧ ∀ p, H p = none → Q (.ref p) (upd H p (.lst [.int (n : Nat)]))
theorem fb_At_moments {P : Program} {w : World} {K : PySem.W.Frag} {mg : Str → Option Value} {base : Heap} (T : Env K mg) : ∃ fd, FunD K "moments" "At.moments" (defArgs s_At_moments) (defBody s_At_moments) (defScope s_At_moments) [] [] (He.ma K (He.ga K "At") "moments") fd ∧ Fb P w K mg base 1 (He.ma K (He.ga K "At") "moments") fd ["self"] (sp_At_moments K) := by
  obtain ⟨fd, F⟩ := T.f_At_moments
  refine ⟨fd, F, fb_of F sc_At_moments (fun vs H Q E h => ?_) (fun cdv A outer s H vs Q E hr h => ?_)⟩
  · obtain ⟨a, n, rfl, _⟩ := h
    rfl
  · obtain ⟨a, n, rfl, ⟨dx, ha⟩, q⟩ := h
    refine ⟨_, (pss_one (ps_ret (pe_lst (pa_cons (pe_fld (pv 0) (by rfl)) pa_nil)))), ?_⟩
    exact ⟨_, rfl, a, _, dx, _, _, rfl, ha, T.c_At, T.a_At_moment, rfl, by show 1 ≤ sizeLine; decide, q⟩
theorem ok_At_moments {P : Program} {w : World} {K : PySem.W.Frag} {mg : Str → Option Value} {base : Heap} (T : Env K mg) : Fc P w K mg base 1 (He.ma K (He.ga K "At") "moments") [] (sp_At_moments K ) := by
  obtain ⟨fd, D, F⟩ := fb_At_moments T
  exact F.all (D.bindsN fun _ _ _ _ _ _ us hl => match us, hl with | [_], _ => rfl)
end
section
def sp_row_moments (K : PySem.W.Frag) (d : Nat) : Sp := fun vs H Q _ => ∃ (p : Addr) (as : List Addr) (ts : List Tr), vs = [.ref p] ∧ H p = some (.tup (as.map V.ref)) ∧ ShsAt K H ts as ∧ nestL ts ≤ d ∧ okL_ ts ∧ (momsL ts).length ≤ 1440 ∧ ∀ t H', Ex H H' → H t = none → H' t = some (.lst (natV (momsL ts))) → Q (.ref t) H'
theorem fb_row_moments {P : Program} {w : World} {K : PySem.W.Frag} {mg : Str → Option Value} {base : Heap} (T : Env K mg) {d L : Nat} (hL : 40 ≤ L) (r_Over_moments : Fc P w K mg base L (He.ma K (He.ga K "Over") "moments") [] (sp_Over_moments K d)) : ∃ fd, FunD K "row_moments" "row_moments" (defArgs s_row_moments) (defBody s_row_moments) (defScope s_row_moments) [] [] (He.ga K "row_moments") fd ∧ Fb P w K mg base (L + 1) (He.ga K "row_moments") fd ["parts"] (sp_row_moments K (d)) := by
  obtain ⟨fd, F⟩ := T.f_row_moments
  refine ⟨fd, F, fb_of F sc_row_moments (fun vs H Q E h => ?_) (fun cdv A outer s H vs Q E hr h => ?_)⟩
  · obtain ⟨p, as, ts, rfl, _⟩ := h
    rfl
  · obtain ⟨p, as, ts, rfl, hp, hA, hn, hok, hl, q⟩ := h
    refine ⟨_, (pss_cons (ps_set (i := 1) sc_row_moments.nd rfl (Or.inl rfl) (pe_lst pa_nil))
      (pss_cons (ps_for (passes_of rfl) rfl (pi_tup (pv 0)) (pg_name (i := 2) sc_row_moments.nd rfl (Or.inl rfl))
      (pss_one (ps_expr (pe_bm PySem.F.plainAttrs_list PySem.F.slot_list_extend PySem.F.type_list_extend mt_extend (pv 1) (pa_cons (pe_orE (c_meth0 (pv 2) T.c_At T.m_At_moments (ok_At_moments T) (hr.mono (by omega)) takes0) (c_meth0 (pv 2) T.c_Over T.m_Over_moments r_Over_moments (hr.mono (by omega)) takes0)) pa_nil)))))
      (pss_one (ps_ret (pv 1))))), ?_⟩
    refine ⟨by show 0 ≤ sizeLine; decide, fun f nf => ?_⟩
    have X0 := ex_new (o := .lst []) nf
    have hl1 := hA.len
    have pf : p ≠ f := ne_of_none hp nf
    refine ⟨_, rfl, p, rfl, ⟨_, sq_tup (X0 _ _ hp)⟩, for_on as V.ref L2.walk_tup (fun i σ H' => Oth f H H' ∧ ∃ v2, σ = [some (.ref p), some (.ref f), v2] ∧ H' f = some (.lst (natV (momsL (ts.take i))))) ⟨ex_oth X0, _, rfl, upd_same⟩ (fun i σ H' z => sq_tup (z.1 _ _ pf hp)) ?_ ?_⟩
    · rintro i a σ H2 hx ⟨O2, v2, rfl, hf⟩
      obtain ⟨t, ht, hS⟩ := hA.get hx
      have htm := List.mem_of_getElem? ht
      have X2 : Ex H H2 := fun b o e => O2 b o (ne_of_none e nf) e
      have eT := momsL_take ht
      have bT := momsL_take_len ts (i + 1)
      rw [eT, List.length_append] at bT
      have hS2 := hS.mono X2
      have fin : ∀ (u : Addr) (H3 : Hp), Ex H2 H3 → H3 u = some (.lst (natV t.moms)) → rExtend (.ref f) [.ref u] H3 (fun _ H' => Oth f H H' ∧ ∃ v2', [some (V.ref p), some (V.ref f), some (V.ref a)] = [some (.ref p), some (.ref f), v2'] ∧ H' f = some (.lst (natV (momsL (ts.take (i + 1)))))) := fun u H3 X3 hu => by
        refine ⟨f, u, _, _, rfl, rfl, X3 _ _ hf, hu, sz_le (by rw [natV_len, natV_len]; omega), (O2.trans (ex_oth X3)).upd, _, rfl, ?_⟩
        rw [upd_same, eT]
        unfold natV
        rw [List.map_append]
      refine ⟨_, rfl, .inl ⟨rfl, _, sq_lst hf⟩, ?_⟩
      cases t with
      | «at» n =>
        unfold ShAt at hS2
        obtain ⟨dx, h2⟩ := id hS2
        exact .inl ⟨_, rfl, a, dx, _, rfl, h2, rfl, a, n, rfl, hS2, fun u nu => fin u _ (ex_new nu) (by rw [upd_same]; unfold Tr.moms; rfl)⟩
      | ov ps m s =>
        obtain ⟨dx, kp, as', h2, _⟩ := (by unfold ShAt at hS2; exact hS2 : ∃ dx kp as, H2 a = some (.ins (OverC K) dx (overF kp m s)) ∧ H2 kp = some (.tup (as.map V.ref)) ∧ ShsAt K H2 ps as)
        exact .inr ⟨_, rfl, a, dx, _, rfl, h2, rfl, a, ps, m, s, rfl, hS2, Nat.le_trans (nestL_mem htm) hn, okL_mem hok htm, fun u H3 X3 nu hu => fin u H3 X3 hu⟩
    · rintro σ H2 ⟨O2, v2, rfl, hf⟩
      rw [List.take_of_length_le (by omega)] at hf
      exact ⟨_, rfl, q f H2 (fun b o e => O2 b o (ne_of_none e nf) e) nf hf⟩
theorem ok_row_moments {P : Program} {w : World} {K : PySem.W.Frag} {mg : Str → Option Value} {base : Heap} (T : Env K mg) {d L : Nat} (hL : 40 ≤ L) (r_Over_moments : Fc P w K mg base L (He.ma K (He.ga K "Over") "moments") [] (sp_Over_moments K d)) : Fc P w K mg base (L + 1) (He.ga K "row_moments") [] (sp_row_moments K (d)) := by
  obtain ⟨fd, D, F⟩ := fb_row_moments T hL r_Over_moments
  exact F.all (D.bindsN fun _ _ _ _ _ _ us hl => match us, hl with | [_], _ => rfl)
end
section
def sp_At_means_many (K : PySem.W.Frag) : Sp := fun vs H Q _ => ∃ a n, vs = [.ref a] ∧ AtAt K H a n ∧ Q (.int 1) H
theorem fb_At_means_many {P : Program} {w : World} {K : PySem.W.Frag} {mg : Str → Option Value} {base : Heap} (T : Env K mg) : ∃ fd, FunD K "means_many" "At.means_many" (defArgs s_At_means_many) (defBody s_At_means_many) (defScope s_At_means_many) [] [] (He.ma K (He.ga K "At") "means_many") fd ∧ Fb P w K mg base 1 (He.ma K (He.ga K "At") "means_many") fd ["self"] (sp_At_means_many K) := by
  obtain ⟨fd, F⟩ := T.f_At_means_many
  refine ⟨fd, F, fb_of F sc_At_means_many (fun vs H Q E h => ?_) (fun cdv A outer s H vs Q E hr h => ?_)⟩
  · obtain ⟨a, n, rfl, _⟩ := h
    rfl
  · obtain ⟨a, n, rfl, ⟨dx, ha⟩, q⟩ := h
    refine ⟨_, (pss_one (ps_ret pe_int)), ?_⟩
    exact q
theorem ok_At_means_many {P : Program} {w : World} {K : PySem.W.Frag} {mg : Str → Option Value} {base : Heap} (T : Env K mg) : Fc P w K mg base 1 (He.ma K (He.ga K "At") "means_many") [] (sp_At_means_many K ) := by
  obtain ⟨fd, D, F⟩ := fb_At_means_many T
  exact F.all (D.bindsN fun _ _ _ _ _ _ us hl => match us, hl with | [_], _ => rfl)
end
section
theorem range_opt {α : Type} (ts : List α) (f : α → V) : (List.range ts.length).filterMap (fun i => (ts[i]?).map f) = ts.map f := by
  induction ts with
  | nil => rfl
  | cons t r ih =>
    rw [List.length_cons, List.range_succ_eq_map, List.filterMap_cons, List.filterMap_map]
    show f t :: List.filterMap (fun i => (r[i]?).map f) (List.range r.length) = f t :: r.map f
    rw [ih]
theorem sum_many : ∀ ts : List Tr, (ts.map fun t => ((t.moms.length : Nat) : Int)).sum = (((momsL ts).length : Nat) : Int)
  | [] => rfl
  | t :: r => by
    rw [List.map_cons, List.sum_cons, sum_many r]
    have e : momsL (t :: r) = t.moms ++ momsL r := by simp [momsL]
    rw [e, List.length_append]
    omega
def sp_row_many (K : PySem.W.Frag) (d : Nat) : Sp := fun vs H Q _ => ∃ (p : Addr) (as : List Addr) (ts : List Tr), vs = [.ref p] ∧ H p = some (.tup (as.map V.ref)) ∧ ShsAt K H ts as ∧ nestL ts ≤ d ∧ okL_ ts ∧ ts.length ≤ 20000 ∧ ∀ H', Ex H H' → Q (.int (((momsL ts).length : Nat) : Int)) H'
theorem fb_row_many {P : Program} {w : World} {K : PySem.W.Frag} {mg : Str → Option Value} {base : Heap} (T : Env K mg) {d L : Nat} (hL : 40 ≤ L) (r_Over_means_many : Fc P w K mg base L (He.ma K (He.ga K "Over") "means_many") [] (sp_Over_means_many K d)) : ∃ fd, FunD K "row_many" "row_many" (defArgs s_row_many) (defBody s_row_many) (defScope s_row_many) [] [] (He.ga K "row_many") fd ∧ Fb P w K mg base (L + 1) (He.ga K "row_many") fd ["parts"] (sp_row_many K (d)) := by
  obtain ⟨fd, F⟩ := T.f_row_many
  refine ⟨fd, F, fb_of F sc_row_many (fun vs H Q E h => ?_) (fun cdv A outer s H vs Q E hr h => ?_)⟩
  · obtain ⟨p, as, ts, rfl, _⟩ := h
    rfl
  · obtain ⟨p, as, ts, rfl, hp, hA, hn, hok, hl, q⟩ := h
    refine ⟨_, (pss_one (ps_ret (pe_callB (cr_sum rfl) (by rfl) T.n_sum (by decide +kernel) (pa_cons (pe_lc (own := [("one", 1)]) (by rfl) sc_row_many.nd (pi_tup (pv 0)) (blkOk_by (own := [("one", 1)]) (N := ["parts", "one"]) (sc := defScope s_row_many) (by decide +kernel)) (fun _ _ _ _ _ => (pg_name (i := 1) sc_row_many.nd rfl (Or.inl rfl))) (fun _ _ _ _ _ => pts_nil) (fun _ _ _ _ _ => (pe_orE (c_meth0 (pv 1) T.c_At T.m_At_means_many (ok_At_means_many T) (hr.mono (by omega)) takes0) (c_meth0 (pv 1) T.c_Over T.m_Over_means_many r_Over_means_many (hr.mono (by omega)) takes0)))) pa_nil)))), ?_⟩
    have hl1 := hA.len
    have hl2 := len_moms hok
    refine ⟨_, rfl, p, rfl, ⟨_, sq_tup hp⟩, fun A nA => lc_fm L2.walk_tup (fun i => (ts[i]?).map fun t => .int ((t.moms.length : Nat) : Int)) (fun H' => Ex H H') (fun H' z e => ex_mut e nA) (.refl _) (by rw [List.length_map]; omega) (fun H' e => sq_tup (e _ _ hp)) (fun i x H2 H3 acc N hi e hD la y k => ?_) fun H3 X3 d3 => ?_⟩
    · obtain ⟨rfl, y⟩ := y
      rw [List.getElem?_map] at y
      obtain ⟨a, ha, rfl⟩ := Option.map_eq_some_iff.mp y
      obtain ⟨t, ht, hS⟩ := hA.get ha
      have htm := List.mem_of_getElem? ht
      have hS2 := hS.mono e
      have k2 := fun H4 (X4 : Ex H3 H4) => k H4 (e.trans X4) (X4 _ _ hD)
      rw [ht] at k2
      have ok := okL_mem hok htm
      cases t with
      | «at» n =>
        unfold ShAt at hS2
        obtain ⟨dx, h2⟩ := id hS2
        exact ⟨rfl, .inl ⟨_, rfl, a, dx, _, rfl, h2, rfl, a, n, rfl, hS2, acc, hD, la, k2 H3 (.refl _)⟩⟩
      | ov ps m s =>
        obtain ⟨dx, kp, as', h2, _⟩ := (by unfold ShAt at hS2; exact hS2 : ∃ dx kp as, H3 a = some (.ins (OverC K) dx (overF kp m s)) ∧ H3 kp = some (.tup (as.map V.ref)) ∧ ShsAt K H3 ps as)
        obtain ⟨_, _, _, _, o5', _, o7⟩ := ov_facts ok
        have o5 : ps.length ≤ 20000 := by omega
        refine ⟨rfl, .inr ⟨_, rfl, a, dx, _, rfl, h2, rfl, a, ps, m, s, rfl, hS2, Nat.le_trans (nestL_mem htm) hn, o7, o5, fun H4 X4 => ⟨acc, X4 _ _ hD, la, ?_⟩⟩⟩
        have k3 : N (upd H4 A (.lst (acc ++ [.int (((Tr.ov ps m s).moms.length : Nat) : Int)]))) := k2 H4 X4
        rw [show (Tr.ov ps m s).moms.length = m * (momsL ps).length from by unfold Tr.moms; exact overN_len _ _ _] at k3
        exact k3
    · rw [List.length_map, hl1, range_opt ts (fun t => V.int ((t.moms.length : Nat) : Int))] at d3
      have e1 : ts.map (fun t => V.int ((t.moms.length : Nat) : Int)) = (ts.map fun t => ((t.moms.length : Nat) : Int)).map V.int := by
        rw [List.map_map]
        rfl
      rw [e1] at d3
      refine ⟨A, _, rfl, sq_lst d3, ?_⟩
      rw [sum_many]
      exact q _ X3
theorem ok_row_many {P : Program} {w : World} {K : PySem.W.Frag} {mg : Str → Option Value} {base : Heap} (T : Env K mg) {d L : Nat} (hL : 40 ≤ L) (r_Over_means_many : Fc P w K mg base L (He.ma K (He.ga K "Over") "means_many") [] (sp_Over_means_many K d)) : Fc P w K mg base (L + 1) (He.ga K "row_many") [] (sp_row_many K (d)) := by
  obtain ⟨fd, D, F⟩ := fb_row_many T hL r_Over_means_many
  exact F.all (D.bindsN fun _ _ _ _ _ _ us hl => match us, hl with | [_], _ => rfl)
end
section
def sp_At_nested (K : PySem.W.Frag) : Sp := fun vs H Q _ => ∃ a n, vs = [.ref a] ∧ AtAt K H a n ∧ Q (.int 0) H
theorem fb_At_nested {P : Program} {w : World} {K : PySem.W.Frag} {mg : Str → Option Value} {base : Heap} (T : Env K mg) : ∃ fd, FunD K "nested" "At.nested" (defArgs s_At_nested) (defBody s_At_nested) (defScope s_At_nested) [] [] (He.ma K (He.ga K "At") "nested") fd ∧ Fb P w K mg base 1 (He.ma K (He.ga K "At") "nested") fd ["self"] (sp_At_nested K) := by
  obtain ⟨fd, F⟩ := T.f_At_nested
  refine ⟨fd, F, fb_of F sc_At_nested (fun vs H Q E h => ?_) (fun cdv A outer s H vs Q E hr h => ?_)⟩
  · obtain ⟨a, n, rfl, _⟩ := h
    rfl
  · obtain ⟨a, n, rfl, ⟨dx, ha⟩, q⟩ := h
    refine ⟨_, (pss_one (ps_ret pe_int)), ?_⟩
    exact q
theorem ok_At_nested {P : Program} {w : World} {K : PySem.W.Frag} {mg : Str → Option Value} {base : Heap} (T : Env K mg) : Fc P w K mg base 1 (He.ma K (He.ga K "At") "nested") [] (sp_At_nested K ) := by
  obtain ⟨fd, D, F⟩ := fb_At_nested T
  exact F.all (D.bindsN fun _ _ _ _ _ _ us hl => match us, hl with | [_], _ => rfl)
end
section
theorem fb_Over_means_many {P : Program} {w : World} {K : PySem.W.Frag} {mg : Str → Option Value} {base : Heap} (T : Env K mg) {d L : Nat} (hL : 40 ≤ L) (r_Over_means_many : Fc P w K mg base L (He.ma K (He.ga K "Over") "means_many") [] (sp_Over_means_many K d)) : ∃ fd, FunD K "means_many" "Over.means_many" (defArgs s_Over_means_many) (defBody s_Over_means_many) (defScope s_Over_means_many) [] [] (He.ma K (He.ga K "Over") "means_many") fd ∧ Fb P w K mg base (L + 2) (He.ma K (He.ga K "Over") "means_many") fd ["self"] (sp_Over_means_many K (d + 1)) := by
  obtain ⟨fd, F⟩ := T.f_Over_means_many
  refine ⟨fd, F, fb_of F sc_Over_means_many (fun vs H Q E h => ?_) (fun cdv A outer s H vs Q E hr h => ?_)⟩
  · obtain ⟨a, ps, m, s, rfl, _⟩ := h
    rfl
  · obtain ⟨a, ps, m, s_, rfl, hO, hn, hok, hl, q⟩ := h
    refine ⟨_, (pss_one (ps_ret (pe_op op_mul (pe_fld (pv 0) (by rfl)) (c_call (ok_row_many T hL r_Over_means_many) (hr.mono (by omega)) T.g_row_many T.k_row_many takes0 (pa_cons (pe_fld (pv 0) (by rfl)) pa_nil))))), ?_⟩
    have hfew := momsL_few hok
    have hnL := ov_nest hn
    obtain ⟨dx, kp, as, ha, hk, hA⟩ := (by unfold ShAt at hO; exact hO : ∃ dx kp as, H a = some (.ins (OverC K) dx (overF kp m s_)) ∧ H kp = some (.tup (as.map V.ref)) ∧ ShsAt K H ps as)
    refine ⟨_, rfl, a, _, dx, _, _, rfl, ha, T.c_Over, T.a_Over_many, rfl, _, rfl, a, _, dx, _, _, rfl, ha, T.c_Over, T.a_Over_kept, rfl, kp, as, ps, rfl, hk, hA, hnL, hok, hl, fun H1 X1 => ⟨_, _, rfl, rfl, .inr ⟨by omega, by omega⟩, ?_⟩⟩
    have e : ((m : Nat) : Int) * (((momsL ps).length : Nat) : Int) = ((m * (momsL ps).length : Nat) : Int) := by simp
    show Q (.int (((m : Nat) : Int) * (((momsL ps).length : Nat) : Int))) H1
    rw [e]
    exact q H1 X1
theorem ok_Over_means_many {P : Program} {w : World} {K : PySem.W.Frag} {mg : Str → Option Value} {base : Heap} (T : Env K mg) {d L : Nat} (hL : 40 ≤ L) (r_Over_means_many : Fc P w K mg base L (He.ma K (He.ga K "Over") "means_many") [] (sp_Over_means_many K d)) : Fc P w K mg base (L + 2) (He.ma K (He.ga K "Over") "means_many") [] (sp_Over_means_many K (d + 1)) := by
  obtain ⟨fd, D, F⟩ := fb_Over_means_many T hL r_Over_means_many
  exact F.all (D.bindsN fun _ _ _ _ _ _ us hl => match us, hl with | [_], _ => rfl)
theorem all_Over_means_many {P : Program} {w : World} {K : PySem.W.Frag} {mg : Str → Option Value} {base : Heap} (T : Env K mg) : ∀ d, Fc P w K mg base (40 + 2 * d) (He.ma K (He.ga K "Over") "means_many") [] (sp_Over_means_many K d)
  | 0 => fc_no fun vs H Q E h => by
    obtain ⟨a, ps, m, s, _, _, h, _⟩ := h
    unfold Tr.nest at h
    omega
  | d + 1 => ok_Over_means_many T (Nat.le_add_right 40 _) (all_Over_means_many T d)
end
section
theorem fb_Over_nested {P : Program} {w : World} {K : PySem.W.Frag} {mg : Str → Option Value} {base : Heap} (T : Env K mg) {d L : Nat} (hL : 40 ≤ L) (r_Over_nested : Fc P w K mg base L (He.ma K (He.ga K "Over") "nested") [] (sp_Over_nested K d)) : ∃ fd, FunD K "nested" "Over.nested" (defArgs s_Over_nested) (defBody s_Over_nested) (defScope s_Over_nested) [] [] (He.ma K (He.ga K "Over") "nested") fd ∧ Fb P w K mg base (L + 1) (He.ma K (He.ga K "Over") "nested") fd ["self"] (sp_Over_nested K (d + 1)) := by
  obtain ⟨fd, F⟩ := T.f_Over_nested
  refine ⟨fd, F, fb_of F sc_Over_nested (fun vs H Q E h => ?_) (fun cdv A outer s H vs Q E hr h => ?_)⟩
  · obtain ⟨a, ps, m, s, rfl, _⟩ := h
    rfl
  · obtain ⟨a, ps, m, s_, rfl, hO, hn, h0, hok, hl, q⟩ := h
    refine ⟨_, (pss_one (ps_ret (pe_op op_add pe_int (pe_callB (cr_max rfl) (by rfl) T.n_max (by decide +kernel) (pa_cons (pe_lc (own := [("one", 1)]) (by rfl) sc_Over_nested.nd (pi_tup (pe_fld (pv 0) (by rfl))) (blkOk_by (own := [("one", 1)]) (N := ["self", "one"]) (sc := defScope s_Over_nested) (by decide +kernel)) (fun _ _ _ _ _ => (pg_name (i := 1) sc_Over_nested.nd rfl (Or.inl rfl))) (fun _ _ _ _ _ => pts_nil) (fun _ _ _ _ _ => (pe_orE (c_meth0 (pv 1) T.c_At T.m_At_nested (ok_At_nested T) (hr.mono (by omega)) takes0) (c_meth0 (pv 1) T.c_Over T.m_Over_nested r_Over_nested (hr.mono (by omega)) takes0)))) pa_nil))))), ?_⟩
    have hnL := ov_nest hn
    obtain ⟨dx, kp, as, ha, hk, hA⟩ := (by unfold ShAt at hO; exact hO : ∃ dx kp as, H a = some (.ins (OverC K) dx (overF kp m s_)) ∧ H kp = some (.tup (as.map V.ref)) ∧ ShsAt K H ps as)
    have hl1 := hA.len
    have hl2 := len_moms hok
    refine ⟨_, rfl, a, _, dx, _, _, rfl, ha, T.c_Over, T.a_Over_kept, rfl, kp, rfl, ⟨_, sq_tup hk⟩, fun A nA => lc_fm L2.walk_tup (fun i => (ps[i]?).map fun t => .int ((t.nest : Nat) : Int)) (fun H' => Ex H H') (fun H' z e => ex_mut e nA) (.refl _) (by rw [List.length_map]; omega) (fun H' e => sq_tup (e _ _ hk)) (fun i x H2 H3 acc N hi e hD la y k => ?_) fun H3 X3 d3 => ?_⟩
    · obtain ⟨rfl, y⟩ := y
      rw [List.getElem?_map] at y
      obtain ⟨b, hb, rfl⟩ := Option.map_eq_some_iff.mp y
      obtain ⟨t, ht, hS⟩ := hA.get hb
      have htm := List.mem_of_getElem? ht
      have hS2 := hS.mono e
      have k2 := fun H4 (X4 : Ex H3 H4) => k H4 (e.trans X4) (X4 _ _ hD)
      rw [ht] at k2
      have ok := okL_mem hok htm
      cases t with
      | «at» n =>
        unfold ShAt at hS2
        obtain ⟨dy, h2⟩ := id hS2
        exact ⟨rfl, .inl ⟨_, rfl, b, dy, _, rfl, h2, rfl, b, n, rfl, hS2, acc, hD, la, k2 H3 (.refl _)⟩⟩
      | ov ps' m' s' =>
        obtain ⟨dy, kp', as', h2, _⟩ := (by unfold ShAt at hS2; exact hS2 : ∃ dx kp as, H3 b = some (.ins (OverC K) dx (overF kp m' s')) ∧ H3 kp = some (.tup (as.map V.ref)) ∧ ShsAt K H3 ps' as)
        obtain ⟨o1, _, _, _, o5', _, o7⟩ := ov_facts ok
        have o5 : ps'.length ≤ 20000 := by omega
        exact ⟨rfl, .inr ⟨_, rfl, b, dy, _, rfl, h2, rfl, b, ps', m', s', rfl, hS2, Nat.le_trans (nestL_mem htm) hnL, o1, o7, o5, fun H4 X4 => ⟨acc, X4 _ _ hD, la, k2 H4 X4⟩⟩⟩
    · rw [List.length_map, hl1, range_opt ps (fun t => V.int ((t.nest : Nat) : Int))] at d3
      have e1 : ps.map (fun t => V.int ((t.nest : Nat) : Int)) = (ps.map fun t => ((t.nest : Nat) : Int)).map V.int := by
        rw [List.map_map]
        rfl
      rw [e1] at d3
      refine ⟨A, _, rfl, sq_lst d3, by rw [List.length_map]; exact List.length_pos_iff.mpr h0, fun mx hm hall => ⟨_, _, rfl, rfl, ?_⟩⟩
      have em : mx = ((nestL ps : Nat) : Int) := by
        obtain ⟨t, ht, e⟩ := List.mem_map.mp hm
        have h1 := nestL_mem ht
        obtain ⟨t2, ht2, e2⟩ := nestL_max h0
        have h2 := hall _ (List.mem_map.mpr ⟨t2, ht2, rfl⟩)
        omega
      have e : (1 : Int) + mx = (((Tr.ov ps m s_).nest : Nat) : Int) := by
        unfold Tr.nest
        omega
      show Q (.int (1 + mx)) H3
      rw [e]
      exact q H3 X3
theorem ok_Over_nested {P : Program} {w : World} {K : PySem.W.Frag} {mg : Str → Option Value} {base : Heap} (T : Env K mg) {d L : Nat} (hL : 40 ≤ L) (r_Over_nested : Fc P w K mg base L (He.ma K (He.ga K "Over") "nested") [] (sp_Over_nested K d)) : Fc P w K mg base (L + 1) (He.ma K (He.ga K "Over") "nested") [] (sp_Over_nested K (d + 1)) := by
  obtain ⟨fd, D, F⟩ := fb_Over_nested T hL r_Over_nested
  exact F.all (D.bindsN fun _ _ _ _ _ _ us hl => match us, hl with | [_], _ => rfl)
theorem all_Over_nested {P : Program} {w : World} {K : PySem.W.Frag} {mg : Str → Option Value} {base : Heap} (T : Env K mg) : ∀ d, Fc P w K mg base (40 + 1 * d) (He.ma K (He.ga K "Over") "nested") [] (sp_Over_nested K d)
  | 0 => fc_no fun vs H Q E h => by
    obtain ⟨a, ps, m, s, _, _, h, _⟩ := h
    unfold Tr.nest at h
    omega
  | d + 1 => ok_Over_nested T (Nat.le_add_right 40 _) (all_Over_nested T d)
end
section
theorem isN_nat_of {n : Int} {x : V} (h0 : 0 ≤ n) (h : isN n x = true) : ∃ m : Nat, x = .int (m : Nat) ∧ n ≤ (m : Int) := by
  unfold isN at h
  obtain ⟨_, h2⟩ := Bool.and_eq_true_iff.mp h
  cases x with
  | int i =>
    have h3 : n ≤ i := of_decide_eq_true h2
    obtain ⟨m, rfl⟩ := Int.eq_ofNat_of_zero_le (Int.le_trans h0 h3)
    exact ⟨m, rfl, h3⟩
  | _ => cases h2
/-- whether an Over may be made -/
def ovB (ts : List Tr) (xm xs : V) : Bool := risB ts && (decide (ts ≠ []) && (isN 2 xm && (isN 1 xs && (match xm, xs with
  | .int m, .int s => decide (((momsL ts).getLastD 0 : Int) < s + ((momsL ts).headD 0 : Int)) && (decide (m * ((momsL ts).length : Int) ≤ 1440) && decide (nestL ts ≤ 7))
  | _, _ => false))))
def sp_Over_init (K : PySem.W.Frag) : Sp := fun vs H Q E => (∃ (a dx p : Addr) (as : List Addr) (ts : List Tr) (xm xs : V) (H0 : Hp), vs = [.ref a, .ref p, xm, xs] ∧ H a = some (.ins (OverC K) dx []) ∧ H0 a = none ∧ Ex H0 H ∧ SqA H0 p (as.map V.ref) ∧ ShsAt K H0 ts as ∧ nestL ts ≤ 8 ∧ okL_ ts ∧ ts.length ≤ 20000 ∧ ts.length ≤ 20000 ∧ Cl K H0 xm ∧ Cl K H0 xs ∧ (∀ m s : Nat, ovB ts xm xs = true → xm = .int (m : Nat) → xs = .int (s : Nat) → ∀ H', Oth a H H' → ShAt K H' (.ov ts m s) a → Q .non H') ∧ (ovB ts xm xs = false → ∀ H', Oth a H H' → E (.ref (He.ga K "NoPiece")) none H')) ∨ (∃ (a dx : Addr) (x xm xs : V) (H0 : Hp), vs = [.ref a, x, xm, xs] ∧ H0 a = none ∧ Ex H0 H ∧ NoParts K H0 x ∧ ∀ H', Oth a H H' → E (.ref (He.ga K "NoPiece")) none H')
theorem fb_Over_init {P : Program} {w : World} {K : PySem.W.Frag} {mg : Str → Option Value} {base : Heap} (T : Env K mg) : ∃ fd, FunD K "__init__" "Over.__init__" (defArgs s_Over_init) (defBody s_Over_init) (defScope s_Over_init) [.int (2), .int (60)] [] (He.ma K (He.ga K "Over") "__init__") fd ∧ Fb P w K mg base 64 (He.ma K (He.ga K "Over") "__init__") fd ["self", "parts", "many", "step"] (sp_Over_init K) := by
  obtain ⟨fd, F⟩ := T.f_Over_init
  refine ⟨fd, F, fb_of F sc_Over_init (fun vs H Q E h => ?_) (fun cdv A outer s H vs Q E hr h => ?_)⟩
  · rcases h with ⟨a, dx, p, as, ts, xm, xs, H0, rfl, _⟩ | ⟨a, dx, x, xm, xs, H0, rfl, _⟩
    · rfl
    · rfl
  · refine ⟨_, (pss_cons (ps_fld (pv 0) (c_call (ok_shorts_in T) (hr.mono (by decide)) T.g_shorts_in T.k_shorts_in (takes_of rfl rfl rfl rfl) (pa_cons (pv 1) pa_nil)) rfl)
      (pss_cons (ps_if (PW.pt (pw_or (pt_cmpR op_eq (pe_callB call_len (by rfl) T.n_len (by decide +kernel) (pa_cons (pe_fld (pv 0) (by rfl)) pa_nil)) pe_int (nomark _)) (pw_or (pt_not (pt_val (c_call (ok_is_number T) (hr.mono (by decide)) T.g_is_number T.k_is_number (takes_of rfl rfl rfl rfl) (pa_cons (pv 2) (pa_cons pe_int pa_nil))))) (pw_or1 (pt_not (pt_val (c_call (ok_is_number T) (hr.mono (by decide)) T.g_is_number T.k_is_number (takes_of rfl rfl rfl rfl) (pa_cons (pv 3) (pa_cons pe_int pa_nil)))))))))
      (pss_one (ps_raise rfl (takes_of rfl rfl rfl rfl) (pmk_own PySem.F.excBase_ValueError T.x_NoPiece.x T.g_NoPiece T.x_NoPiece.kp (raises_own T.x_NoPiece.sub T.x_NoPiece.ty) rfl)))
      pss_nil)
      (pss_cons (ps_if (pt_cmpR op_le (pv 3) (pe_op op_sub (pe_orE (c_meth0 (pe_ix ix_tup (pe_fld (pv 0) (by rfl)) (pe_un un_neg pe_int) (fun _ _ => rfl)) T.c_At T.m_At_ends (ok_At_ends T) (hr.mono (by decide)) (takes_of rfl rfl rfl rfl)) (c_meth0 (pe_ix ix_tup (pe_fld (pv 0) (by rfl)) (pe_un un_neg pe_int) (fun _ _ => rfl)) T.c_Over T.m_Over_ends (all_Over_ends T 9) (hr.mono (by decide)) (takes_of rfl rfl rfl rfl))) (pe_orE (c_meth0 (pe_ix ix_tup (pe_fld (pv 0) (by rfl)) pe_int (fun _ _ => rfl)) T.c_At T.m_At_begins (ok_At_begins T) (hr.mono (by decide)) (takes_of rfl rfl rfl rfl)) (c_meth0 (pe_ix ix_tup (pe_fld (pv 0) (by rfl)) pe_int (fun _ _ => rfl)) T.c_Over T.m_Over_begins (all_Over_begins T 9) (hr.mono (by decide)) (takes_of rfl rfl rfl rfl)))) (nomark _))
      (pss_one (ps_raise rfl (takes_of rfl rfl rfl rfl) (pmk_own PySem.F.excBase_ValueError T.x_NoPiece.x T.g_NoPiece T.x_NoPiece.kp (raises_own T.x_NoPiece.sub T.x_NoPiece.ty) rfl)))
      pss_nil)
      (pss_cons (ps_fld (pv 0) (pv 2) rfl)
      (pss_cons (ps_fld (pv 0) (pv 3) rfl)
      (pss_one (ps_if (PW.pt (pw_or (pt_cmpR op_gt (c_meth0 (pv 0) T.c_Over T.m_Over_means_many (all_Over_means_many T 9) (hr.mono (by decide)) (takes_of rfl rfl rfl rfl)) (pe_k T.v_MOST_MOMENTS) (nomark _)) (pw_or1 (pt_cmpR op_gt (c_meth0 (pv 0) T.c_Over T.m_Over_nested (all_Over_nested T 9) (hr.mono (by decide)) (takes_of rfl rfl rfl rfl)) (pe_k T.v_MOST_NESTED) (nomark _)))))
      (pss_one (ps_raise rfl (takes_of rfl rfl rfl rfl) (pmk_own PySem.F.excBase_ValueError T.x_NoPiece.x T.g_NoPiece T.x_NoPiece.kp (raises_own T.x_NoPiece.sub T.x_NoPiece.ty) rfl)))
      pss_nil))))))), ?_⟩
    rcases h with ⟨a, dx, p, as, ts, xm, xs, H0, rfl, ha, na0, X0, hp, hA, hn, hok, hlm, hlt, cm, cs, q, qe⟩ | ⟨a, dx, x, xm, xs, H0, rfl, na0, X0, hN, qe⟩
    rotate_left
    · exact ⟨_, rfl, .inr ⟨x, rfl, hN.mono X0, fun H1 X1 => qe H1 (ex_oth X1)⟩⟩
    have hl1 := hA.len
    have hpH : SqA H p (as.map V.ref) := hp.imp (fun h => X0 _ _ h) (fun h => X0 _ _ h)
    refine ⟨_, rfl, .inl ⟨p, as, ts, rfl, hpH, hA.mono X0, by omega, hok, hlt, fun hr2 t H1 X1 ht => ?_, fun hr2 H1 X1 => qe (by unfold ovB; rw [hr2]; rfl) H1 (ex_oth X1)⟩⟩
    refine ⟨_, rfl, a, _, dx, [], rfl, X1 _ _ ha, T.c_Over, T.a_Over_kept, by decide, ?_⟩
    have ta : t ≠ a := fun z => by rw [z, X1 _ _ ha] at ht; cases ht
    have O1 : Oth a H (upd H1 a (.ins (OverC K) dx (putF "kept" (.ref t) []))) := (ex_oth X1).upd
    have h2 : upd H1 a (.ins (OverC K) dx (putF "kept" (.ref t) [])) a = some (.ins (OverC K) dx [("kept", .ref t)]) := upd_same
    have ht2 : upd H1 a (.ins (OverC K) dx (putF "kept" (.ref t) [])) t = some (.tup (as.map V.ref)) := by rw [upd_ne ta]; exact ht
    generalize upd H1 a (.ins (OverC K) dx (putF "kept" (.ref t) [])) = H2 at O1 h2 ht2 ⊢
    have X02 : Ex H0 H2 := Oth.ex X0 na0 O1
    have hA2 : ShsAt K H2 ts as := hA.mono X02
    refine ⟨_, rfl, a, _, dx, _, _, rfl, h2, T.c_Over, T.a_Over_kept, rfl, _, as.length, rfl, .inr ⟨_, sq_tup ht2, (List.length_map _).symm⟩, rfl, _, rfl, ?_⟩
    by_cases h0 : ts = []
    · rw [decide_eq_true (show V.int ((as.length : Nat) : Int) = V.int 0 by rw [hl1, h0]; rfl)]
      refine iteT ?_
      refine qe ?_ H2 O1
      unfold ovB
      rw [hr2, decide_eq_false (fun z => z h0)]
      rfl
    have pos : 0 < ts.length := List.length_pos_iff.mpr h0
    rw [decide_eq_false (show ¬ V.int ((as.length : Nat) : Int) = V.int 0 from fun z => by injection z with z; omega)]
    refine iteF ?_
    refine ⟨_, rfl, xm, 2, rfl, cm.mono X02, _, rfl, ?_⟩
    cases hm2 : isN 2 xm with
    | false =>
      refine iteT ?_
      refine qe ?_ H2 O1
      unfold ovB
      rw [hr2, decide_eq_true h0, hm2]
      rfl
    | true =>
    refine iteF ?_
    refine ⟨_, rfl, xs, 1, rfl, cs.mono X02, _, rfl, ?_⟩
    cases hs2 : isN 1 xs with
    | false =>
      refine iteT ?_
      refine qe ?_ H2 O1
      unfold ovB
      rw [hr2, decide_eq_true h0, hm2, hs2]
      rfl
    | true =>
    refine iteF ?_
    obtain ⟨m, rfl, hm⟩ := isN_nat_of (by decide) hm2
    obtain ⟨s_, rfl, hs1⟩ := isN_nat_of (by decide) hs2
    have eB : ovB ts (.int (m : Nat)) (.int (s_ : Nat)) = (decide (((momsL ts).getLastD 0 : Int) < ((s_ : Nat) : Int) + ((momsL ts).headD 0 : Int)) && (decide (((m : Nat) : Int) * ((momsL ts).length : Int) ≤ 1440) && decide (nestL ts ≤ 7))) := by
      unfold ovB
      rw [hr2, decide_eq_true h0, hm2, hs2]
      rfl
    have nn := momsL_ne hok h0
    obtain ⟨zf, rf, tf, rt, eas, ets, hSf⟩ : ∃ z r t u, as = z :: r ∧ ts = t :: u ∧ ShAt K H2 t z := by
      cases ts with
      | nil => exact absurd rfl h0
      | cons t u =>
        unfold ShsAt at hA2
        obtain ⟨z, r, e, h1, _⟩ := hA2
        exact ⟨z, r, t, u, e, rfl, h1⟩
    have as0 : as ≠ [] := fun z => by rw [z] at eas; cases eas
    obtain ⟨zl, gl, aL⟩ := last_ref as0
    obtain ⟨tl, htl, hSl⟩ := hA2.get gl
    have ep : ts = ts.dropLast ++ [tl] := by
      have e := (List.dropLast_concat_getLast h0).symm
      have e2 : ts.getLast h0 = tl := by
        rw [List.getLast_eq_getElem]
        rw [hl1] at htl
        obtain ⟨_, e⟩ := List.getElem?_eq_some_iff.mp htl
        exact e
      rw [e2] at e
      exact e
    have eL : (momsL ts).getLastD 0 = tl.moms.getLastD 0 := by
      have o7 := hok
      rw [ep] at o7 ⊢
      exact momsL_last o7
    have eF : (momsL ts).headD 0 = tf.moms.headD 0 := by
      have o7 := hok
      rw [ets] at o7 ⊢
      exact momsL_head o7
    have mf : tf ∈ ts := by rw [ets]; exact List.mem_cons_self
    have ml := List.mem_of_getElem? htl
    have aF : atI (as.map V.ref) 0 = some (.ref zf) := by rw [eas]; exact atI_nat (j := 0) rfl
    refine ⟨_, rfl, ?_⟩
    refine sh_ends hSl (okL_mem hok ml) (Nat.le_trans (nestL_mem ml) (by omega)) (fun R r => ⟨_, rfl, a, _, dx, _, _, rfl, h2, T.c_Over, T.a_Over_kept, rfl, _, rfl, t, _, _, _, rfl, rfl, sq_tup ht2, aL, r⟩) ?_
    refine sh_begins hSf (okL_mem hok mf) (Nat.le_trans (nestL_mem mf) (by omega)) (fun R r => ⟨_, rfl, a, _, dx, _, _, rfl, h2, T.c_Over, T.a_Over_kept, rfl, t, _, _, _, rfl, rfl, sq_tup ht2, aF, r⟩) ?_
    refine ⟨_, _, rfl, rfl, _, _, rfl, rfl, _, rfl, ?_⟩
    rw [← eL, ← eF]
    by_cases c1 : ((momsL ts).getLastD 0 : Int) < ((s_ : Nat) : Int) + ((momsL ts).headD 0 : Int)
    · rw [decide_eq_false (show ¬ ((s_ : Nat) : Int) ≤ (((momsL ts).getLastD 0 : Nat) : Int) - (((momsL ts).headD 0 : Nat) : Int) by omega)]
      refine iteF ?_
      refine ⟨_, rfl, _, rfl, a, _, dx, _, rfl, h2, T.c_Over, T.a_Over_many, Nat.le_of_ble_eq_true rfl, ?_⟩
      refine ⟨_, rfl, _, rfl, a, _, dx, _, rfl, upd_same, T.c_Over, T.a_Over_step, Nat.le_of_ble_eq_true rfl, ?_⟩
      rw [upd_upd]
      rw [show putF "step" (V.int (s_ : Nat)) (putF "many" (V.int (m : Nat)) [("kept", V.ref t)]) = overF t m s_ from rfl]
      have O3 : Oth a H (upd H2 a (.ins (OverC K) dx (overF t m s_))) := O1.upd
      have X03 : Ex H0 (upd H2 a (.ins (OverC K) dx (overF t m s_))) := Oth.ex X0 na0 O3
      have h3 : upd H2 a (.ins (OverC K) dx (overF t m s_)) a = some (.ins (OverC K) dx (overF t m s_)) := upd_same
      have hO : ShAt K (upd H2 a (.ins (OverC K) dx (overF t m s_))) (.ov ts m s_) a := by
        unfold ShAt
        exact ⟨dx, t, as, h3, by rw [upd_ne ta]; exact ht2, hA.mono X03⟩
      generalize upd H2 a (.ins (OverC K) dx (overF t m s_)) = H3 at O3 X03 hO h3 ⊢
      have hn9 : (Tr.ov ts m s_).nest ≤ 9 := by
        unfold Tr.nest
        omega
      refine ⟨_, rfl, a, dx, _, rfl, h3, rfl, a, ts, m, s_, rfl, hO, hn9, hok, hlm, fun H4 X4 => ⟨_, _, rfl, rfl, _, rfl, ?_⟩⟩
      have em : ((m * (momsL ts).length : Nat) : Int) = ((m : Nat) : Int) * ((momsL ts).length : Int) := by simp
      by_cases c2 : ((m : Nat) : Int) * ((momsL ts).length : Int) ≤ 1440
      · rw [decide_eq_false (show ¬ (1440 : Int) < ((m * (momsL ts).length : Nat) : Int) by omega)]
        refine iteF ?_
        refine ⟨_, rfl, a, dx, _, rfl, X4 _ _ h3, rfl, a, ts, m, s_, rfl, hO.mono X4, hn9, h0, hok, hlm, fun H5 X5 => ⟨_, _, rfl, rfl, _, rfl, ?_⟩⟩
        have O5 := O3.trans (ex_oth (X4.trans X5))
        by_cases c3 : nestL ts ≤ 7
        · rw [decide_eq_false (show ¬ (8 : Int) < (((Tr.ov ts m s_).nest : Nat) : Int) by unfold Tr.nest; omega)]
          refine iteF ?_
          exact q m s_ (by rw [eB, decide_eq_true c1, decide_eq_true c2, decide_eq_true c3]; rfl) rfl rfl H5 O5 (hO.mono (X4.trans X5))
        · rw [decide_eq_true (show (8 : Int) < (((Tr.ov ts m s_).nest : Nat) : Int) by unfold Tr.nest; omega)]
          refine iteT ?_
          exact qe (by rw [eB, decide_eq_false c3, Bool.and_false, Bool.and_false]) H5 O5
      · rw [decide_eq_true (show (1440 : Int) < ((m * (momsL ts).length : Nat) : Int) by omega)]
        exact iteT (qe (by rw [eB, decide_eq_false c2, Bool.false_and, Bool.and_false]) H4 (O3.trans (ex_oth X4)))
    · rw [decide_eq_true (show ((s_ : Nat) : Int) ≤ (((momsL ts).getLastD 0 : Nat) : Int) - (((momsL ts).headD 0 : Nat) : Int) by omega)]
      refine iteT ?_
      exact qe (by rw [eB, decide_eq_false c1]; rfl) H2 O1
theorem ovB_of {ts : List Tr} {m s : Nat} (h : (Tr.ov ts m s).ok) (hn : (Tr.ov ts m s).nest ≤ 8) : ovB ts (.int (m : Nat)) (.int (s : Nat)) = true := by
  unfold Tr.ok at h
  obtain ⟨h1, h2, h3, h4, h5, h6, h7⟩ := h
  unfold Tr.nest at hn
  have e4 : ((m : Nat) : Int) * ((momsL ts).length : Int) ≤ 1440 := by
    have : ((m * (momsL ts).length : Nat) : Int) ≤ 1440 := by omega
    rw [Int.natCast_mul] at this
    exact this
  unfold ovB
  rw [ris_of h7 h6, decide_eq_true h1, show isN 2 (.int (m : Nat)) = true from isN_nat (m := 2) h2, show isN 1 (.int (s : Nat)) = true from isN_nat (m := 1) h3]
  show (decide _ && (decide _ && decide _)) = true
  rw [decide_eq_true (by omega), decide_eq_true e4, decide_eq_true (by omega)]
  rfl
theorem over_newT {K : PySem.W.Frag} {H : Hp} {x dx p : Addr} {as : List Addr} {ts : List Tr} {m s : Nat} {Q : VK} {E : XK} (nx : H x = none) (nd : H dx = none) (ne : dx ≠ x) (hp : SqA H p (as.map V.ref)) (hA : ShsAt K H ts as) (hok : (Tr.ov ts m s).ok) (hn : (Tr.ov ts m s).nest ≤ 8) (q : ∀ H', Ex H H' → ShAt K H' (.ov ts m s) x → Q .non H') :
    sp_Over_init K [.ref x, .ref p, .int (m : Nat), .int (s : Nat)] (upd (upd H dx (.own x)) x (.ins (OverC K) dx [])) Q E := by
  have X1 := ex_made (o1 := .own x) (o2 := .ins (OverC K) dx []) nx nd ne
  have hb := ovB_of hok hn
  obtain ⟨o1, m2, hm, hml, hl2, hpl, hokL⟩ := ov_facts hok
  unfold Tr.nest at hn
  refine .inl ⟨x, dx, p, as, ts, _, _, H, rfl, upd_same, nx, X1, hp, hA, by omega, hokL, by omega, by omega, cl_int _, cl_int _, fun m' s' _ em es H' k d => ?_, fun z => by rw [hb] at z; cases z⟩
  have e1 : m = m' := by injection em with em; omega
  have e2 : s = s' := by injection es with es; omega
  subst e1 e2
  exact q H' (fun b o e => k b o (ne_of_none e nx) (X1 _ _ e)) d
theorem ok_Over_init {P : Program} {w : World} {K : PySem.W.Frag} {mg : Str → Option Value} {base : Heap} (T : Env K mg) : Fc P w K mg base 64 (He.ma K (He.ga K "Over") "__init__") [] (fun vs H Q E => vs.length = 4 + ([] : List Str).length ∧ sp_Over_init K  (pick [.inl 0, .inl 1, .inl 2, .inl 3] vs [.int (2), .int (60)]) H Q E) := by
  obtain ⟨fd, D, F⟩ := fb_Over_init T
  exact Fb.shape D F 4 [] (fun us its => pick [.inl 0, .inl 1, .inl 2, .inl 3] us its) (by decide) (fun r1 r2 => pick_vals _ r1 r2) (fun T kV doc pm an cdv ct us ws its h1 h2 h3 => match us, ws, its, h1, h2, h3 with | [_, _, _, _], [], [_, _], _, _, _ => ⟨_, rfl, rfl⟩)
end
section
theorem fb_Over_moments {P : Program} {w : World} {K : PySem.W.Frag} {mg : Str → Option Value} {base : Heap} (T : Env K mg) {d L : Nat} (hL : 40 ≤ L) (r_Over_moments : Fc P w K mg base L (He.ma K (He.ga K "Over") "moments") [] (sp_Over_moments K d)) : ∃ fd, FunD K "moments" "Over.moments" (defArgs s_Over_moments) (defBody s_Over_moments) (defScope s_Over_moments) [] [] (He.ma K (He.ga K "Over") "moments") fd ∧ Fb P w K mg base (L + 2) (He.ma K (He.ga K "Over") "moments") fd ["self"] (sp_Over_moments K (d + 1)) := by
  obtain ⟨fd, F⟩ := T.f_Over_moments
  refine ⟨fd, F, fb_of F sc_Over_moments (fun vs H Q E h => ?_) (fun cdv A outer s H vs Q E hr h => ?_)⟩
  · obtain ⟨a, ps, m, s, rfl, _⟩ := h
    rfl
  · obtain ⟨a, ps, m, s_, rfl, hO, hn, hok, q⟩ := h
    refine ⟨_, (pss_cons (ps_set (i := 1) sc_Over_moments.nd rfl (Or.inl rfl) (c_call (ok_row_moments T hL r_Over_moments) (hr.mono (by omega)) T.g_row_moments T.k_row_moments takes0 (pa_cons (pe_fld (pv 0) (by rfl)) pa_nil)))
      (pss_cons (ps_set (i := 2) sc_Over_moments.nd rfl (Or.inl rfl) (pe_lst pa_nil))
      (pss_cons (ps_for (passes_of rfl) rfl (pi_range1 (by rfl) T.n_range (pa_cons (pe_fld (pv 0) (by rfl)) pa_nil)) (pg_name (i := 3) sc_Over_moments.nd rfl (Or.inr rfl))
      (pss_one (ps_expr (pe_bm PySem.F.plainAttrs_list PySem.F.slot_list_extend PySem.F.type_list_extend mt_extend (pv 2) (pa_cons (pe_lc (own := [("moment", 4)]) (by rfl) sc_Over_moments.nd (pi_list (pv 1)) (blkOk_by (own := [("moment", 4)]) (N := ["self", "own", "found", "time", "moment"]) (sc := defScope s_Over_moments) (by decide +kernel)) (fun _ _ _ _ _ => (pg_name (i := 4) sc_Over_moments.nd rfl (Or.inl rfl))) (fun _ _ _ _ _ => pts_nil) (fun _ _ _ _ _ => (pe_op op_add (pv 4) (pe_op op_mul (pv 3) (pe_fldK K (pv 0) (by rfl)))))) pa_nil)))))
      (pss_one (ps_ret (pv 2)))))), ?_⟩
    obtain ⟨_, m2, hm, hml, hl, hpl, hokL⟩ := ov_facts hok
    have hnL := ov_nest hn
    unfold Tr.moms at q
    unfold ShAt at hO
    obtain ⟨dx, kp, as, ha, hk, hA⟩ := hO
    generalize hns : momsL ps = ns at *
    refine ⟨_, rfl, a, _, dx, _, _, rfl, ha, T.c_Over, T.a_Over_kept, rfl, kp, as, ps, rfl, hk, hA, hnL, hokL, by rw [hns]; exact hl, fun w H1 X1 nw hw => ?_⟩
    rw [hns] at hw
    refine ⟨by show 0 ≤ sizeLine; decide, fun f nf => ?_⟩
    have nf0 := ex_fresh X1 nf
    have X2 := X1.trans (ex_new (o := .lst []) nf)
    have wf : w ≠ f := ne_of_none hw nf
    have af : a ≠ f := ne_of_none ha nf0
    have ha2 := X2 _ _ ha
    have hw2 := ex_new (o := .lst []) nf _ _ hw
    have hf2 : upd H1 f (.lst []) f = some (.lst []) := upd_same
    generalize upd H1 f (.lst []) = H2 at X2 ha2 hw2 hf2 ⊢
    refine ⟨_, rfl, a, _, dx, _, _, rfl, ha2, T.c_Over, T.a_Over_many, rfl, _, rfl, by omega, by omega, for_range (fun i σ H' => Oth f H2 H' ∧ ∃ v3 v4, σ = [some (.ref a), some (.ref w), some (.ref f), v3, v4] ∧ H' f = some (.lst (natV (overN ns i s_)))) ⟨Oth.refl _ _, _, _, rfl, hf2⟩ ?_ ?_⟩
    · rintro i σ H3 hi ⟨O3, v3, v4, rfl, hf3⟩
      have hi2 : i < m := by omega
      have hw3 := O3 _ _ wf hw2
      have ha3 := O3 _ _ af ha2
      have ll : (overN ns i s_).length = i * ns.length := overN_len ns i s_
      have l2 : i * ns.length ≤ m * ns.length := Nat.mul_le_mul_right _ (by omega)
      refine ⟨_, rfl, .inl ⟨rfl, _, sq_lst hf3⟩, _, rfl, w, rfl, ⟨_, sq_lst hw3⟩, fun A nA => lc_on ns (fun n : Nat => V.int n) L2.walk_list (fun n => some (.int ((n + i * s_ : Nat) : Int))) (fun H' => Ex H3 H') (fun H' z e => ex_mut e nA) (.refl _) (by omega) (fun H' e => sq_lst (e _ _ hw3)) (fun j n H4 acc N hn X4 hD la k => ?_) fun H4 X4 d4 => ?_⟩
      · refine ⟨rfl, _, rfl, _, rfl, _, rfl, a, _, dx, _, _, rfl, X4 _ _ ha3, T.c_Over, T.a_Over_step, rfl, _, _, rfl, rfl, .inl ⟨by omega, by omega⟩, _, _, rfl, rfl, acc, hD, la, ?_⟩
        have e : ((n : Nat) : Int) + (0 + ((i : Nat) : Int)) * ((s_ : Nat) : Int) = ((n + i * s_ : Nat) : Int) := by simp
        show N (upd H4 A (.lst (acc ++ [.int (((n : Nat) : Int) + (0 + ((i : Nat) : Int)) * ((s_ : Nat) : Int))])))
        rw [e]
        exact k H4 X4 hD
      · have ed : ns.filterMap (fun n => some (V.int ((n + i * s_ : Nat) : Int))) = natV (ns.map fun n => n + i * s_) := by
          unfold natV
          rw [List.filterMap_eq_map', List.map_map]
          rfl
        rw [ed] at d4
        refine ⟨f, A, _, _, rfl, rfl, X4 _ _ hf3, d4, sz_le (by rw [natV_len, natV_len, List.length_map, ll]; omega), (O3.trans (ex_oth X4)).upd, _, _, rfl, ?_⟩
        rw [upd_same, overN_succ]
        unfold natV
        rw [List.map_append]
    · rintro σ H3 ⟨O3, v3, v4, rfl, hf3⟩
      rw [show ((m : Nat) : Int).toNat = m by omega] at hf3
      exact ⟨_, rfl, q f H3 (Oth.ex X2 nf0 O3) nf0 hf3⟩
theorem ok_Over_moments {P : Program} {w : World} {K : PySem.W.Frag} {mg : Str → Option Value} {base : Heap} (T : Env K mg) {d L : Nat} (hL : 40 ≤ L) (r_Over_moments : Fc P w K mg base L (He.ma K (He.ga K "Over") "moments") [] (sp_Over_moments K d)) : Fc P w K mg base (L + 2) (He.ma K (He.ga K "Over") "moments") [] (sp_Over_moments K (d + 1)) := by
  obtain ⟨fd, D, F⟩ := fb_Over_moments T hL r_Over_moments
  exact F.all (D.bindsN fun _ _ _ _ _ _ us hl => match us, hl with | [_], _ => rfl)
theorem all_Over_moments {P : Program} {w : World} {K : PySem.W.Frag} {mg : Str → Option Value} {base : Heap} (T : Env K mg) : ∀ d, Fc P w K mg base (40 + 2 * d) (He.ma K (He.ga K "Over") "moments") [] (sp_Over_moments K d)
  | 0 => fc_no fun vs H Q E h => by
    obtain ⟨a, ps, m, s, _, _, h, _⟩ := h
    unfold Tr.nest at h
    omega
  | d + 1 => ok_Over_moments T (Nat.le_add_right 40 _) (all_Over_moments T d)
end
section
abbrev SpreadC (K : PySem.W.Frag) : Addr := He.ga K "Spread"
def sprF (kp hd : Addr) : List (Str × V) := [("kept", .ref kp), ("held", .ref hd)]
/-- at a a spread of these shorts -/
def SprAt (K : PySem.W.Frag) (H : Hp) (a : Addr) (ts : List Tr) : Prop := ∃ dx kp hd as, H a = some (.ins (SpreadC K) dx (sprF kp hd)) ∧ H kp = some (.tup (as.map V.ref)) ∧ H hd = some (.lst (natV (momsL ts))) ∧ ShsAt K H ts as
theorem SprAt.mono {K : PySem.W.Frag} {H H' : Hp} {a : Addr} {ts : List Tr} (h : SprAt K H a ts) (e : Ex H H') : SprAt K H' a ts := let ⟨dx, kp, hd, as, h1, h2, h3, h4⟩ := h; ⟨dx, kp, hd, as, e _ _ h1, e _ _ h2, e _ _ h3, h4.mono e⟩
def sprB (ts : List Tr) : Bool := risB ts && decide ((momsL ts).length ≤ 1440)
def sp_Spread_init (K : PySem.W.Frag) : Sp := fun vs H Q E => (∃ (a dx p : Addr) (as : List Addr) (ts : List Tr) (H0 : Hp), vs = [.ref a, .ref p] ∧ H a = some (.ins (SpreadC K) dx []) ∧ H0 a = none ∧ Ex H0 H ∧ SqA H0 p (as.map V.ref) ∧ ShsAt K H0 ts as ∧ nestL ts ≤ 8 ∧ okL_ ts ∧ ts.length ≤ 20000 ∧ ts.length ≤ 20000 ∧ (sprB ts = true → ∀ H', Oth a H H' → SprAt K H' a ts → Q .non H') ∧ (sprB ts = false → ∀ H', Oth a H H' → E (.ref (He.ga K "NoPiece")) none H')) ∨ (∃ (a dx : Addr) (x : V) (H0 : Hp), vs = [.ref a, x] ∧ H0 a = none ∧ Ex H0 H ∧ NoParts K H0 x ∧ ∀ H', Oth a H H' → E (.ref (He.ga K "NoPiece")) none H')
theorem fb_Spread_init {P : Program} {w : World} {K : PySem.W.Frag} {mg : Str → Option Value} {base : Heap} (T : Env K mg) : ∃ fd, FunD K "__init__" "Spread.__init__" (defArgs s_Spread_init) (defBody s_Spread_init) (defScope s_Spread_init) [] [] (He.ma K (He.ga K "Spread") "__init__") fd ∧ Fb P w K mg base 64 (He.ma K (He.ga K "Spread") "__init__") fd ["self", "parts"] (sp_Spread_init K) := by
  obtain ⟨fd, F⟩ := T.f_Spread_init
  refine ⟨fd, F, fb_of F sc_Spread_init (fun vs H Q E h => ?_) (fun cdv A outer s H vs Q E hr h => ?_)⟩
  · rcases h with ⟨a, dx, p, as, ts, H0, rfl, _⟩ | ⟨a, dx, x, H0, rfl, _⟩
    · rfl
    · rfl
  · refine ⟨_, (pss_cons (ps_fld (pv 0) (c_call (ok_shorts_in T) (hr.mono (by decide)) T.g_shorts_in T.k_shorts_in (takes_of rfl rfl rfl rfl) (pa_cons (pv 1) pa_nil)) rfl)
      (pss_cons (ps_if (pt_cmpR op_gt (c_call (ok_row_many T (Nat.le_add_right 40 _) (all_Over_means_many T 9)) (hr.mono (by decide)) T.g_row_many T.k_row_many (takes_of rfl rfl rfl rfl) (pa_cons (pe_fld (pv 0) (by rfl)) pa_nil)) (pe_k T.v_MOST_MOMENTS) (nomark _))
      (pss_one (ps_raise rfl (takes_of rfl rfl rfl rfl) (pmk_own PySem.F.excBase_ValueError T.x_NoPiece.x T.g_NoPiece T.x_NoPiece.kp (raises_own T.x_NoPiece.sub T.x_NoPiece.ty) rfl)))
      pss_nil)
      (pss_one (ps_fld (pv 0) (c_call (ok_row_moments T (Nat.le_add_right 40 _) (all_Over_moments T 9)) (hr.mono (by decide)) T.g_row_moments T.k_row_moments (takes_of rfl rfl rfl rfl) (pa_cons (pe_fld (pv 0) (by rfl)) pa_nil)) rfl)))), ?_⟩
    rcases h with ⟨a, dx, p, as, ts, H0, rfl, ha, na0, X0, hp, hA, hn, hok, hlm, hlt, q, qe⟩ | ⟨a, dx, x, H0, rfl, na0, X0, hN, qe⟩
    rotate_left
    · exact ⟨_, rfl, .inr ⟨x, rfl, hN.mono X0, fun H1 X1 => qe H1 (ex_oth X1)⟩⟩
    have hpH : SqA H p (as.map V.ref) := hp.imp (fun h => X0 _ _ h) (fun h => X0 _ _ h)
    refine ⟨_, rfl, .inl ⟨p, as, ts, rfl, hpH, hA.mono X0, by omega, hok, hlt, fun hr2 t H1 X1 ht => ?_, fun hr2 H1 X1 => qe (by unfold sprB; rw [hr2]; rfl) H1 (ex_oth X1)⟩⟩
    refine ⟨_, rfl, a, _, dx, [], rfl, X1 _ _ ha, T.c_Spread, T.a_Spread_kept, by decide, ?_⟩
    have ta : t ≠ a := fun z => by rw [z, X1 _ _ ha] at ht; cases ht
    have O1 : Oth a H (upd H1 a (.ins (SpreadC K) dx (putF "kept" (.ref t) []))) := (ex_oth X1).upd
    have h2 : upd H1 a (.ins (SpreadC K) dx (putF "kept" (.ref t) [])) a = some (.ins (SpreadC K) dx [("kept", .ref t)]) := upd_same
    have ht2 : upd H1 a (.ins (SpreadC K) dx (putF "kept" (.ref t) [])) t = some (.tup (as.map V.ref)) := by rw [upd_ne ta]; exact ht
    generalize upd H1 a (.ins (SpreadC K) dx (putF "kept" (.ref t) [])) = H2 at O1 h2 ht2 ⊢
    have X02 : Ex H0 H2 := Oth.ex X0 na0 O1
    have hA2 : ShsAt K H2 ts as := hA.mono X02
    refine ⟨_, rfl, a, _, dx, _, _, rfl, h2, T.c_Spread, T.a_Spread_kept, rfl, t, as, ts, rfl, ht2, hA2, by omega, hok, hlm, fun H3 X3 => ⟨_, _, rfl, rfl, _, rfl, ?_⟩⟩
    by_cases c : (momsL ts).length ≤ 1440
    · rw [decide_eq_false (show ¬ (1440 : Int) < (((momsL ts).length : Nat) : Int) by omega)]
      refine iteF ?_
      refine ⟨_, rfl, a, _, dx, _, _, rfl, X3 _ _ h2, T.c_Spread, T.a_Spread_kept, rfl, t, as, ts, rfl, X3 _ _ ht2, hA2.mono X3, by omega, hok, c, fun hd H4 X4 nhd hhd => ?_⟩
      have X34 := X3.trans X4
      have hda : hd ≠ a := fun z => by rw [z, X34 _ _ h2] at hhd; cases hhd
      refine ⟨_, rfl, a, _, dx, _, rfl, X34 _ _ h2, T.c_Spread, T.a_Spread_held, Nat.le_of_ble_eq_true rfl, ?_⟩
      have O4 : Oth a H (upd H4 a (.ins (SpreadC K) dx (sprF t hd))) := (O1.trans (ex_oth X34)).upd
      refine q (by unfold sprB; rw [hr2, decide_eq_true c]; rfl) _ O4 ⟨dx, t, hd, as, upd_same, by rw [upd_ne ta]; exact X34 _ _ ht2, by rw [upd_ne hda]; exact hhd, hA.mono (Oth.ex X0 na0 O4)⟩
    · rw [decide_eq_true (show (1440 : Int) < (((momsL ts).length : Nat) : Int) by omega)]
      exact iteT (qe (by unfold sprB; rw [decide_eq_false c, Bool.and_false]) H3 (O1.trans (ex_oth X3)))
theorem spread_new {K : PySem.W.Frag} {H : Hp} {x dx p : Addr} {as : List Addr} {ts : List Tr} {Q : VK} {E : XK} (nx : H x = none) (nd : H dx = none) (ne : dx ≠ x) (hp : SqA H p (as.map V.ref)) (hA : ShsAt K H ts as) (hn : nestL ts ≤ 8) (hok : okL_ ts) (hb : sprB ts = true) (q : ∀ H', Ex H H' → SprAt K H' x ts → Q .non H') :
    sp_Spread_init K [.ref x, .ref p] (upd (upd H dx (.own x)) x (.ins (SpreadC K) dx [])) Q E := by
  have X1 := ex_made (o1 := .own x) (o2 := .ins (SpreadC K) dx []) nx nd ne
  have hl : (momsL ts).length ≤ 1440 := of_decide_eq_true (Bool.and_eq_true_iff.mp hb).2
  have h2 := len_moms hok
  refine .inl ⟨x, dx, p, as, ts, H, rfl, upd_same, nx, X1, hp, hA, hn, hok, by omega, by omega, fun _ H' k d => ?_, fun z => by rw [hb] at z; cases z⟩
  exact q H' (fun b o e => k b o (ne_of_none e nx) (X1 _ _ e)) d
theorem ok_Spread_init {P : Program} {w : World} {K : PySem.W.Frag} {mg : Str → Option Value} {base : Heap} (T : Env K mg) : Fc P w K mg base 64 (He.ma K (He.ga K "Spread") "__init__") [] (sp_Spread_init K ) := by
  obtain ⟨fd, D, F⟩ := fb_Spread_init T
  exact F.all (D.bindsN fun _ _ _ _ _ _ us hl => match us, hl with | [_, _], _ => rfl)
end
section
/-- a pot: what is left of a cell's digits, and what mixes -/
def Pot (H : Hp) (p : Addr) : Prop := ∃ a b : Int, H p = some (.lst [.int a, .int b]) ∧ 0 ≤ b ∧ b < 4294967296
def sp__law_pot (K : PySem.W.Frag) : Sp := fun vs H Q _ => ∃ (a : Addr) (ns : List Int) (k : Int), vs = [.ref a, .int k] ∧ SqL K H a (ns.map V.int) ∧ 0 ≤ k ∧ k < 1000 ∧ ∀ p H', H p = none → Pot H' p → (∀ b, b ≠ p → H' b = H b) → Q (.ref p) H'
theorem fb__law_pot {P : Program} {w : World} {K : PySem.W.Frag} {mg : Str → Option Value} {base : Heap} (T : Env K mg) : ∃ fd, FunD K "_law_pot" "_law_pot" (defArgs s__law_pot) (defBody s__law_pot) (defScope s__law_pot) [] [] (He.ga K "_law_pot") fd ∧ Fb P w K mg base 1 (He.ga K "_law_pot") fd ["_law_script", "_law_k"] (sp__law_pot K) := by
  obtain ⟨fd, F⟩ := T.f__law_pot
  refine ⟨fd, F, fb_of F sc__law_pot (fun vs H Q E h => ?_) (fun cdv A outer s H vs Q E hr h => ?_)⟩
  · obtain ⟨a, ns, k, rfl, _⟩ := h
    rfl
  · obtain ⟨a, ns, k, rfl, hS, k0, k1, q⟩ := h
    refine ⟨_, (pss_cons (ps_set (i := 2) sc__law_pot.nd rfl (Or.inl rfl) pe_int)
      (Evl.pss_cut (ps_if (pt_cmpR op_lt (pv 1) (pe_callB call_len (by rfl) T.n_len (by decide +kernel) (pa_cons (pv 0) pa_nil)) (nomark _))
      (pss_one (ps_set (i := 2) sc__law_pot.nd rfl (Or.inl rfl) (pe_ix ix_list (pv 0) (pv 1) (fun _ _ => rfl))))
      pss_nil)
      (pss_one (ps_ret (pe_lst (pa_cons (pe_callB (call_max2 rfl) (by rfl) T.n_max (by decide +kernel) (pa_cons pe_int (pa_cons (pe_op op_sub (pv 2) (pe_op op_pow pe_int pe_int)) pa_nil))) (pa_cons (pe_op op_add (pe_op op_add (pe_op op_mod (pv 2) pe_int) (pe_op op_mul pe_int (pv 1))) pe_int) pa_nil))))))), ?_⟩
    refine ⟨fun σ' H' => H' = H ∧ ∃ cell : Int, σ' = [some (.ref a), some (.int k), some (.int cell)], ?_, ?_⟩
    · refine ⟨_, rfl, _, rfl, _, _, rfl, .inl ⟨_, hS, rfl⟩, _, _, rfl, rfl, _, rfl, ite2 (fun c => ?_) (fun c => ?_)⟩
      · have c2 : k < ((ns.map V.int).length : Int) := of_decide_eq_true c
        rw [List.length_map] at c2
        obtain ⟨i, rfl⟩ := Int.eq_ofNat_of_zero_le k0
        have hi : i < ns.length := Int.ofNat_lt.mp c2
        refine ⟨_, rfl, _, rfl, a, _, _, .int ns[i], rfl, rfl, hS, ?_, rfl, ns[i], rfl⟩
        exact atI_nat (by rw [List.getElem?_map, List.getElem?_eq_getElem hi]; rfl)
      · exact ⟨rfl, 0, rfl⟩
    · rintro σ' H' ⟨rfl, cell, rfl⟩
      have m1 := Int.emod_nonneg cell (show (2147483629 : Int) ≠ 0 by decide)
      have m2 := Int.emod_lt_of_pos cell (show (0 : Int) < 2147483629 by decide)
      refine ⟨_, rfl, _, _, rfl, rfl, ⟨by decide, by decide, by decide⟩, _, _, rfl, rfl, _, _, rfl, ?_⟩
      refine ⟨_, rfl, _, _, rfl, rfl, (by show (0 : Int) < 2147483629; decide), _, rfl, _, _, rfl, rfl, .inl (by decide), _, _, rfl, rfl, _, _, rfl, rfl, by show 2 ≤ sizeLine; decide, fun p hp => ?_⟩
      exact q p _ hp ⟨_, _, upd_same, by omega, by omega⟩ fun b n => upd_ne n
theorem ok__law_pot {P : Program} {w : World} {K : PySem.W.Frag} {mg : Str → Option Value} {base : Heap} (T : Env K mg) : Fc P w K mg base 1 (He.ga K "_law_pot") [] (sp__law_pot K ) := by
  obtain ⟨fd, D, F⟩ := fb__law_pot T
  exact F.all (D.bindsN fun _ _ _ _ _ _ us hl => match us, hl with | [_, _], _ => rfl)
end
section
/-- the pot at p is drawn from: everything else stays -/
def PotOn (H H' : Hp) (p : Addr) : Prop := Pot H' p ∧ ∀ b o, b ≠ p → H b = some o → H' b = some o
theorem PotOn.refl {H : Hp} {p : Addr} (h : Pot H p) : PotOn H H p := ⟨h, fun _ _ _ e => e⟩
theorem PotOn.trans {H H1 H2 : Hp} {p : Addr} (a : PotOn H H1 p) (b : PotOn H1 H2 p) : PotOn H H2 p := ⟨b.1, fun c o n e => b.2 c o n (a.2 c o n e)⟩
def sp__law_draw (K : PySem.W.Frag) : Sp := fun vs H Q _ => ∃ (p : Addr) (n : Int), vs = [.ref p, .int n] ∧ Pot H p ∧ 0 < n ∧ n.toNat < 10 ^ 200 ∧ ∀ (d : Int) H', 0 ≤ d → d < n → PotOn H H' p → Q (.int d) H'
theorem fb__law_draw {P : Program} {w : World} {K : PySem.W.Frag} {mg : Str → Option Value} {base : Heap} (T : Env K mg) : ∃ fd, FunD K "_law_draw" "_law_draw" (defArgs s__law_draw) (defBody s__law_draw) (defScope s__law_draw) [] [] (He.ga K "_law_draw") fd ∧ Fb P w K mg base 1 (He.ga K "_law_draw") fd ["_law_pot_here", "_law_many"] (sp__law_draw K) := by
  obtain ⟨fd, F⟩ := T.f__law_draw
  refine ⟨fd, F, fb_of F sc__law_draw (fun vs H Q E h => ?_) (fun cdv A outer s H vs Q E hr h => ?_)⟩
  · obtain ⟨p, n, rfl, _⟩ := h
    rfl
  · obtain ⟨p, n, rfl, ⟨a, b, hp, b0, b1⟩, n0, n1, q⟩ := h
    refine ⟨_, (pss_cons (ps_if (pt_cmpR op_gt (pe_ix ix_list (pv 0) pe_int (fun _ _ => rfl)) pe_int (nomark _))
      (pss_cons (ps_asg (pe_callB call_divmodW (by rfl) T.n_divmod (by decide +kernel) (pa_cons (pe_ix ix_list (pv 0) pe_int (fun _ _ => rfl)) (pa_cons (pv 1) pa_nil))) (pg_tup (by rfl) (pgs_cons (pg_sub (pv 0) pe_int set_list) (pgs_cons (pg_name (i := 2) sc__law_draw.nd rfl (Or.inl rfl)) pgs_nil))))
      (pss_one (ps_ret (pv 2))))
      pss_nil)
      (pss_cons (ps_asg (pe_op op_mod (pe_op op_add (pe_op op_mul (pe_ix ix_list (pv 0) pe_int (fun _ _ => rfl)) pe_int) pe_int) pe_int) (pg_sub (pv 0) pe_int set_list))
      (pss_one (ps_ret (pe_op op_mod (pe_op op_fdiv (pe_op op_mod (pe_op op_mul (pe_ix ix_list (pv 0) pe_int (fun _ _ => rfl)) (pe_ix ix_list (pv 0) pe_int (fun _ _ => rfl))) pe_int) pe_int) (pv 1)))))), ?_⟩
    refine ⟨_, rfl, p, _, _, .int a, rfl, rfl, sq_lst hp, rfl, _, _, rfl, rfl, _, rfl, ite2 (fun _ => ?_) (fun _ => ?_)⟩
    · refine ⟨_, rfl, p, _, _, .int a, rfl, rfl, sq_lst hp, rfl, _, rfl, a, n, rfl, ⟨n0, PyProof.noPylong_of_log2 (Nat.lt_trans (log_of (show n.natAbs < 10 ^ 200 by omega)) (by decide))⟩, fun t ht => ?_⟩
      have pt : p ≠ t := ne_of_none hp ht
      refine ⟨t, _, rfl, sq_tup upd_same, rfl, _, _, rfl, _, rfl, p, [.int a, .int b], 0, 0, rfl, rfl, (by rw [upd_ne pt]; exact hp), rfl, _, _, rfl, rfl, _, rfl, ?_⟩
      refine q _ _ (Int.emod_nonneg _ (by omega)) (Int.emod_lt_of_pos _ n0) ⟨⟨_, _, upd_same, b0, b1⟩, fun x o nx e => ?_⟩
      rw [upd_ne nx, upd_ne (ne_of_none e ht)]
      exact e
    · refine ⟨_, rfl, p, _, _, .int b, rfl, rfl, sq_lst hp, rfl, _, _, rfl, rfl, .inr (by decide), _, _, rfl, rfl, _, _, rfl, rfl, (by show (0 : Int) < 2147483629; decide), _, rfl, p, _, 1, 1, rfl, rfl, hp, rfl, ?_⟩
      have m1 := Int.emod_nonneg (b * 48271 + 8191) (show (2147483629 : Int) ≠ 0 by decide)
      have m2 := Int.emod_lt_of_pos (b * 48271 + 8191) (show (0 : Int) < 2147483629 by decide)
      refine ⟨_, rfl, p, _, _, .int ((b * 48271 + 8191) % 2147483629), rfl, rfl, sq_lst upd_same, rfl, _, rfl, p, _, _, .int ((b * 48271 + 8191) % 2147483629), rfl, rfl, sq_lst upd_same, rfl, _, _, rfl, rfl, .inl ⟨by omega, by omega⟩, _, _, rfl, rfl, (by show (0 : Int) < 2147483587; decide), _, _, rfl, rfl, ⟨by decide, by decide⟩, _, rfl, _, _, rfl, rfl, n0, ?_⟩
      refine q _ _ (Int.emod_nonneg _ (by omega)) (Int.emod_lt_of_pos _ n0) ⟨⟨_, _, upd_same, m1, by omega⟩, fun x o nx e => ?_⟩
      rw [upd_ne nx]
      exact e
theorem PotOn.ex {H0 H H' : Hp} {p : Addr} (e : Ex H0 H) (n : H0 p = none) (P : PotOn H H' p) : Ex H0 H' := fun b o h => P.2 b o (ne_of_none h n) (e b o h)
theorem pot_upd {H H' : Hp} {p l : Addr} {o : HO} (P : PotOn H H' p) (n : H l = none) (ne : l ≠ p) : PotOn H (upd H' l o) p := by
  obtain ⟨⟨x, y, e, r⟩, k⟩ := P
  refine ⟨⟨x, y, by rw [upd_ne (Ne.symm ne)]; exact e, r⟩, fun b u nb h => ?_⟩
  rw [upd_ne (ne_of_none h n)]
  exact k b u nb h
theorem PotOn.ex2 {H H1 H2 : Hp} {p : Addr} (P : PotOn H H1 p) (e : Ex H1 H2) : PotOn H H2 p := by
  obtain ⟨⟨x, y, h, r⟩, k⟩ := P
  exact ⟨⟨x, y, e _ _ h, r⟩, fun b u nb h => e _ _ (k b u nb h)⟩
theorem pot_ne {H H' : Hp} {p l : Addr} (P : PotOn H H' p) (n : H' l = none) : l ≠ p := fun z => by
  obtain ⟨_, _, e, _⟩ := P.1
  rw [z, e] at n
  cases n
theorem at_mem {xs : List V} {i : Int} (h0 : 0 ≤ i) (h1 : i < (xs.length : Nat)) : ∃ x, x ∈ xs ∧ atI xs i = some x := by
  obtain ⟨n, rfl⟩ := Int.eq_ofNat_of_zero_le h0
  have hn : n < xs.length := Int.ofNat_lt.mp h1
  exact ⟨xs[n], List.getElem_mem hn, atI_nat (List.getElem?_eq_getElem hn)⟩
theorem PotOn.fresh {H H' : Hp} {p b : Addr} (P : PotOn H H' p) (n : H' b = none) : H b = none := by
  cases e : H b with
  | none => rfl
  | some o =>
    by_cases hb : b = p
    · obtain ⟨_, _, e2, _⟩ := P.1
      rw [hb, e2] at n
      cases n
    · rw [P.2 b o hb e] at n
      cases n
theorem pot_other {H : Hp} {p b : Addr} {o : HO} (hp : Pot H p) (h : H b = some o) (ho : ∀ x y : Int, o ≠ .lst [.int x, .int y]) : b ≠ p := fun w => by
  obtain ⟨x, y, e, _⟩ := hp
  rw [w, e] at h
  exact ho x y (Option.some.inj h).symm
theorem ok__law_draw {P : Program} {w : World} {K : PySem.W.Frag} {mg : Str → Option Value} {base : Heap} (T : Env K mg) : Fc P w K mg base 1 (He.ga K "_law_draw") [] (sp__law_draw K ) := by
  obtain ⟨fd, D, F⟩ := fb__law_draw T
  exact F.all (D.bindsN fun _ _ _ _ _ _ us hl => match us, hl with | [_, _], _ => rfl)
end
section
mutual
/-- at a what a law has drawn for a short -/
def DtAt (H : Hp) : Tr → Addr → Prop
  | .at n, a => H a = some (.tup [.str "at", .int (n : Nat)])
  | .ov ps m s, a => ∃ r as, H a = some (.tup [.str "over", .ref r, .int (m : Nat), .int (s : Nat)]) ∧ H r = some (.tup (as.map V.ref)) ∧ DtsAt H ps as
def DtsAt (H : Hp) : List Tr → List Addr → Prop
  | [], as => as = []
  | t :: ts, as => ∃ a r, as = a :: r ∧ DtAt H t a ∧ DtsAt H ts r
end
mutual
theorem DtAt.keep {H H' : Hp} (e : ∀ b xs, H b = some (.tup xs) → H' b = some (.tup xs)) : ∀ {t : Tr} {a : Addr}, DtAt H t a → DtAt H' t a
  | .at n, a, h => by
    unfold DtAt at h ⊢
    exact e _ _ h
  | .ov ps m s, a, h => by
    unfold DtAt at h ⊢
    obtain ⟨r, as, h1, h2, h3⟩ := h
    exact ⟨r, as, e _ _ h1, e _ _ h2, DtsAt.keep e h3⟩
theorem DtsAt.keep {H H' : Hp} (e : ∀ b xs, H b = some (.tup xs) → H' b = some (.tup xs)) : ∀ {ts : List Tr} {as : List Addr}, DtsAt H ts as → DtsAt H' ts as
  | [], as, h => by
    unfold DtsAt at h ⊢
    exact h
  | t :: ts, as, h => by
    unfold DtsAt at h ⊢
    obtain ⟨a, r, h1, h2, h3⟩ := h
    exact ⟨a, r, h1, DtAt.keep e h2, DtsAt.keep e h3⟩
end
theorem DtAt.mono {H H' : Hp} {t : Tr} {a : Addr} (h : DtAt H t a) (e : Ex H H') : DtAt H' t a := h.keep fun b xs z => e _ _ z
theorem DtsAt.mono {H H' : Hp} {ts : List Tr} {as : List Addr} (h : DtsAt H ts as) (e : Ex H H') : DtsAt H' ts as := h.keep fun b xs z => e _ _ z
theorem DtsAt.len {H : Hp} : ∀ {ts : List Tr} {as : List Addr}, DtsAt H ts as → as.length = ts.length
  | [], as, h => by
    unfold DtsAt at h
    rw [h]
    rfl
  | t :: ts, as, h => by
    unfold DtsAt at h
    obtain ⟨a, r, rfl, _, h3⟩ := h
    rw [List.length_cons, List.length_cons, DtsAt.len h3]
theorem DtsAt.get {H : Hp} : ∀ {ts : List Tr} {as : List Addr} {i : Nat} {a : Addr}, DtsAt H ts as → as[i]? = some a → ∃ t, ts[i]? = some t ∧ DtAt H t a
  | [], as, i, a, h, hi => by
    unfold DtsAt at h
    rw [h] at hi
    cases hi
  | t :: ts, as, i, a, h, hi => by
    unfold DtsAt at h
    obtain ⟨b, r, rfl, h2, h3⟩ := h
    cases i with
    | zero =>
      cases hi
      exact ⟨t, rfl, h2⟩
    | succ i => exact DtsAt.get (i := i) h3 hi
theorem DtsAt.snoc {H : Hp} {t : Tr} {a : Addr} : ∀ {ts : List Tr} {as : List Addr}, DtsAt H ts as → DtAt H t a → DtsAt H (ts ++ [t]) (as ++ [a])
  | [], as, h, ha => by
    unfold DtsAt at h
    rw [h]
    show DtsAt H [t] [a]
    unfold DtsAt
    exact ⟨a, [], rfl, ha, by unfold DtsAt; rfl⟩
  | x :: ts, as, h, ha => by
    unfold DtsAt at h
    obtain ⟨b, r, rfl, h2, h3⟩ := h
    show DtsAt H (x :: (ts ++ [t])) (b :: (r ++ [a]))
    unfold DtsAt
    exact ⟨b, r ++ [a], rfl, h2, DtsAt.snoc h3 ha⟩
def sp__law_moments (K : PySem.W.Frag) (d : Nat) : Sp := fun vs H Q _ => ∃ (a : Addr) (t : Tr), vs = [.ref a] ∧ DtAt H t a ∧ t.nest + 1 ≤ d ∧ t.ok ∧ t.moms.length ≤ 1440 ∧ ∀ p H', Ex H H' → H p = none → H' p = some (.lst (natV t.moms)) → Q (.ref p) H'
end
section
def sp__law_row_moments (K : PySem.W.Frag) (d : Nat) : Sp := fun vs H Q _ => ∃ (p : Addr) (as : List Addr) (ts : List Tr), vs = [.ref p] ∧ H p = some (.tup (as.map V.ref)) ∧ DtsAt H ts as ∧ (∀ t ∈ ts, t.nest + 1 ≤ d) ∧ okL_ ts ∧ (momsL ts).length ≤ 1440 ∧ ∀ t H', Ex H H' → H t = none → H' t = some (.lst (natV (momsL ts))) → Q (.ref t) H'
theorem fb__law_row_moments {P : Program} {w : World} {K : PySem.W.Frag} {mg : Str → Option Value} {base : Heap} (T : Env K mg) {d L : Nat} (hL : 40 ≤ L) (r__law_moments : Fc P w K mg base L (He.ga K "_law_moments") [] (sp__law_moments K d)) : ∃ fd, FunD K "_law_row_moments" "_law_row_moments" (defArgs s__law_row_moments) (defBody s__law_row_moments) (defScope s__law_row_moments) [] [] (He.ga K "_law_row_moments") fd ∧ Fb P w K mg base (L + 1) (He.ga K "_law_row_moments") fd ["_law_row_here"] (sp__law_row_moments K (d)) := by
  obtain ⟨fd, F⟩ := T.f__law_row_moments
  refine ⟨fd, F, fb_of F sc__law_row_moments (fun vs H Q E h => ?_) (fun cdv A outer s H vs Q E hr h => ?_)⟩
  · obtain ⟨p, as, ts, rfl, _⟩ := h
    rfl
  · obtain ⟨p, as, ts, rfl, hp, hA, hn, hok, hl, q⟩ := h
    refine ⟨_, (pss_cons (ps_set (i := 1) sc__law_row_moments.nd rfl (Or.inl rfl) (pe_lst pa_nil))
      (pss_cons (ps_for (passes_of rfl) rfl (pi_tup (pv 0)) (pg_name (i := 2) sc__law_row_moments.nd rfl (Or.inl rfl))
      (pss_one (ps_expr (pe_bm PySem.F.plainAttrs_list PySem.F.slot_list_extend PySem.F.type_list_extend mt_extend (pv 1) (pa_cons (c_call r__law_moments (hr.mono (by omega)) T.g__law_moments T.k__law_moments takes0 (pa_cons (pv 2) pa_nil)) pa_nil)))))
      (pss_one (ps_ret (pv 1))))), ?_⟩
    refine ⟨by show 0 ≤ sizeLine; decide, fun f nf => ?_⟩
    have X0 := ex_new (o := .lst []) nf
    have hl1 := hA.len
    have pf : p ≠ f := ne_of_none hp nf
    refine ⟨_, rfl, p, rfl, ⟨_, sq_tup (X0 _ _ hp)⟩, for_on as V.ref L2.walk_tup (fun i σ H' => Oth f H H' ∧ ∃ v2, σ = [some (.ref p), some (.ref f), v2] ∧ H' f = some (.lst (natV (momsL (ts.take i))))) ⟨ex_oth X0, _, rfl, upd_same⟩ (fun i σ H' z => sq_tup (z.1 _ _ pf hp)) ?_ ?_⟩
    · rintro i a σ H2 hx ⟨O2, v2, rfl, hf⟩
      obtain ⟨t, ht, hS⟩ := hA.get hx
      have htm := List.mem_of_getElem? ht
      have X2 : Ex H H2 := fun b o e => O2 b o (ne_of_none e nf) e
      have eT := momsL_take ht
      have bT := momsL_take_len ts (i + 1)
      rw [eT, List.length_append] at bT
      refine ⟨_, rfl, .inl ⟨rfl, _, sq_lst hf⟩, _, rfl, a, t, rfl, hS.mono X2, hn t htm, okL_mem hok htm, by omega, fun u H3 X3 nu hu => ?_⟩
      refine ⟨f, u, _, _, rfl, rfl, X3 _ _ hf, hu, sz_le (by rw [natV_len, natV_len]; omega), (O2.trans (ex_oth X3)).upd, _, rfl, ?_⟩
      rw [upd_same, eT]
      unfold natV
      rw [List.map_append]
    · rintro σ H2 ⟨O2, v2, rfl, hf⟩
      rw [List.take_of_length_le (by omega)] at hf
      exact ⟨_, rfl, q f H2 (fun b o e => O2 b o (ne_of_none e nf) e) nf hf⟩
theorem ok__law_row_moments {P : Program} {w : World} {K : PySem.W.Frag} {mg : Str → Option Value} {base : Heap} (T : Env K mg) {d L : Nat} (hL : 40 ≤ L) (r__law_moments : Fc P w K mg base L (He.ga K "_law_moments") [] (sp__law_moments K d)) : Fc P w K mg base (L + 1) (He.ga K "_law_row_moments") [] (sp__law_row_moments K (d)) := by
  obtain ⟨fd, D, F⟩ := fb__law_row_moments T hL r__law_moments
  exact F.all (D.bindsN fun _ _ _ _ _ _ us hl => match us, hl with | [_], _ => rfl)
end
section
theorem fb__law_moments {P : Program} {w : World} {K : PySem.W.Frag} {mg : Str → Option Value} {base : Heap} (T : Env K mg) {d L : Nat} (hL : 40 ≤ L) (r__law_moments : Fc P w K mg base L (He.ga K "_law_moments") [] (sp__law_moments K d)) : ∃ fd, FunD K "_law_moments" "_law_moments" (defArgs s__law_moments) (defBody s__law_moments) (defScope s__law_moments) [] [] (He.ga K "_law_moments") fd ∧ Fb P w K mg base (L + 2) (He.ga K "_law_moments") fd ["_law_short_here"] (sp__law_moments K (d + 1)) := by
  obtain ⟨fd, F⟩ := T.f__law_moments
  refine ⟨fd, F, fb_of F sc__law_moments (fun vs H Q E h => ?_) (fun cdv A outer s H vs Q E hr h => ?_)⟩
  · obtain ⟨a, t, rfl, _⟩ := h
    rfl
  · obtain ⟨a, t, rfl, hD, hn, hok, hl, q⟩ := h
    refine ⟨_, (pss_cons (ps_if (pt_cmpR op_eq (pe_ix ix_tup (pv 0) pe_int (fun _ _ => rfl)) pe_str (nomark _))
      (pss_one (ps_ret (pe_lst (pa_cons (pe_ix ix_tup (pv 0) pe_int (fun _ _ => rfl)) pa_nil))))
      pss_nil)
      (pss_cons (ps_set (i := 1) sc__law_moments.nd rfl (Or.inl rfl) (c_call (ok__law_row_moments T hL r__law_moments) (hr.mono (by omega)) T.g__law_row_moments T.k__law_row_moments takes0 (pa_cons (pe_ix ix_tup (pv 0) pe_int (fun _ _ => rfl)) pa_nil)))
      (pss_cons (ps_set (i := 2) sc__law_moments.nd rfl (Or.inl rfl) (pe_lst pa_nil))
      (pss_cons (ps_for (passes_of rfl) rfl (pi_range1 (by rfl) T.n_range (pa_cons (pe_ix ix_tup (pv 0) pe_int (fun _ _ => rfl)) pa_nil)) (pg_name (i := 3) sc__law_moments.nd rfl (Or.inr rfl))
      (pss_one (ps_expr (pe_bm PySem.F.plainAttrs_list PySem.F.slot_list_extend PySem.F.type_list_extend mt_extend (pv 2) (pa_cons (pe_lc (own := [("_law_moment", 4)]) (by rfl) sc__law_moments.nd (pi_list (pv 1)) (blkOk_by (own := [("_law_moment", 4)]) (N := ["_law_short_here", "_law_own", "_law_found", "_law_time", "_law_moment"]) (sc := defScope s__law_moments) (by decide +kernel)) (fun _ _ _ _ _ => (pg_name (i := 4) sc__law_moments.nd rfl (Or.inl rfl))) (fun _ _ _ _ _ => pts_nil) (fun _ _ _ _ _ => (pe_op op_add (pv 4) (pe_op op_mul (pv 3) (pe_ix (ix_tupK K) (pv 0) pe_int (fun _ _ => rfl)))))) pa_nil)))))
      (pss_one (ps_ret (pv 2))))))), ?_⟩
    cases t with
    | «at» n =>
      unfold DtAt at hD
      refine ⟨_, rfl, a, _, 0, _, rfl, rfl, sq_tup hD, rfl, rfl, _, rfl, iteT ?_⟩
      refine ⟨_, rfl, a, _, 1, _, rfl, rfl, sq_tup hD, rfl, by show 1 ≤ sizeLine; decide, fun p np => q p _ (ex_new np) np ?_⟩
      rw [upd_same]
      unfold Tr.moms
      rfl
    | ov ps m s_ =>
      unfold DtAt at hD
      obtain ⟨r, as, hD, hr2, hA⟩ := hD
      obtain ⟨_, m2, hm, hml, hl2, hpl, hokL⟩ := ov_facts hok
      unfold Tr.moms at q
      refine ⟨_, rfl, a, _, 0, _, rfl, rfl, sq_tup hD, rfl, rfl, _, rfl, iteF ?_⟩
      generalize hns : momsL ps = ns at *
      refine ⟨_, rfl, a, _, 1, _, rfl, rfl, sq_tup hD, rfl, r, as, ps, rfl, hr2, hA, fun t ht => ?_, hokL, by rw [hns]; exact hl2, fun w H1 X1 nw hw => ?_⟩
      · have := nestL_mem ht
        unfold Tr.nest at hn
        omega
      rw [hns] at hw
      refine ⟨by show 0 ≤ sizeLine; decide, fun f nf => ?_⟩
      have nf0 := ex_fresh X1 nf
      have X2 := X1.trans (ex_new (o := .lst []) nf)
      have wf : w ≠ f := ne_of_none hw nf
      have af : a ≠ f := ne_of_none hD nf0
      have ha2 := X2 _ _ hD
      have hw2 := ex_new (o := .lst []) nf _ _ hw
      have hf2 : upd H1 f (.lst []) f = some (.lst []) := upd_same
      generalize upd H1 f (.lst []) = H2 at X2 ha2 hw2 hf2 ⊢
      refine ⟨_, rfl, a, _, 2, _, rfl, rfl, sq_tup ha2, rfl, _, rfl, by omega, by omega, for_range (fun i σ H' => Oth f H2 H' ∧ ∃ v3 v4, σ = [some (.ref a), some (.ref w), some (.ref f), v3, v4] ∧ H' f = some (.lst (natV (overN ns i s_)))) ⟨Oth.refl _ _, _, _, rfl, hf2⟩ ?_ ?_⟩
      · rintro i σ H3 hi ⟨O3, v3, v4, rfl, hf3⟩
        have hi2 : i < m := by omega
        have hw3 := O3 _ _ wf hw2
        have ha3 := O3 _ _ af ha2
        have ll : (overN ns i s_).length = i * ns.length := overN_len ns i s_
        have l2 : i * ns.length ≤ m * ns.length := Nat.mul_le_mul_right _ (by omega)
        refine ⟨_, rfl, .inl ⟨rfl, _, sq_lst hf3⟩, _, rfl, w, rfl, ⟨_, sq_lst hw3⟩, fun A nA => lc_on ns (fun n : Nat => V.int n) L2.walk_list (fun n => some (.int ((n + i * s_ : Nat) : Int))) (fun H' => Ex H3 H') (fun H' z e => ex_mut e nA) (.refl _) (by omega) (fun H' e => sq_lst (e _ _ hw3)) (fun j n H4 acc N hn X4 hD la k => ?_) fun H4 X4 d4 => ?_⟩
        · refine ⟨rfl, _, rfl, _, rfl, _, rfl, a, _, 3, _, rfl, rfl, sq_tup (X4 _ _ ha3), rfl, _, _, rfl, rfl, .inl ⟨by omega, by omega⟩, _, _, rfl, rfl, acc, hD, la, ?_⟩
          have e : ((n : Nat) : Int) + (0 + ((i : Nat) : Int)) * ((s_ : Nat) : Int) = ((n + i * s_ : Nat) : Int) := by simp
          show N (upd H4 A (.lst (acc ++ [.int (((n : Nat) : Int) + (0 + ((i : Nat) : Int)) * ((s_ : Nat) : Int))])))
          rw [e]
          exact k H4 X4 hD
        · have ed : ns.filterMap (fun n => some (V.int ((n + i * s_ : Nat) : Int))) = natV (ns.map fun n => n + i * s_) := by
            unfold natV
            rw [List.filterMap_eq_map', List.map_map]
            rfl
          rw [ed] at d4
          refine ⟨f, A, _, _, rfl, rfl, X4 _ _ hf3, d4, sz_le (by rw [natV_len, natV_len, List.length_map, ll]; omega), (O3.trans (ex_oth X4)).upd, _, _, rfl, ?_⟩
          rw [upd_same, overN_succ]
          unfold natV
          rw [List.map_append]
      · rintro σ H3 ⟨O3, v3, v4, rfl, hf3⟩
        rw [show ((m : Nat) : Int).toNat = m by omega] at hf3
        exact ⟨_, rfl, q f H3 (Oth.ex X2 nf0 O3) nf0 hf3⟩
theorem ok__law_moments {P : Program} {w : World} {K : PySem.W.Frag} {mg : Str → Option Value} {base : Heap} (T : Env K mg) {d L : Nat} (hL : 40 ≤ L) (r__law_moments : Fc P w K mg base L (He.ga K "_law_moments") [] (sp__law_moments K d)) : Fc P w K mg base (L + 2) (He.ga K "_law_moments") [] (sp__law_moments K (d + 1)) := by
  obtain ⟨fd, D, F⟩ := fb__law_moments T hL r__law_moments
  exact F.all (D.bindsN fun _ _ _ _ _ _ us hl => match us, hl with | [_], _ => rfl)
theorem all__law_moments {P : Program} {w : World} {K : PySem.W.Frag} {mg : Str → Option Value} {base : Heap} (T : Env K mg) : ∀ d, Fc P w K mg base (40 + 2 * d) (He.ga K "_law_moments") [] (sp__law_moments K d)
  | 0 => fc_no fun vs H Q E h => by
    obtain ⟨a, t, _, _, h, _⟩ := h
    omega
  | d + 1 => ok__law_moments T (Nat.le_add_right 40 _) (all__law_moments T d)
end
section
def sp__law_wide (K : PySem.W.Frag) : Sp := fun vs H Q _ => ∃ p, vs = [.ref p] ∧ Pot H p ∧ ∀ (n : Nat) H', n < 10 ^ 50 → PotOn H H' p → Q (.int (n : Nat)) H'
theorem fb__law_wide {P : Program} {w : World} {K : PySem.W.Frag} {mg : Str → Option Value} {base : Heap} (T : Env K mg) : ∃ fd, FunD K "_law_wide" "_law_wide" (defArgs s__law_wide) (defBody s__law_wide) (defScope s__law_wide) [] [] (He.ga K "_law_wide") fd ∧ Fb P w K mg base 2 (He.ga K "_law_wide") fd ["_law_pot_here"] (sp__law_wide K) := by
  obtain ⟨fd, F⟩ := T.f__law_wide
  refine ⟨fd, F, fb_of F sc__law_wide (fun vs H Q E h => ?_) (fun cdv A outer s H vs Q E hr h => ?_)⟩
  · obtain ⟨p, rfl, _⟩ := h
    rfl
  · obtain ⟨p, rfl, hp, q⟩ := h
    refine ⟨_, (pss_cons (ps_set (i := 1) sc__law_wide.nd rfl (Or.inl rfl) pe_int)
      (pss_cons (ps_for (passes_of rfl) rfl (pi_range1 (by rfl) T.n_range (pa_cons pe_int pa_nil)) (pg_name (i := 2) sc__law_wide.nd rfl (Or.inl rfl))
      (pss_one (ps_set (i := 1) sc__law_wide.nd rfl (Or.inl rfl) (pe_op op_add (pe_op op_mul (pv 1) (pe_op op_pow pe_int pe_int)) (c_call (ok__law_draw T) (hr.mono (by decide)) T.g__law_draw T.k__law_draw takes0 (pa_cons (pv 0) (pa_cons (pe_op op_pow pe_int pe_int) pa_nil)))))))
      (pss_one (ps_ret (pe_op op_mod (pv 1) (pe_op op_pow pe_int pe_int)))))), ?_⟩
    refine ⟨_, rfl, by decide, by decide, for_range (fun i σ H' => PotOn H H' p ∧ ∃ (f : Nat) (v3 : Option V), σ = [some (.ref p), some (.int (f : Nat)), v3]) ⟨.refl hp, 0, _, rfl⟩ ?_ ?_⟩
    · rintro i σ H2 hi ⟨P2, f, v3, rfl⟩
      refine ⟨_, rfl, _, _, rfl, rfl, ⟨by decide, by decide, by decide⟩, _, _, rfl, rfl, .inr (by decide), _, rfl, _, _, rfl, rfl, ⟨by decide, by decide, by decide⟩, p, _, rfl, P2.1, by decide, by decide, fun d H3 d0 d1 P3 => ⟨_, _, rfl, rfl, P2.trans P3, ?_⟩⟩
      obtain ⟨n, rfl⟩ := Int.eq_ofNat_of_zero_le d0
      refine ⟨f * 10 ^ 9 + n, some (.int (0 + (i : Nat))), ?_⟩
      have e : ((f * 10 ^ 9 + n : Nat) : Int) = ((f : Nat) : Int) * (10 : Int) ^ (9 : Int).toNat + ((n : Nat) : Int) := by
        rw [Int.natCast_add, Int.natCast_mul]
        rfl
      rw [e]
      rfl
    · rintro σ H2 ⟨P2, f, v3, rfl⟩
      refine ⟨_, rfl, _, _, rfl, rfl, ⟨by decide, by decide, by decide⟩, _, _, rfl, rfl, (by show (0 : Int) < 10 ^ 50; decide), ?_⟩
      have e : ((f : Nat) : Int) % (10 : Int) ^ (50 : Int).toNat = ((f % 10 ^ 50 : Nat) : Int) := by
        rw [Int.natCast_emod]
        rfl
      show Q (.int (((f : Nat) : Int) % (10 : Int) ^ (50 : Int).toNat)) H2
      rw [e]
      exact q _ H2 (Nat.mod_lt _ (by decide +kernel)) P2
theorem ok__law_wide {P : Program} {w : World} {K : PySem.W.Frag} {mg : Str → Option Value} {base : Heap} (T : Env K mg) : Fc P w K mg base 2 (He.ga K "_law_wide") [] (sp__law_wide K ) := by
  obtain ⟨fd, D, F⟩ := fb__law_wide T
  exact F.all (D.bindsN fun _ _ _ _ _ _ us hl => match us, hl with | [_], _ => rfl)
end
section
def sp__law_gap (K : PySem.W.Frag) : Sp := fun vs H Q _ => ∃ p, vs = [.ref p] ∧ Pot H p ∧ ∀ (n : Nat) H', n < 10 ^ 50 → PotOn H H' p → Q (.int (n : Nat)) H'
theorem fb__law_gap {P : Program} {w : World} {K : PySem.W.Frag} {mg : Str → Option Value} {base : Heap} (T : Env K mg) : ∃ fd, FunD K "_law_gap" "_law_gap" (defArgs s__law_gap) (defBody s__law_gap) (defScope s__law_gap) [] [] (He.ga K "_law_gap") fd ∧ Fb P w K mg base 3 (He.ga K "_law_gap") fd ["_law_pot_here"] (sp__law_gap K) := by
  obtain ⟨fd, F⟩ := T.f__law_gap
  refine ⟨fd, F, fb_of F sc__law_gap (fun vs H Q E h => ?_) (fun cdv A outer s H vs Q E hr h => ?_)⟩
  · obtain ⟨p, rfl, _⟩ := h
    rfl
  · obtain ⟨p, rfl, hp, q⟩ := h
    refine ⟨_, (pss_cons (ps_set (i := 1) sc__law_gap.nd rfl (Or.inl rfl) (c_call (ok__law_draw T) (hr.mono (by decide)) T.g__law_draw T.k__law_draw takes0 (pa_cons (pv 0) (pa_cons pe_int pa_nil))))
      (pss_cons (ps_if (pt_cmpR op_lt (pv 1) pe_int (nomark _))
      (pss_one (ps_ret pe_int))
      pss_nil)
      (pss_cons (ps_if (pt_cmpR op_lt (pv 1) pe_int (nomark _))
      (pss_one (ps_ret (c_call (ok__law_draw T) (hr.mono (by decide)) T.g__law_draw T.k__law_draw takes0 (pa_cons (pv 0) (pa_cons pe_int pa_nil)))))
      pss_nil)
      (pss_cons (ps_if (pt_cmpR op_eq (pv 1) pe_int (nomark _))
      (pss_one (ps_ret (pe_op op_mul pe_int (c_call (ok__law_draw T) (hr.mono (by decide)) T.g__law_draw T.k__law_draw takes0 (pa_cons (pv 0) (pa_cons pe_int pa_nil))))))
      pss_nil)
      (pss_cons (ps_if (pt_cmpR op_eq (pv 1) pe_int (nomark _))
      (pss_one (ps_ret (c_call (ok__law_draw T) (hr.mono (by decide)) T.g__law_draw T.k__law_draw takes0 (pa_cons (pv 0) (pa_cons pe_int pa_nil)))))
      pss_nil)
      (pss_cons (ps_if (pt_cmpR op_eq (pv 1) pe_int (nomark _))
      (pss_one (ps_ret (pe_op op_mul pe_int (c_call (ok__law_draw T) (hr.mono (by decide)) T.g__law_draw T.k__law_draw takes0 (pa_cons (pv 0) (pa_cons pe_int pa_nil))))))
      pss_nil)
      (pss_one (ps_ret (c_call (ok__law_wide T) (hr.mono (by decide)) T.g__law_wide T.k__law_wide takes0 (pa_cons (pv 0) pa_nil)))))))))), ?_⟩
    have big : ∀ {n : Nat}, n ≤ 1000000 → n < 10 ^ 50 := fun {n} h => Nat.lt_of_le_of_lt h (by decide +kernel)
    refine ⟨_, rfl, p, 9, rfl, hp, by decide, by decide, fun way H1 w0 w1 P1 => ?_⟩
    refine ⟨_, rfl, _, _, rfl, rfl, _, rfl, ite2 (fun _ => ?_) (fun _ => ?_)⟩
    · exact q 0 H1 (by decide +kernel) P1
    refine ⟨_, rfl, _, _, rfl, rfl, _, rfl, ite2 (fun _ => ?_) (fun _ => ?_)⟩
    · refine ⟨_, rfl, p, 6, rfl, P1.1, by decide, by decide, fun d H2 d0 d1 P2 => ?_⟩
      obtain ⟨n, rfl⟩ := Int.eq_ofNat_of_zero_le d0
      exact q n H2 (big (by omega)) (P1.trans P2)
    refine ⟨_, rfl, rfl, _, rfl, ite2 (fun _ => ?_) (fun _ => ?_)⟩
    · refine ⟨_, rfl, p, 24, rfl, P1.1, by decide, by decide, fun d H2 d0 d1 P2 => ⟨_, _, rfl, rfl, .inl (by decide), ?_⟩⟩
      obtain ⟨n, rfl⟩ := Int.eq_ofNat_of_zero_le d0
      have e : (60 : Int) * ((n : Nat) : Int) = ((60 * n : Nat) : Int) := by omega
      show Q (.int ((60 : Int) * ((n : Nat) : Int))) H2
      rw [e]
      exact q _ H2 (big (by omega)) (P1.trans P2)
    refine ⟨_, rfl, rfl, _, rfl, ite2 (fun _ => ?_) (fun _ => ?_)⟩
    · refine ⟨_, rfl, p, 1440, rfl, P1.1, by decide, by decide, fun d H2 d0 d1 P2 => ?_⟩
      obtain ⟨n, rfl⟩ := Int.eq_ofNat_of_zero_le d0
      exact q n H2 (big (by omega)) (P1.trans P2)
    refine ⟨_, rfl, rfl, _, rfl, ite2 (fun _ => ?_) (fun _ => ?_)⟩
    · refine ⟨_, rfl, p, 100, rfl, P1.1, by decide, by decide, fun d H2 d0 d1 P2 => ⟨_, _, rfl, rfl, .inl (by decide), ?_⟩⟩
      obtain ⟨n, rfl⟩ := Int.eq_ofNat_of_zero_le d0
      have e : (1440 : Int) * ((n : Nat) : Int) = ((1440 * n : Nat) : Int) := by omega
      show Q (.int ((1440 : Int) * ((n : Nat) : Int))) H2
      rw [e]
      exact q _ H2 (big (by omega)) (P1.trans P2)
    exact ⟨_, rfl, p, rfl, P1.1, fun n H2 hn P2 => q n H2 hn (P1.trans P2)⟩
theorem ok__law_gap {P : Program} {w : World} {K : PySem.W.Frag} {mg : Str → Option Value} {base : Heap} (T : Env K mg) : Fc P w K mg base 3 (He.ga K "_law_gap") [] (sp__law_gap K ) := by
  obtain ⟨fd, D, F⟩ := fb__law_gap T
  exact F.all (D.bindsN fun _ _ _ _ _ _ us hl => match us, hl with | [_], _ => rfl)
end
section
abbrev GAP : Nat := 10 ^ 51
theorem okL_snoc {t : Tr} : ∀ {ts : List Tr}, okL_ ts → t.ok → okL_ (ts ++ [t])
  | [], _, h => by
    show okL_ [t]
    unfold okL_
    exact ⟨h, by unfold okL_; trivial⟩
  | x :: r, h, ht => by
    unfold okL_ at h
    show okL_ (x :: (r ++ [t]))
    unfold okL_
    exact ⟨h.1, okL_snoc h.2 ht⟩
theorem risB_snoc {t : Tr} : ∀ {ts : List Tr}, okL_ ts → risB ts = true → (ts ≠ [] → (momsL ts).getLastD 0 < t.moms.headD 0) → risB (ts ++ [t]) = true
  | [], _, _, _ => rfl
  | [x], h, _, hb => by
    have hb := hb (by simp)
    have e : momsL [x] = x.moms := by simp [momsL]
    rw [e] at hb
    show (decide (x.moms.getLastD 0 < t.moms.headD 0) && true) = true
    rw [decide_eq_true hb]
    rfl
  | x :: y :: r, h, hr, hb => by
    obtain ⟨h1, h2⟩ := risB_cons hr
    have hok : okL_ (y :: r) := by
      unfold okL_ at h
      exact h.2
    have e : momsL (x :: y :: r) = x.moms ++ momsL (y :: r) := by rw [momsL]
    have ih := risB_snoc hok h2 fun _ => by
      have hb := hb (by simp)
      rw [e, lastD_app (momsL_ne hok (by simp))] at hb
      exact hb
    show (decide (x.moms.getLastD 0 < y.moms.headD 0) && risB (y :: r ++ [t])) = true
    rw [decide_eq_true h1, ih]
    rfl
theorem momsL_snoc (ts : List Tr) (t : Tr) : momsL (ts ++ [t]) = momsL ts ++ t.moms := by
  have e : momsL [t] = t.moms := by simp [momsL]
  rw [momsL_app, e]
theorem at_lastN {ns : List Nat} (h : ns ≠ []) : atI (natV ns) (-1) = some (.int ((ns.getLastD 0 : Nat) : Int)) := by
  have e := List.dropLast_concat_getLast h
  have e2 : ns.getLastD 0 = ns.getLast h := by
    rw [List.getLastD_eq_getLast?, List.getLast?_eq_some_getLast h]
    rfl
  rw [e2]
  have e3 : natV ns = natV ns.dropLast ++ [.int ((ns.getLast h : Nat) : Int)] := by
    unfold natV
    rw [← List.map_singleton (f := fun n : Nat => V.int (n : Int)), ← List.map_append, e]
  rw [e3]
  exact atI_last _ _
theorem at_headN {ns : List Nat} (h : ns ≠ []) : atI (natV ns) 0 = some (.int ((ns.headD 0 : Nat) : Int)) := by
  cases ns with
  | nil => exact absurd rfl h
  | cons x r => exact atI_nat (j := 0) rfl
theorem nestL_le {d : Nat} : ∀ {ts : List Tr}, (∀ t ∈ ts, t.nest ≤ d) → nestL ts ≤ d
  | [], _ => by
    unfold nestL
    exact Nat.zero_le _
  | t :: r, h => by
    unfold nestL
    have h1 := h t List.mem_cons_self
    have h2 := nestL_le (ts := r) fun x hx => h x (List.mem_cons_of_mem _ hx)
    exact Nat.max_le.mpr ⟨h1, h2⟩
theorem over_bound {at_ la st m' len V G : Nat} (h1 : la + 1 ≤ at_ + len * V) (h2 : st ≤ len * V + G) (hl : 1 ≤ len) : la + m' * st + 1 ≤ at_ + (m' + 1) * len * (V + G) := by
  have e1 : m' * st ≤ m' * (len * V) + m' * G := by
    rw [← Nat.mul_add]
    exact Nat.mul_le_mul_left _ h2
  have e2 : (m' + 1) * len * (V + G) = m' * (len * V) + len * V + (m' + 1) * len * G := by
    rw [Nat.mul_add, Nat.mul_assoc (m' + 1) len V, Nat.add_mul m' 1 (len * V), Nat.one_mul]
  have e3 : m' * G ≤ (m' + 1) * len * G := Nat.mul_le_mul_right _ (Nat.le_trans (Nat.le_succ _) (Nat.le_mul_of_pos_right _ hl))
  omega
theorem momsL_mem {t : Tr} {n : Nat} : ∀ {ts : List Tr}, t ∈ ts → n ∈ t.moms → n ∈ momsL ts
  | x :: r, h, hn => by
    rw [momsL, List.mem_append]
    rcases List.mem_cons.mp h with rfl | h
    · exact .inl hn
    · exact .inr (momsL_mem h hn)
theorem momsL_le {t : Tr} : ∀ {ts : List Tr}, t ∈ ts → t.moms.length ≤ (momsL ts).length
  | x :: r, h => by
    rw [momsL, List.length_append]
    rcases List.mem_cons.mp h with rfl | h
    · omega
    · have := momsL_le h
      omega
end
section
/-- the pot at p and the list at l are drawn from: everything else stays -/
def PotL (H H' : Hp) (p l : Addr) : Prop := Pot H' p ∧ ∀ b o, b ≠ p → b ≠ l → H b = some o → H' b = some o
theorem PotL.refl {H : Hp} {p l : Addr} (h : Pot H p) : PotL H H p l := ⟨h, fun _ _ _ _ e => e⟩
theorem PotL.trans {H H1 H2 : Hp} {p l : Addr} (a : PotL H H1 p l) (b : PotL H1 H2 p l) : PotL H H2 p l := ⟨b.1, fun c o n1 n2 e => b.2 c o n1 n2 (a.2 c o n1 n2 e)⟩
theorem PotL.on {H H1 H2 : Hp} {p l : Addr} (a : PotL H H1 p l) (b : PotOn H1 H2 p) : PotL H H2 p l := ⟨b.1, fun c o n1 n2 e => b.2 c o n1 (a.2 c o n1 n2 e)⟩
theorem PotL.ex {H H1 H2 : Hp} {p l : Addr} (a : PotL H H1 p l) (e : Ex H1 H2) : PotL H H2 p l := by
  obtain ⟨⟨x, y, h, r⟩, k⟩ := a
  exact ⟨⟨x, y, e _ _ h, r⟩, fun b o n1 n2 h => e _ _ (k b o n1 n2 h)⟩
theorem PotL.put {H H1 : Hp} {p l : Addr} {o : HO} (a : PotL H H1 p l) (n : l ≠ p) : PotL H (upd H1 l o) p l := by
  obtain ⟨⟨x, y, h, r⟩, k⟩ := a
  refine ⟨⟨x, y, by rw [upd_ne (Ne.symm n)]; exact h, r⟩, fun b u n1 n2 h => ?_⟩
  rw [upd_ne n2]
  exact k b u n1 n2 h
theorem PotL.put2 {H H1 : Hp} {p l f : Addr} {o : HO} (a : PotL H H1 p l) (nf : H f = none) (n : f ≠ p) : PotL H (upd H1 f o) p l := by
  obtain ⟨⟨x, y, h, r⟩, k⟩ := a
  refine ⟨⟨x, y, by rw [upd_ne (Ne.symm n)]; exact h, r⟩, fun b u n1 n2 h => ?_⟩
  rw [upd_ne (ne_of_none h nf)]
  exact k b u n1 n2 h
theorem potL_ne {H H' : Hp} {p l f : Addr} (P : PotL H H' p l) (n : H' f = none) : f ≠ p := fun z => by
  obtain ⟨_, _, e, _⟩ := P.1
  rw [z, e] at n
  cases n
/-- tuples stay -/
theorem PotL.tup {H H' : Hp} {p l : Addr} {ys : List V} (hp : Pot H p) (hl : H l = some (.lst ys)) (P : PotL H H' p l) : ∀ b xs, H b = some (.tup xs) → H' b = some (.tup xs) := fun b xs e => by
  obtain ⟨x, y, h, _⟩ := hp
  exact P.2 _ _ (fun z => by rw [z, h] at e; cases e) (fun z => by rw [z, hl] at e; cases e) e
def sp__law_short (K : PySem.W.Frag) (d : Nat) : Sp := fun vs H Q _ => ∃ (p l : Addr) (at_ room deep : Nat) (k : Int), vs = [.ref p, .int (at_ : Nat), .int (room : Nat), .int (deep : Nat), .ref l] ∧ Pot H p ∧ H l = some (.lst [.int k]) ∧ l ≠ p ∧ 1 ≤ room ∧ room ≤ 1440 ∧ deep ≤ 8 ∧ deep + 1 ≤ d ∧ 1 ≤ k ∧ ∀ (a : Addr) (t : Tr) (k' : Int) H', DtAt H' t a → 0 ≤ k' → (t.pcs : Int) + k' ≤ k → t.ok → t.nest ≤ deep → t.moms.headD 0 = at_ → t.moms.length ≤ room → t.moms.getLastD 0 + 1 ≤ at_ + t.moms.length * ((2 * deep + 1) * GAP) → H' l = some (.lst [.int k']) → PotL H H' p l → Q (.ref a) H'
def sp__law_row (K : PySem.W.Frag) (d : Nat) : Sp := fun vs H Q _ => ∃ (p l : Addr) (at_ room deep : Nat) (k : Int), vs = [.ref p, .int (at_ : Nat), .int (room : Nat), .int (deep : Nat), .ref l] ∧ Pot H p ∧ H l = some (.lst [.int k]) ∧ l ≠ p ∧ 1 ≤ room ∧ room ≤ 1440 ∧ deep ≤ 8 ∧ deep + 1 ≤ d ∧ 1 ≤ k ∧ ∀ (r : Addr) (as : List Addr) (ts : List Tr) (k' : Int) H', 0 ≤ k' → (pcsL ts : Int) + k' ≤ k → H' r = some (.tup (as.map V.ref)) → DtsAt H' ts as → ts ≠ [] → okL_ ts → (∀ t ∈ ts, t.nest ≤ deep) → risB ts = true → (momsL ts).headD 0 = at_ → (momsL ts).length ≤ room → (momsL ts).getLastD 0 + 1 ≤ at_ + (momsL ts).length * ((2 * deep + 2) * GAP) → H' l = some (.lst [.int k']) → PotL H H' p l → Q (.ref r) H'
theorem tup_on {H H' : Hp} {p : Addr} (hp : Pot H p) (P : PotOn H H' p) : ∀ b xs, H b = some (.tup xs) → H' b = some (.tup xs) := fun b xs e => P.2 _ _ (pot_other hp e (fun _ _ z => by cases z)) e
theorem tup_upd {H : Hp} {f : Addr} {ys : List V} {o : HO} (hf : H f = some (.lst ys)) : ∀ b xs, H b = some (.tup xs) → upd H f o b = some (.tup xs) := fun b xs e => by
  rw [upd_ne (fun z => by rw [z, hf] at e; cases e)]
  exact e
end
section
theorem fb__law_row {P : Program} {w : World} {K : PySem.W.Frag} {mg : Str → Option Value} {base : Heap} (T : Env K mg) {d L : Nat} (hL : 60 ≤ L) (r__law_short : Fc P w K mg base L (He.ga K "_law_short") [] (sp__law_short K d)) : ∃ fd, FunD K "_law_row" "_law_row" (defArgs s__law_row) (defBody s__law_row) (defScope s__law_row) [] [] (He.ga K "_law_row") fd ∧ Fb P w K mg base (L + 1) (He.ga K "_law_row") fd ["_law_pot_here", "_law_at", "_law_room", "_law_deep", "_law_left"] (sp__law_row K (d)) := by
  obtain ⟨fd, F⟩ := T.f__law_row
  refine ⟨fd, F, fb_of F sc__law_row (fun vs H Q E h => ?_) (fun cdv A outer s H vs Q E hr h => ?_)⟩
  · obtain ⟨p, l, at_, room, deep, k, rfl, _⟩ := h
    rfl
  · obtain ⟨p, l, at_, room, deep, k, rfl, hp, hl, lp, r1, r2, d8, dd, k1, q⟩ := h
    refine ⟨_, (pss_cons (ps_set (i := 5) sc__law_row.nd rfl (Or.inl rfl) (pe_lst pa_nil))
      (pss_cons (ps_set (i := 6) sc__law_row.nd rfl (Or.inl rfl) (pv 1))
      (pss_cons (ps_set (i := 7) sc__law_row.nd rfl (Or.inl rfl) (pe_op op_add pe_int (c_call (ok__law_draw T) (hr.mono (by omega)) T.g__law_draw T.k__law_draw takes0 (pa_cons (pv 0) (pa_cons (pe_callB (call_min2 rfl) (by rfl) T.n_min (by decide +kernel) (pa_cons pe_int (pa_cons (pv 2) pa_nil))) pa_nil)))))
      (pss_cons (ps_for (passes_of rfl) rfl (pi_range1 (by rfl) T.n_range (pa_cons (pv 7) pa_nil)) (pg_name (i := 8) sc__law_row.nd rfl (Or.inl rfl))
      (pss_one (ps_if (PW.pt (pw_or (pt_cmpR op_eq (pv 8) pe_int (nomark _)) (pw_or1 (pt_cmpR op_gt (pe_ix ix_list (pv 4) pe_int (fun _ _ => rfl)) pe_int (nomark _)))))
      (pss_cons (ps_set (i := 9) sc__law_row.nd rfl (Or.inl rfl) (c_call r__law_short (hr.mono (by omega)) T.g__law_short T.k__law_short takes0 (pa_cons (pv 0) (pa_cons (pv 6) (pa_cons (pe_op op_fdiv (pv 2) (pv 7)) (pa_cons (pv 3) (pa_cons (pv 4) pa_nil)))))))
      (pss_cons (ps_expr (pe_bm PySem.F.plainAttrs_list PySem.F.slot_list_append PySem.F.type_list_append mt_append (pv 5) (pa_cons (pv 9) pa_nil)))
      (pss_one (ps_set (i := 6) sc__law_row.nd rfl (Or.inl rfl) (pe_op op_add (pe_op op_add (pe_ix ix_list (c_call (all__law_moments T 9) (hr.mono (by omega)) T.g__law_moments T.k__law_moments takes0 (pa_cons (pv 9) pa_nil)) (pe_un un_neg pe_int) (fun _ _ => rfl)) pe_int) (c_call (ok__law_gap T) (hr.mono (by omega)) T.g__law_gap T.k__law_gap takes0 (pa_cons (pv 0) pa_nil)))))))
      pss_nil)))
      (pss_one (ps_ret (pe_callTy call_tuple_of (by rfl) T.n_tuple (by decide +kernel) (pa_cons (pv 5) pa_nil)))))))), ?_⟩
    refine ⟨by show 0 ≤ sizeLine; decide, fun f nf => ?_⟩
    have fp : f ≠ p := potL_ne (.refl hp (l := l)) nf
    have fl : f ≠ l := fun z => by rw [z, hl] at nf; cases nf
    have P1 : PotL H (upd H f (.lst [])) p l := (PotL.refl hp).ex (ex_new nf)
    have hf1 : upd H f (.lst []) f = some (.lst []) := upd_same
    have hl1 : upd H f (.lst []) l = some (.lst [.int k]) := ex_new nf _ _ hl
    generalize upd H f (.lst []) = H1 at P1 hf1 hl1 ⊢
    refine ⟨_, rfl, ?_⟩
    have em : (if ((room : Nat) : Int) < 3 then ((room : Nat) : Int) else 3) = ((min 3 room : Nat) : Int) := by split <;> omega
    refine ⟨_, rfl, _, rfl, _, _, rfl, p, _, rfl, P1.1, by rw [em]; omega, by rw [em]; omega, fun dv H2 d0 d1 P2 => ⟨_, _, rfl, rfl, ?_⟩⟩
    rw [em] at d1
    obtain ⟨e, rfl⟩ := Int.eq_ofNat_of_zero_le d0
    obtain ⟨mny, hmny⟩ : ∃ n : Nat, n = 1 + e := ⟨_, rfl⟩
    have e1 : (1 : Int) + ((e : Nat) : Int) = ((mny : Nat) : Int) := by omega
    have mn1 : 1 ≤ mny ∧ mny ≤ 3 ∧ mny ≤ room := by omega
    have P2' := P1.on P2
    have rq : 1 ≤ room / mny := (Nat.le_div_iff_mul_le (by omega)).mpr (by omega)
    have rq2 : room / mny ≤ 1440 := Nat.le_trans (Nat.div_le_self _ _) r2
    have rq3 : mny * (room / mny) ≤ room := Nat.mul_div_le _ _
    obtain ⟨W, hW⟩ : ∃ W, W = (2 * deep + 1) * GAP := ⟨_, rfl⟩
    have hW2 : (2 * deep + 2) * GAP = W + GAP := by rw [hW, ← Nat.succ_mul]
    refine ⟨_, rfl, _, rfl, by show -(2 ^ 62) ≤ (1 : Int) + ((e : Nat) : Int); omega, by show (1 : Int) + ((e : Nat) : Int) < 2 ^ 62; omega, for_range (fun i σ H' => PotL H H' p l ∧ ∃ (ts : List Tr) (as : List Addr) (here : Nat) (k' : Int) (v8 v9 : Option V), H' f = some (.lst (as.map V.ref)) ∧ DtsAt H' ts as ∧ okL_ ts ∧ (∀ t ∈ ts, t.nest ≤ deep) ∧ risB ts = true ∧ (i = 0 → ts = [] ∧ here = at_) ∧ (0 < i → ts ≠ []) ∧ (ts ≠ [] → (momsL ts).headD 0 = at_ ∧ (momsL ts).getLastD 0 < here ∧ (momsL ts).getLastD 0 + 1 ≤ at_ + (momsL ts).length * (W + GAP)) ∧ here ≤ at_ + (momsL ts).length * (W + GAP) ∧ (momsL ts).length ≤ i * (room / mny) ∧ ts.length ≤ i ∧ 0 ≤ k' ∧ (pcsL ts : Int) + k' ≤ k ∧ (i = 0 → k' = k) ∧ H' l = some (.lst [.int k']) ∧ σ = [some (.ref p), some (.int (at_ : Nat)), some (.int (room : Nat)), some (.int (deep : Nat)), some (.ref l), some (.ref f), some (.int (here : Nat)), some (.int ((1 : Int) + ((e : Nat) : Int))), v8, v9]) ⟨P2', [], [], at_, k, _, _, P2.2 _ _ fp hf1, by unfold DtsAt; rfl, by unfold okL_; trivial, (fun t z => nomatch z), rfl, fun _ => ⟨rfl, rfl⟩, fun z => absurd z (Nat.lt_irrefl _), fun z => absurd rfl z, by omega, Nat.zero_le _, Nat.le_refl _, by omega, by simp [pcsL], fun _ => rfl, P2.2 _ _ lp hl1, rfl⟩ ?_ ?_⟩
    · rintro i σ H3 hi ⟨P3, ts, as, here, k', v8, v9, hf, hD, hok, hne, hri, hi0, hi1, hfa, hhe, hle, htl, kz, kp, ki, hl3, rfl⟩
      have hi' : i < mny := by omega
      have draw : 1 ≤ k' → (tSeq (tAsg (tFc (sp__law_short K d) (fun _ _ _ _ => False) (tCons (tVar 0) (tCons (tVar 6) (tCons (tOp (rI CDiv fun i j => V.int (i / j)) (tVar 2) (tVar 7)) (tCons (tVar 3) (tCons (tVar 4) tNil)))))) (gName 9)) (tSeq (tDrop (tBM K "list" rAppend (tVar 5) (tCons (tVar 9) tNil))) (tAsg (tOp (rI0 fun i j => V.int (i + j)) (tOp (rI0 fun i j => V.int (i + j)) (tOp (rIxL K) (tFc (sp__law_moments K 9) (fun _ _ _ _ => False) (tCons (tVar 9) tNil)) (tUn (rU fun i => V.int (-i)) (tC (V.int 1)))) (tC (V.int 1))) (tFc (sp__law_gap K) (fun _ _ _ _ => False) (tCons (tVar 0) tNil))) (gName 6)))) { nx := fun σ H' => PotL H H' p l ∧ ∃ (ts : List Tr) (as : List Addr) (here : Nat) (k' : Int) (v8 v9 : Option V), H' f = some (.lst (as.map V.ref)) ∧ DtsAt H' ts as ∧ okL_ ts ∧ (∀ t ∈ ts, t.nest ≤ deep) ∧ risB ts = true ∧ (i + 1 = 0 → ts = [] ∧ here = at_) ∧ (0 < i + 1 → ts ≠ []) ∧ (ts ≠ [] → (momsL ts).headD 0 = at_ ∧ (momsL ts).getLastD 0 < here ∧ (momsL ts).getLastD 0 + 1 ≤ at_ + (momsL ts).length * (W + GAP)) ∧ here ≤ at_ + (momsL ts).length * (W + GAP) ∧ (momsL ts).length ≤ (i + 1) * (room / mny) ∧ ts.length ≤ i + 1 ∧ 0 ≤ k' ∧ (pcsL ts : Int) + k' ≤ k ∧ (i + 1 = 0 → k' = k) ∧ H' l = some (.lst [.int k']) ∧ σ = [some (.ref p), some (.int (at_ : Nat)), some (.int (room : Nat)), some (.int (deep : Nat)), some (.ref l), some (.ref f), some (.int (here : Nat)), some (.int ((1 : Int) + ((e : Nat) : Int))), v8, v9], rt := Q } [some (.ref p), some (.int (at_ : Nat)), some (.int (room : Nat)), some (.int (deep : Nat)), some (.ref l), some (.ref f), some (.int (here : Nat)), some (.int ((1 : Int) + ((e : Nat) : Int))), some (.int (0 + (i : Nat))), v9] H3 := fun kk => by
        have ed : ((room : Nat) : Int) / ((1 : Int) + ((e : Nat) : Int)) = ((room / mny : Nat) : Int) := by
          rw [e1]
          exact (Int.natCast_ediv room mny).symm
        refine ⟨_, rfl, _, rfl, _, rfl, _, rfl, _, _, rfl, rfl, ⟨by omega, by omega⟩, _, rfl, _, rfl, p, l, here, room / mny, deep, k', by rw [← ed], P3.1, hl3, lp, rq, rq2, d8, dd, kk, fun a t k2 H4 hDt kz2 kp2 htok htn hth htl2 htb hl4 P4 => ?_⟩
        have P34 := P3.trans P4
        have hf4 := P4.2 _ _ fp fl hf
        have hD4 : DtsAt H4 ts as := hD.keep (P4.tup P3.1 hl3)
        have al := hD.len
        have B1 := pos_moms t htok
        refine ⟨_, rfl, .inl ⟨rfl, _, sq_lst hf4⟩, _, rfl, f, _, _, rfl, rfl, hf4, small_len (by rw [List.length_map]; omega), ?_⟩
        have P5 := P34.put2 (o := .lst (as.map V.ref ++ [.ref a])) nf fp
        have hf5 : upd H4 f (.lst (as.map V.ref ++ [.ref a])) f = some (.lst ((as ++ [a]).map V.ref)) := by rw [upd_same, List.map_append]; rfl
        have hl5 : upd H4 f (.lst (as.map V.ref ++ [.ref a])) l = some (.lst [.int k2]) := by rw [upd_ne (Ne.symm fl)]; exact hl4
        have hDt5 : DtAt (upd H4 f (.lst (as.map V.ref ++ [.ref a]))) t a := hDt.keep (tup_upd hf4)
        have hD5 : DtsAt (upd H4 f (.lst (as.map V.ref ++ [.ref a]))) (ts ++ [t]) (as ++ [a]) := (hD4.keep (tup_upd hf4)).snoc hDt5
        generalize upd H4 f (.lst (as.map V.ref ++ [.ref a])) = H5 at P5 hf5 hl5 hDt5 hD5 ⊢
        refine ⟨_, rfl, a, t, rfl, hDt5, by omega, htok, by omega, fun u H6 X6 nu hu => ?_⟩
        have P6 := P5.ex X6
        refine ⟨_, rfl, u, _, _, _, rfl, rfl, sq_lst hu, at_lastN (moms_ne htok), _, _, rfl, rfl, _, rfl, p, rfl, P6.1, fun g H7 hg P7 => ⟨_, _, rfl, rfl, ?_⟩⟩
        have lenE : (momsL (ts ++ [t])).length = (momsL ts).length + t.moms.length := by rw [momsL_snoc, List.length_append]
        have eM : ((momsL ts).length + t.moms.length) * (W + GAP) = (momsL ts).length * (W + GAP) + (t.moms.length * W + t.moms.length * GAP) := by rw [Nat.add_mul, Nat.mul_add t.moms.length]
        have eG : GAP ≤ t.moms.length * GAP := Nat.le_mul_of_pos_left _ B1
        have gG : g < GAP := Nat.lt_trans hg (by decide +kernel)
        have tne : ts ++ [t] ≠ [] := by simp
        have lastE : (momsL (ts ++ [t])).getLastD 0 = t.moms.getLastD 0 := by rw [momsL_snoc, lastD_app (moms_ne htok)]
        have htb' : t.moms.getLastD 0 + 1 ≤ here + t.moms.length * W := by rw [hW]; exact htb
        refine ⟨P6.on P7, ts ++ [t], as ++ [a], t.moms.getLastD 0 + 1 + g, k2, some (.int (0 + (i : Nat))), some (.ref a), P7.2 _ _ fp (X6 _ _ hf5), (hD5.mono X6).keep (tup_on P6.1 P7), okL_snoc hok htok, fun x hx => ?_, risB_snoc hok hri fun z => by rw [hth]; exact (hfa z).2.1, fun z => by omega, fun _ => tne, fun _ => ⟨?_, by rw [lastE]; omega, by rw [lastE, lenE, eM]; omega⟩, by rw [lenE, eM]; omega, ?_, by rw [List.length_append]; show _ + 1 ≤ _; omega, kz2, by rw [pcsL_app, show pcsL [t] = t.pcs by simp [pcsL]]; omega, (fun z => by omega), P7.2 _ _ lp (X6 _ _ hl5), ?_⟩
        · rcases List.mem_append.mp hx with hx | hx
          · exact hne x hx
          · rw [List.mem_singleton.mp hx]
            exact htn
        · by_cases t0 : ts = []
          · subst t0
            have : i = 0 := Decidable.by_contra fun z => hi1 (by omega) rfl
            rw [momsL_snoc]
            show t.moms.headD 0 = at_
            rw [hth]
            exact (hi0 this).2
          · rw [momsL_snoc, headD_app (momsL_ne hok t0)]
            exact (hfa t0).1
        · rw [lenE, Nat.add_mul, Nat.one_mul]
          omega
        · have e9 : ((t.moms.getLastD 0 + 1 + g : Nat) : Int) = ((t.moms.getLastD 0 : Nat) : Int) + 1 + ((g : Nat) : Int) := by omega
          rw [e9]
          rfl
      refine ⟨_, rfl, rfl, _, rfl, ite2 (fun cz => ?_) (fun c0 => ?_)⟩
      · exact draw (by
          have z := of_decide_eq_true cz
          injection z with z
          have := ki (by omega)
          omega)
      · refine ⟨_, rfl, l, _, 0, _, rfl, rfl, sq_lst hl3, rfl, _, _, rfl, rfl, _, rfl, ite2 (fun cz => draw (by have := of_decide_eq_true cz; omega)) (fun _ => ?_)⟩
        have i0 : i ≠ 0 := fun z => c0 (by rw [z]; rfl)
        refine ⟨P3, ts, as, here, k', _, _, hf, hD, hok, hne, hri, (fun z => by omega), fun _ => hi1 (by omega), hfa, hhe, Nat.le_trans hle (Nat.mul_le_mul_right _ (by omega)), by omega, kz, kp, (fun z => by omega), hl3, rfl⟩
    · rintro σ H3 ⟨P3, ts, as, here, k', v8, v9, hf, hD, hok, hne, hri, hi0, hi1, hfa, hhe, hle, htl, kz, kp, ki, hl3, rfl⟩
      have en : ((1 : Int) + ((e : Nat) : Int)).toNat = mny := by omega
      rw [en] at hi1 hle
      have ts0 := hi1 (by omega)
      refine ⟨_, rfl, f, _, rfl, .inl ⟨sq_lst hf, fun r nr => ?_⟩⟩
      have X4 := ex_new (o := .tup (as.map V.ref)) nr
      obtain ⟨g1, g2, g3⟩ := hfa ts0
      exact q r as ts k' _ kz kp upd_same (hD.mono X4) ts0 hok hne hri g1 (by omega) (by rw [hW2]; exact g3) (X4 _ _ hl3) (P3.ex X4)
theorem ok__law_row {P : Program} {w : World} {K : PySem.W.Frag} {mg : Str → Option Value} {base : Heap} (T : Env K mg) {d L : Nat} (hL : 60 ≤ L) (r__law_short : Fc P w K mg base L (He.ga K "_law_short") [] (sp__law_short K d)) : Fc P w K mg base (L + 1) (He.ga K "_law_row") [] (sp__law_row K (d)) := by
  obtain ⟨fd, D, F⟩ := fb__law_row T hL r__law_short
  exact F.all (D.bindsN fun _ _ _ _ _ _ us hl => match us, hl with | [_, _, _, _, _], _ => rfl)
end
section
theorem fb__law_short {P : Program} {w : World} {K : PySem.W.Frag} {mg : Str → Option Value} {base : Heap} (T : Env K mg) {d L : Nat} (hL : 60 ≤ L) (r__law_short : Fc P w K mg base L (He.ga K "_law_short") [] (sp__law_short K d)) : ∃ fd, FunD K "_law_short" "_law_short" (defArgs s__law_short) (defBody s__law_short) (defScope s__law_short) [] [] (He.ga K "_law_short") fd ∧ Fb P w K mg base (L + 2) (He.ga K "_law_short") fd ["_law_pot_here", "_law_at", "_law_room", "_law_deep", "_law_left"] (sp__law_short K (d + 1)) := by
  obtain ⟨fd, F⟩ := T.f__law_short
  refine ⟨fd, F, fb_of F sc__law_short (fun vs H Q E h => ?_) (fun cdv A outer s H vs Q E hr h => ?_)⟩
  · obtain ⟨p, l, at_, room, deep, k, rfl, _⟩ := h
    rfl
  · obtain ⟨p, l, at_, room, deep, k, rfl, hp, hl, lp, r1, r2, d8, dd, k1, q⟩ := h
    refine ⟨_, (pss_cons (ps_asg (pe_op op_sub (pe_ix ix_list (pv 4) pe_int (fun _ _ => rfl)) pe_int) (pg_sub (pv 4) pe_int set_list))
      (Evl.pss_cut (ps_if (PW.pt (pw_or (pt_cmpR op_eq (c_call (ok__law_draw T) (hr.mono (by omega)) T.g__law_draw T.k__law_draw takes0 (pa_cons (pv 0) (pa_cons pe_int pa_nil))) pe_int (nomark _)) (pw_or (pt_cmpR op_lt (pv 2) pe_int (nomark _)) (pw_or (pt_cmpR op_eq (pv 3) pe_int (nomark _)) (pw_or1 (pt_cmpR op_lt (pe_ix ix_list (pv 4) pe_int (fun _ _ => rfl)) pe_int (nomark _)))))))
      (pss_one (ps_ret (pe_tup (pa_cons pe_str (pa_cons (pv 1) pa_nil)))))
      pss_nil)
      (pss_cons (ps_set (i := 5) sc__law_short.nd rfl (Or.inl rfl) (c_call (ok__law_row T hL r__law_short) (hr.mono (by omega)) T.g__law_row T.k__law_row takes0 (pa_cons (pv 0) (pa_cons (pv 1) (pa_cons (pe_op op_fdiv (pv 2) pe_int) (pa_cons (pe_op op_sub (pv 3) pe_int) (pa_cons (pv 4) pa_nil)))))))
      (pss_cons (ps_set (i := 6) sc__law_short.nd rfl (Or.inl rfl) (c_call (ok__law_row_moments T (Nat.le_add_right 40 _) (all__law_moments T 9)) (hr.mono (by omega)) T.g__law_row_moments T.k__law_row_moments takes0 (pa_cons (pv 5) pa_nil)))
      (pss_cons (ps_set (i := 7) sc__law_short.nd rfl (Or.inl rfl) (pe_ix ix_list (pe_lst (pa_cons pe_int (pa_cons pe_int (pa_cons pe_int (pa_cons (pv 2) pa_nil))))) (c_call (ok__law_draw T) (hr.mono (by omega)) T.g__law_draw T.k__law_draw takes0 (pa_cons (pv 0) (pa_cons pe_int pa_nil))) (fun _ _ => rfl)))
      (pss_cons (ps_set (i := 8) sc__law_short.nd rfl (Or.inl rfl) (pe_op op_add pe_int (c_call (ok__law_draw T) (hr.mono (by omega)) T.g__law_draw T.k__law_draw takes0 (pa_cons (pv 0) (pa_cons (pe_callB (call_min2 rfl) (by rfl) T.n_min (by decide +kernel) (pa_cons (pv 7) (pa_cons (pe_op op_sub (pe_op op_fdiv (pv 2) (pe_callB call_len (by rfl) T.n_len (by decide +kernel) (pa_cons (pv 6) pa_nil))) pe_int) pa_nil))) pa_nil)))))
      (pss_one (ps_ret (pe_tup (pa_cons pe_str (pa_cons (pv 5) (pa_cons (pv 8) (pa_cons (pe_op op_add (pe_op op_add (pe_op op_sub (pe_ix ix_list (pv 6) (pe_un un_neg pe_int) (fun _ _ => rfl)) (pe_ix ix_list (pv 6) pe_int (fun _ _ => rfl))) pe_int) (c_call (ok__law_gap T) (hr.mono (by omega)) T.g__law_gap T.k__law_gap takes0 (pa_cons (pv 0) pa_nil))) pa_nil))))))))))))), ?_⟩
    refine ⟨_, rfl, l, _, 0, _, rfl, rfl, sq_lst hl, rfl, _, _, rfl, rfl, _, rfl, l, _, 0, 0, rfl, rfl, hl, rfl, ?_⟩
    have P1 : ∀ o, PotL H (upd H l o) p l := fun o => (PotL.refl hp).put lp
    have gap1 : 1 ≤ GAP := by decide +kernel
    have fin : ∀ {H2 : Hp}, PotL H H2 p l → H2 l = some (.lst [.int (k - 1)]) → ∀ a, H2 a = none → Q (.ref a) (upd H2 a (.tup [.str "at", .int (at_ : Nat)])) := fun {H2} P2 hl2 a na => by
      have m1 : (Tr.at at_).moms = [at_] := by unfold Tr.moms; rfl
      refine q a (.at at_) (k - 1) _ (by unfold DtAt; exact upd_same) (by omega) (by unfold Tr.pcs; omega) (by unfold Tr.ok; trivial) (by unfold Tr.nest; exact Nat.zero_le _) (by rw [m1]; rfl) (by rw [m1]; exact r1) ?_ (ex_new na _ _ hl2) (P2.ex (ex_new na))
      rw [m1]
      show at_ + 1 ≤ at_ + 1 * ((2 * deep + 1) * GAP)
      have : 1 * 1 ≤ (2 * deep + 1) * GAP := Nat.mul_le_mul (by omega) gap1
      omega
    refine ⟨fun σ' H2 => PotL H H2 p l ∧ H2 l = some (.lst [.int (k - 1)]) ∧ 2 ≤ room ∧ 1 ≤ deep ∧ 2 ≤ k ∧ σ' = [some (.ref p), some (.int (at_ : Nat)), some (.int (room : Nat)), some (.int (deep : Nat)), some (.ref l), none, none, none, none], ?_, ?_⟩
    · refine ⟨_, rfl, p, 3, rfl, (P1 _).1, by decide, by decide, fun dv H2 d0 d1 P2 => ?_⟩
      have PL := (P1 _).on P2
      have hl2 : H2 l = some (.lst [.int (k - 1)]) := P2.2 _ _ lp upd_same
      refine ⟨rfl, _, rfl, ite2 (fun _ => ?_) (fun _ => ?_)⟩
      · exact ⟨_, rfl, by show 2 ≤ sizeLine; decide, fun a na => fin PL hl2 a na⟩
      refine ⟨_, rfl, _, _, rfl, rfl, _, rfl, ite2 (fun _ => ?_) (fun c1 => ?_)⟩
      · exact ⟨_, rfl, by show 2 ≤ sizeLine; decide, fun a na => fin PL hl2 a na⟩
      refine ⟨_, rfl, rfl, _, rfl, ite2 (fun _ => ?_) (fun c2 => ?_)⟩
      · exact ⟨_, rfl, by show 2 ≤ sizeLine; decide, fun a na => fin PL hl2 a na⟩
      refine ⟨_, rfl, l, _, 0, _, rfl, rfl, sq_lst hl2, rfl, _, _, rfl, rfl, _, rfl, ite2 (fun _ => ?_) (fun c3 => ?_)⟩
      · exact ⟨_, rfl, by show 2 ≤ sizeLine; decide, fun a na => fin PL hl2 a na⟩
      have g3 : ¬ k - 1 < 1 := fun z => c3 (decide_eq_true z)
      have g1 : ¬ ((room : Nat) : Int) < 2 := fun z => c1 (decide_eq_true z)
      have g2 : deep ≠ 0 := fun z => c2 (by rw [z]; rfl)
      exact ⟨PL, hl2, by omega, by omega, by omega, rfl⟩
    rintro σ' H2 ⟨P2, hl2, room2, deep1, k2', rfl⟩
    have ed : ((room : Nat) : Int) / 2 = ((room / 2 : Nat) : Int) := by omega
    have ed2 : ((deep : Nat) : Int) - 1 = ((deep - 1 : Nat) : Int) := by omega
    refine ⟨_, rfl, _, rfl, _, rfl, _, _, rfl, rfl, ⟨by decide, by decide⟩, _, rfl, _, _, rfl, rfl, _, rfl, p, l, at_, room / 2, deep - 1, k - 1, by rw [← ed, ← ed2], P2.1, hl2, lp, by omega, by omega, by omega, by omega, by omega, fun r as ts k2 H3 kz kp hr3 hD3 ts0 hok hne hri hhd hlen hlast hl3 P3 => ?_⟩
    have P23 := P2.trans P3
    have B1 : 1 ≤ (momsL ts).length := Nat.le_trans (List.length_pos_iff.mpr ts0) (len_moms hok)
    have nn := momsL_ne hok ts0
    refine ⟨_, rfl, r, as, ts, rfl, hr3, hD3, fun t ht => by have := hne t ht; omega, hok, by omega, fun w H4 X4 nw hw => ?_⟩
    have P4 := P23.ex X4
    have hl4 := X4 _ _ hl3
    have wp : w ≠ p := potL_ne P23 nw
    refine ⟨_, rfl, by show 4 ≤ sizeLine; decide, fun u nu => ?_⟩
    have P5 := P4.ex (ex_new (o := .lst [.int 2, .int 2, .int 2, .int (room : Nat)]) nu)
    have up : u ≠ p := potL_ne P4 nu
    refine ⟨_, rfl, p, 4, rfl, P5.1, by decide, by decide, fun dv H6 d0 d1 P6 => ?_⟩
    obtain ⟨x, hx, ex⟩ := at_mem (xs := [.int 2, .int 2, .int 2, .int (room : Nat)]) d0 (by show dv < 4; exact d1)
    obtain ⟨mo, rfl, mo2⟩ : ∃ mo : Nat, x = .int (mo : Nat) ∧ 2 ≤ mo := by
      simp only [List.mem_cons, List.not_mem_nil, or_false] at hx
      rcases hx with rfl | rfl | rfl | rfl
      · exact ⟨2, rfl, Nat.le_refl _⟩
      · exact ⟨2, rfl, Nat.le_refl _⟩
      · exact ⟨2, rfl, Nat.le_refl _⟩
      · exact ⟨room, rfl, room2⟩
    refine ⟨u, _, _, _, rfl, rfl, sq_lst (P6.2 _ _ up upd_same), ex, ?_⟩
    have hw6 := P6.2 _ _ wp (ex_new (o := .lst [.int 2, .int 2, .int 2, .int (room : Nat)]) nu _ _ hw)
    have PL6 := P5.on P6
    have hl6 := P6.2 _ _ lp (ex_new (o := .lst [.int 2, .int 2, .int 2, .int (room : Nat)]) nu _ _ hl4)
    have hr6 := tup_on P5.1 P6 _ _ (ex_new (o := .lst [.int 2, .int 2, .int 2, .int (room : Nat)]) nu _ _ (X4 _ _ hr3))
    have hD6 := ((hD3.mono X4).mono (ex_new (o := .lst [.int 2, .int 2, .int 2, .int (room : Nat)]) nu)).keep (tup_on P5.1 P6)
    have q2 : 2 ≤ room / (momsL ts).length := (Nat.le_div_iff_mul_le (by omega)).mpr (by omega)
    have q3 : room / (momsL ts).length * (momsL ts).length ≤ room := Nat.div_mul_le_self _ _
    have q4 : room / (momsL ts).length ≤ 1440 := Nat.le_trans (Nat.div_le_self _ _) r2
    have e7 : ((room : Nat) : Int) / (((momsL ts).length : Nat) : Int) = ((room / (momsL ts).length : Nat) : Int) := (Int.natCast_ediv _ _).symm
    have e8 : (if ((room : Nat) : Int) / (((momsL ts).length : Nat) : Int) - 1 < ((mo : Nat) : Int) then ((room : Nat) : Int) / (((momsL ts).length : Nat) : Int) - 1 else ((mo : Nat) : Int)) = ((min mo (room / (momsL ts).length - 1) : Nat) : Int) := by rw [e7]; split <;> omega
    refine ⟨_, rfl, _, rfl, _, rfl, _, rfl, _, (momsL ts).length, rfl, .inl ⟨_, sq_lst hw6, (natV_len _).symm⟩, _, _, rfl, rfl, ⟨by omega, by omega⟩, _, _, rfl, rfl, _, _, rfl, p, _, rfl, PL6.1, by rw [e8]; omega, by rw [e8]; omega, fun dw H7 w0 w1 P7 => ⟨_, _, rfl, rfl, ?_⟩⟩
    rw [e8] at w1
    obtain ⟨dm, rfl⟩ := Int.eq_ofNat_of_zero_le w0
    have hw7 := P7.2 _ _ wp hw6
    have PL7 := PL6.on P7
    have hr7 := tup_on PL6.1 P7 _ _ hr6
    have hD7 := hD6.keep (tup_on PL6.1 P7)
    refine ⟨_, rfl, _, rfl, _, rfl, _, rfl, w, _, _, _, rfl, rfl, sq_lst hw7, at_lastN nn, _, rfl, w, _, _, _, rfl, rfl, sq_lst hw7, at_headN nn, _, _, rfl, rfl, _, _, rfl, rfl, _, rfl, p, rfl, PL7.1, fun g H8 hg P8 => ⟨_, _, rfl, rfl, by show 4 ≤ sizeLine; decide, fun a na => ?_⟩⟩
    have PL8 := PL7.on P8
    have hl8 := P8.2 _ _ lp (P7.2 _ _ lp hl6)
    have hr8 := tup_on PL7.1 P8 _ _ hr7
    have hD8 := hD7.keep (tup_on PL7.1 P8)
    have srt := ris_sorted hok hri
    have hle := le_lastD srt _ (by
      cases hm : momsL ts with
      | nil => exact absurd hm nn
      | cons y ys => exact List.mem_cons_self : (momsL ts).headD 0 ∈ momsL ts)
    obtain ⟨m, hm⟩ : ∃ m : Nat, m = 2 + dm := ⟨_, rfl⟩
    obtain ⟨st, hst⟩ : ∃ st : Nat, st = (momsL ts).getLastD 0 - (momsL ts).headD 0 + 1 + g := ⟨_, rfl⟩
    have em : (2 : Int) + ((dm : Nat) : Int) = ((m : Nat) : Int) := by omega
    have est : (((momsL ts).getLastD 0 : Nat) : Int) - (((momsL ts).headD 0 : Nat) : Int) + 1 + ((g : Nat) : Int) = ((st : Nat) : Int) := by omega
    have X9 := ex_new (o := .tup [.str "over", .ref r, .int (m : Nat), .int (st : Nat)]) na
    have mle : m ≤ room / (momsL ts).length := by omega
    have mlen : m * (momsL ts).length ≤ room := Nat.le_trans (Nat.mul_le_mul_right _ mle) q3
    have okT : (Tr.ov ts m st).ok := by
      unfold Tr.ok
      exact ⟨ts0, by omega, by omega, by omega, by omega, srt, hok⟩
    have eMo : (Tr.ov ts m st).moms = overN (momsL ts) m st := by unfold Tr.moms; rfl
    have hDa : DtAt (upd H8 a (.tup [.str "over", .ref r, .int (m : Nat), .int (st : Nat)])) (.ov ts m st) a := by
      unfold DtAt
      exact ⟨r, as, upd_same, X9 _ _ hr8, hD8.mono X9⟩
    have res := q a (.ov ts m st) k2 _ hDa kz (by unfold Tr.pcs; omega) okT (by
      have := nestL_le hne
      unfold Tr.nest
      omega) (by rw [eMo, overN_head nn m (by omega)]; exact hhd) (by rw [eMo, overN_len]; exact mlen) (by
      rw [eMo, overN_len, overN_last nn (by omega)]
      obtain ⟨m', rfl⟩ : ∃ m', m = m' + 1 := ⟨m - 1, by omega⟩
      have e2 : (2 * (deep - 1) + 2) * GAP = 2 * deep * GAP := by rw [show 2 * (deep - 1) + 2 = 2 * deep by omega]
      rw [e2] at hlast
      have e3 : (2 * deep + 1) * GAP = 2 * deep * GAP + GAP := by rw [Nat.add_mul, Nat.one_mul]
      rw [e3]
      have gG : g < GAP := Nat.lt_trans hg (by decide +kernel)
      exact over_bound (m' := m') hlast (by omega) B1) (X9 _ _ hl8) (PL8.ex X9)
    rw [← em, ← est] at res
    exact res
theorem ok__law_short {P : Program} {w : World} {K : PySem.W.Frag} {mg : Str → Option Value} {base : Heap} (T : Env K mg) {d L : Nat} (hL : 60 ≤ L) (r__law_short : Fc P w K mg base L (He.ga K "_law_short") [] (sp__law_short K d)) : Fc P w K mg base (L + 2) (He.ga K "_law_short") [] (sp__law_short K (d + 1)) := by
  obtain ⟨fd, D, F⟩ := fb__law_short T hL r__law_short
  exact F.all (D.bindsN fun _ _ _ _ _ _ us hl => match us, hl with | [_, _, _, _, _], _ => rfl)
theorem all__law_short {P : Program} {w : World} {K : PySem.W.Frag} {mg : Str → Option Value} {base : Heap} (T : Env K mg) : ∀ d, Fc P w K mg base (60 + 2 * d) (He.ga K "_law_short") [] (sp__law_short K d)
  | 0 => fc_no fun vs H Q E h => by
    obtain ⟨p, l, at_, room, deep, k, _, _, _, _, _, _, _, h, _⟩ := h
    omega
  | d + 1 => ok__law_short T (Nat.le_add_right 60 _) (all__law_short T d)
end
section
def sp__law_made (K : PySem.W.Frag) (d : Nat) : Sp := fun vs H Q _ => ∃ (b : Addr) (t : Tr), vs = [.ref b] ∧ DtAt H t b ∧ t.nest + 1 ≤ d ∧ t.nest ≤ 8 ∧ t.ok ∧ ∀ a H', Ex H H' → H a = none → ShAt K H' t a → Q (.ref a) H'
theorem fb__law_made {P : Program} {w : World} {K : PySem.W.Frag} {mg : Str → Option Value} {base : Heap} (T : Env K mg) {d L : Nat} (hL : 70 ≤ L) (r__law_made : Fc P w K mg base L (He.ga K "_law_made") [] (sp__law_made K d)) : ∃ fd, FunD K "_law_made" "_law_made" (defArgs s__law_made) (defBody s__law_made) (defScope s__law_made) [] [] (He.ga K "_law_made") fd ∧ Fb P w K mg base (L + 1) (He.ga K "_law_made") fd ["_law_short_here"] (sp__law_made K (d + 1)) := by
  obtain ⟨fd, F⟩ := T.f__law_made
  refine ⟨fd, F, fb_of F sc__law_made (fun vs H Q E h => ?_) (fun cdv A outer s H vs Q E hr h => ?_)⟩
  · obtain ⟨b, t, rfl, _⟩ := h
    rfl
  · obtain ⟨b, t, rfl, hD, hn, h8, hok, q⟩ := h
    refine ⟨_, (pss_cons (ps_if (pt_cmpR op_eq (pe_ix ix_tup (pv 0) pe_int (fun _ _ => rfl)) pe_str (nomark _))
      (pss_one (ps_ret (c_make T.mk_At (ok_At_init T) (hr.mono (by omega)) T.g_At takes0 (pa_cons (pe_ix ix_tup (pv 0) pe_int (fun _ _ => rfl)) pa_nil))))
      pss_nil)
      (pss_one (ps_ret (c_make T.mk_Over (ok_Over_init T) (hr.mono (by omega)) T.g_Over takes0 (pa_cons (pe_lc (own := [("_law_part", 1)]) (by rfl) sc__law_made.nd (pi_tup (pe_ix ix_tup (pv 0) pe_int (fun _ _ => rfl))) (blkOk_by (own := [("_law_part", 1)]) (N := ["_law_short_here", "_law_part"]) (sc := defScope s__law_made) (by decide +kernel)) (fun _ _ _ _ _ => (pg_name (i := 1) sc__law_made.nd rfl (Or.inl rfl))) (fun _ _ _ _ _ => pts_nil) (fun _ _ _ _ _ => (c_call r__law_made (hr.mono (by omega)) T.g__law_made T.k__law_made takes0 (pa_cons (pv 1) pa_nil)))) (pa_cons (pe_ix ix_tup (pv 0) pe_int (fun _ _ => rfl)) (pa_cons (pe_ix ix_tup (pv 0) pe_int (fun _ _ => rfl)) pa_nil))))))), ?_⟩
    cases t with
    | «at» n =>
      unfold DtAt at hD
      refine ⟨_, rfl, b, _, 0, _, rfl, rfl, sq_tup hD, rfl, rfl, _, rfl, iteT ?_⟩
      exact ⟨_, rfl, b, _, 1, _, rfl, rfl, sq_tup hD, rfl, fun x dx nx nd ne => at_new nx nd ne fun H1 X1 R1 => ⟨rfl, q x H1 X1 nx (by unfold ShAt; exact R1)⟩⟩
    | ov ps m s_ =>
      unfold DtAt at hD
      obtain ⟨r, bs, hD, hr2, hB⟩ := hD
      obtain ⟨o1, m2, hm, hml, hl2, hpl, hokL⟩ := ov_facts hok
      have hl1 := hB.len
      refine ⟨_, rfl, b, _, 0, _, rfl, rfl, sq_tup hD, rfl, rfl, _, rfl, iteF ?_⟩
      refine ⟨_, rfl, b, _, 1, _, rfl, rfl, sq_tup hD, rfl, r, rfl, ⟨_, sq_tup hr2⟩, fun A nA => lc_any (L2.walk_tup (K := K) (a := r) (xs := bs.map V.ref)) (fun i acc G => Ex H G ∧ (G A = none ∨ ∃ xs, G A = some (.lst xs)) ∧ ∃ as, acc = as.map V.ref ∧ ShsAt K G (ps.take i) as) (fun i acc G z e => ?_) ⟨.refl _, .inl nA, [], rfl, by unfold ShsAt; rfl⟩ (by rw [List.length_map]; omega) (fun i acc G e => ?_) (fun i acc G e => sq_tup (e.1 _ _ hr2)) (fun i x G G' acc N hi e hA la y k _ => ?_) (fun acc G e hA => ?_)⟩
      · obtain ⟨e1, e2, as, e3, e4⟩ := e
        refine ⟨ex_mut e1 nA, .inr ⟨z, upd_same⟩, as, e3, e4.oth ((Oth.refl A G).upd) fun ob h => ?_⟩
        rcases e2 with h2 | ⟨xs, h2⟩
        · rw [h2] at h
          cases h
        · rw [h2] at h
          cases h
          exact ⟨xs, rfl⟩
      · obtain ⟨_, _, as, rfl, h1⟩ := e
        rw [List.length_map, h1.len, List.length_take]
        omega
      · obtain ⟨rfl, y⟩ := y
        obtain ⟨XG, _, as, rfl, h1⟩ := e
        rw [List.getElem?_map] at y
        obtain ⟨c, hc, rfl⟩ := Option.map_eq_some_iff.mp y
        obtain ⟨t, ht, hDt⟩ := hB.get hc
        have htm := List.mem_of_getElem? ht
        have nm := nestL_mem htm
        have hn' := hn
        have h8' := h8
        unfold Tr.nest at hn' h8'
        refine ⟨rfl, _, rfl, c, t, rfl, hDt.mono XG, by omega, by omega, okL_mem hokL htm, fun a2 G2 X2 na2 hS2 => ⟨_, X2 _ _ hA, la, ?_⟩⟩
        refine k _ G2 (X2 _ _ hA) ⟨XG.trans X2, .inr ⟨_, X2 _ _ hA⟩, as ++ [a2], by rw [List.map_append]; rfl, ?_⟩
        rw [take_snoc ht]
        exact (h1.mono X2).snoc hS2
      obtain ⟨XG, _, as, rfl, hSh⟩ := e
      rw [List.length_map, hl1, List.take_length] at hSh
      have hD2 := XG _ _ hD
      refine ⟨_, rfl, b, _, 2, _, rfl, rfl, sq_tup hD2, rfl, _, rfl, b, _, 3, _, rfl, rfl, sq_tup hD2, rfl, fun x dx nx nd ne => ⟨rfl, over_newT nx nd ne (.inl hA) hSh hok h8 fun H4 X4 hS => ⟨rfl, ?_⟩⟩⟩
      exact q x H4 (XG.trans X4) (ex_fresh XG nx) hS
theorem ok__law_made {P : Program} {w : World} {K : PySem.W.Frag} {mg : Str → Option Value} {base : Heap} (T : Env K mg) {d L : Nat} (hL : 70 ≤ L) (r__law_made : Fc P w K mg base L (He.ga K "_law_made") [] (sp__law_made K d)) : Fc P w K mg base (L + 1) (He.ga K "_law_made") [] (sp__law_made K (d + 1)) := by
  obtain ⟨fd, D, F⟩ := fb__law_made T hL r__law_made
  exact F.all (D.bindsN fun _ _ _ _ _ _ us hl => match us, hl with | [_], _ => rfl)
theorem all__law_made {P : Program} {w : World} {K : PySem.W.Frag} {mg : Str → Option Value} {base : Heap} (T : Env K mg) : ∀ d, Fc P w K mg base (70 + 1 * d) (He.ga K "_law_made") [] (sp__law_made K d)
  | 0 => fc_no fun vs H Q E h => by
    obtain ⟨r, t, _, _, h, _⟩ := h
    omega
  | d + 1 => (ok__law_made T (Nat.le_add_right 70 _) (all__law_made T d)).mono (by omega)
end
section
/-- what comes of it: told, or refused -/
def toldV : Bool → List V
  | true => [.str "told"]
  | false => [.bl true, .bl true, .bl false]
/-- things to be made, and whether they are -/
def WordOf (K : PySem.W.Frag) (H : Hp) (k : Int) (xs : List V) (b : Bool) : Prop :=
  (k = 0 ∧ ∃ x, xs = [x] ∧ Cl K H x ∧ b = isN 0 x) ∨
  (k = 1 ∧ ∃ p as ts xm xt, xs = [.ref p, xm, xt] ∧ SqA H p (as.map V.ref) ∧ ShsAt K H ts as ∧ nestL ts ≤ 8 ∧ okL_ ts ∧ ts.length ≤ 20000 ∧ Cl K H xm ∧ Cl K H xt ∧ b = ovB ts xm xt) ∨
  (k = 2 ∧ ∃ p as ts, xs = [.ref p] ∧ SqA H p (as.map V.ref) ∧ ShsAt K H ts as ∧ nestL ts ≤ 8 ∧ okL_ ts ∧ ts.length ≤ 20000 ∧ b = sprB ts) ∨
  (k = 1 ∧ ∃ x xm xt, xs = [x, xm, xt] ∧ NoParts K H x ∧ b = false) ∨
  (k = 2 ∧ ∃ x, xs = [x] ∧ NoParts K H x ∧ b = false)
def sp__law_word_of (K : PySem.W.Frag) : Sp := fun vs H Q _ => ∃ (k : Int) (a : Addr) (xs : List V) (b : Bool), vs = [.int k, .ref a] ∧ H a = some (.lst xs) ∧ WordOf K H k xs b ∧ ∀ p H', Ex H H' → H' p = some (.lst (toldV b)) → Q (.ref p) H'
theorem fb__law_word_of {P : Program} {w : World} {K : PySem.W.Frag} {mg : Str → Option Value} {base : Heap} (T : Env K mg) : ∃ fd, FunD K "_law_word_of" "_law_word_of" (defArgs s__law_word_of) (defBody s__law_word_of) (defScope s__law_word_of) [] [] (He.ga K "_law_word_of") fd ∧ Fb P w K mg base 77 (He.ga K "_law_word_of") fd ["_law_kind", "_law_things"] (sp__law_word_of K) := by
  obtain ⟨fd, F⟩ := T.f__law_word_of
  refine ⟨fd, F, fb_of F sc__law_word_of (fun vs H Q E h => ?_) (fun cdv A outer s H vs Q E hr h => ?_)⟩
  · obtain ⟨k, a, xs, b, rfl, _⟩ := h
    rfl
  · obtain ⟨k, a, xs, b, rfl, ha, hw, q⟩ := h
    refine ⟨_, (pss_cons (ps_set (i := 2) sc__law_word_of.nd rfl (Or.inl rfl) (pe_lst (pa_cons pe_str pa_nil)))
      (Evl.pss_cut (ps_try_fst (i := 3) rfl rfl sc__law_word_of.nd rfl rfl ⟨by rfl, by decide, .inl T.g_GoingError⟩ (fun W pn xe tk po => (pss_one (ps_if (pt_cmpR op_eq (pv 0) pe_int (nomark _))
      (pss_one (ps_expr (c_make T.mk_At (ok_At_init T) (hr.mono (by decide)) T.g_At tk (pa_cons (pe_ix (ix_listK K) (pv 1) pe_int (fun _ _ => rfl)) pa_nil))))
      (pss_one (ps_if (pt_cmpR op_eq (pv 0) pe_int (nomark _))
      (pss_one (ps_expr (c_make T.mk_Over (ok_Over_init T) (hr.mono (by decide)) T.g_Over tk (pa_cons (pe_ix (ix_listK K) (pv 1) pe_int (fun _ _ => rfl)) (pa_cons (pe_ix (ix_listK K) (pv 1) pe_int (fun _ _ => rfl)) (pa_cons (pe_ix (ix_listK K) (pv 1) pe_int (fun _ _ => rfl)) pa_nil))))))
      (pss_one (ps_if (pt_cmpR op_eq (pv 0) pe_int (nomark _))
      (pss_one (ps_expr (c_make T.mk_Spread (ok_Spread_init T) (hr.mono (by decide)) T.g_Spread tk (pa_cons (pe_ix (ix_listK K) (pv 1) pe_int (fun _ _ => rfl)) pa_nil))))
      (pss_one (ps_expr (c_call (fc_no (k := 1) (sp := fun _ _ _ _ => False) (fun _ _ _ _ z => z)) (hr.mono (by decide)) T.g_read_spread T.k_read_spread tk (pa_cons (pe_ix (ix_listK K) (pv 1) pe_int (fun _ _ => rfl)) pa_nil))))))))))) (fun a oe cls d pn hz hf => (pss_cons (ps_set (i := 2) sc__law_word_of.nd rfl (Or.inl rfl) (pe_lst (pa_cons (pe_callB (by exact call_isA hz hf) (by rfl) T.n_isinstance (by decide +kernel) (pa_cons (pv 3) (pa_cons (pe_glob (v := .ref _) (by rfl) T.g_NoPiece rfl) pa_nil))) (pa_cons (pe_callB (by exact call_isA hz hf) (by rfl) T.n_isinstance (by decide +kernel) (pa_cons (pv 3) (pa_cons (pe_bltn (v := .ty "ValueError") (by rfl) T.n_ValueError (by decide +kernel) rfl) pa_nil))) pa_nil))))
      (pss_one (ps_expr (pe_bmK K PySem.F.plainAttrs_list PySem.F.slot_list_append PySem.F.type_list_append mt_append (pv 2) (pa_cons (pe_callB (by exact call_isAT hz hf) (by rfl) T.n_isinstance (by decide +kernel) (pa_cons (pv 3) (pa_cons (pe_tup (pa_cons (pe_glob (v := .ref _) (by rfl) T.g_NoTime rfl) (pa_cons (pe_glob (v := .ref _) (by rfl) T.g_NoDays rfl) (pa_cons (pe_glob (v := .ref _) (by rfl) T.g_NoCard rfl) (pa_cons (pe_glob (v := .ref _) (by rfl) T.g_NoName rfl) (pa_cons (pe_glob (v := .ref _) (by rfl) T.g_NoRow rfl) (pa_cons (pe_glob (v := .ref _) (by rfl) T.g_NoText rfl) pa_nil))))))) pa_nil))) pa_nil)))))))
      (pss_one (ps_ret (pv 2))))), ?_⟩
    refine ⟨(by show 1 ≤ sizeLine; decide), fun t0 nt0 => ?_⟩
    have X1 := ex_new (o := .lst [.str "told"]) nt0
    have ht1 : upd H t0 (.lst [.str "told"]) t0 = some (.lst [.str "told"]) := upd_same
    have ha1 := X1 _ _ ha
    generalize upd H t0 (.lst [.str "told"]) = H1 at X1 ht1 ha1 ⊢
    refine ⟨fun σ' H' => ∃ p, σ' = [some (.int k), some (.ref a), some (.ref p), none] ∧ Ex H H' ∧ H' p = some (.lst (toldV b)), ?_, ?_⟩
    · unfold tTryFst
      generalize hW0 : wFst _ _ 3 _ _ = W0
      have hW : b = false → ∀ H2, Ex H H2 → W0 (.ref (He.ga K "NoPiece")) none [some (.int k), some (.ref a), some (.ref t0), none] H2 := by
        intro hb H2 X2
        rw [← hW0]
        refine ⟨T.exm_NoPiece_GoingError, fun e ne => ?_⟩
        refine ⟨_, rfl, _, _, _, true, rfl, rfl, T.xc_NoPiece, rfl, .own _, T.kit_NoPiece_NoPiece, ?_⟩
        refine ⟨_, rfl, _, _, _, true, rfl, rfl, T.xc_NoPiece, rfl, .ty "ValueError", T.kit_NoPiece_ValueError, ?_⟩
        refine ⟨by show 2 ≤ sizeLine; decide, fun l nl => ?_⟩
        have X3 := X2.trans (ex_new (o := .lst [.bl true, .bl true]) nl)
        have hl3 : upd H2 l (.lst [.bl true, .bl true]) l = some (.lst [.bl true, .bl true]) := upd_same
        have nl0 := ex_fresh X2 nl
        generalize upd H2 l (.lst [.bl true, .bl true]) = H3 at X3 hl3 ⊢
        refine ⟨_, rfl, .inl ⟨rfl, _, sq_lst hl3⟩, _, rfl, by show 6 ≤ sizeLine; decide, fun tp np => ?_⟩
        refine ⟨_, tp, _, _, false, rfl, rfl, T.xc_NoPiece, rfl, upd_same, .cons (.own _) (.cons (.own _) (.cons (.own _) (.cons (.own _) (.cons (.own _) (.cons (.own _) .nil))))), ?_, ?_⟩
        · exact kitAny_cons T.kit_NoPiece_NoTime (fun _ => kitAny_cons T.kit_NoPiece_NoDays (fun _ => kitAny_cons T.kit_NoPiece_NoCard (fun _ => kitAny_cons T.kit_NoPiece_NoName (fun _ => kitAny_cons T.kit_NoPiece_NoRow (fun _ => kitAny_cons T.kit_NoPiece_NoText (fun _ => kitAny_nil) (by decide)) (by decide)) (by decide)) (by decide)) (by decide)) (by decide)
        refine ⟨l, _, _, rfl, rfl, ex_new np _ _ hl3, by show 2 < sizeLine; decide, ?_⟩
        refine ⟨l, rfl, ?_, ?_⟩
        · exact ex_mut (X3.trans (ex_new np)) nl0
        · rw [hb]
          exact upd_same
      rcases hw with ⟨rfl, x, rfl, cx, rfl⟩ | ⟨rfl, p, as, ts, xm, xt, rfl, hp, hA, hn, hok, hl, cm, ct, rfl⟩ | ⟨rfl, p, as, ts, rfl, hp, hA, hn, hok, hl, rfl⟩ | ⟨rfl, x, xm, xt, rfl, hN, rfl⟩ | ⟨rfl, x, rfl, hN, rfl⟩
      · refine ⟨_, rfl, rfl, _, rfl, iteT ?_⟩
        refine ⟨_, rfl, _, _, _, _, rfl, rfl, sq_lst ha1, rfl, fun o dx no nd ne => ?_⟩
        have X2 := X1.trans (ex_made (o1 := .own o) (o2 := .ins (AtC K) dx []) no nd ne)
        refine ⟨o, dx, x, rfl, upd_same, cx.mono X2, fun hb => ⟨rfl, t0, rfl, ?_, ?_⟩, fun hb => hW hb _ X2⟩
        · exact ex_mut X2 (ex_fresh X1 no)
        · rw [hb, upd_ne (ne_of_none ht1 no)]
          exact ex_made no nd ne _ _ ht1
      · refine ⟨_, rfl, rfl, _, rfl, iteF ?_⟩
        refine ⟨_, rfl, rfl, _, rfl, iteT ?_⟩
        refine ⟨_, rfl, _, _, _, _, rfl, rfl, sq_lst ha1, rfl, _, rfl, _, _, _, _, rfl, rfl, sq_lst ha1, rfl, _, rfl, _, _, _, _, rfl, rfl, sq_lst ha1, rfl, fun o dx no nd ne => ⟨rfl, ?_⟩⟩
        have X2 := ex_made (o1 := .own o) (o2 := .ins (OverC K) dx []) no nd ne
        have hp1 : SqA H1 p (as.map V.ref) := hp.imp (fun h => X1 _ _ h) (fun h => X1 _ _ h)
        refine .inl ⟨o, dx, p, as, ts, xm, xt, H1, rfl, upd_same, no, X2, hp1, hA.mono X1, hn, hok, hl, hl, cm.mono X1, ct.mono X1, fun m s_ hb e1 e2 H' O S => ⟨rfl, t0, rfl, ?_, ?_⟩, fun hb H' O => hW hb _ (X1.trans (Oth.ex X2 no O))⟩
        · exact X1.trans (Oth.ex X2 no O)
        · rw [hb]
          exact Oth.ex X2 no O _ _ ht1
      · refine ⟨_, rfl, rfl, _, rfl, iteF ?_⟩
        refine ⟨_, rfl, rfl, _, rfl, iteF ?_⟩
        refine ⟨_, rfl, rfl, _, rfl, iteT ?_⟩
        refine ⟨_, rfl, _, _, _, _, rfl, rfl, sq_lst ha1, rfl, fun o dx no nd ne => ?_⟩
        have X2 := ex_made (o1 := .own o) (o2 := .ins (SpreadC K) dx []) no nd ne
        have hp1 : SqA H1 p (as.map V.ref) := hp.imp (fun h => X1 _ _ h) (fun h => X1 _ _ h)
        refine .inl ⟨o, dx, p, as, ts, H1, rfl, upd_same, no, X2, hp1, hA.mono X1, hn, hok, hl, hl, fun hb H' O S => ⟨rfl, t0, rfl, ?_, ?_⟩, fun hb H' O => hW hb _ (X1.trans (Oth.ex X2 no O))⟩
        · exact X1.trans (Oth.ex X2 no O)
        · rw [hb]
          exact Oth.ex X2 no O _ _ ht1
      · refine ⟨_, rfl, rfl, _, rfl, iteF ?_⟩
        refine ⟨_, rfl, rfl, _, rfl, iteT ?_⟩
        refine ⟨_, rfl, _, _, _, _, rfl, rfl, sq_lst ha1, rfl, _, rfl, _, _, _, _, rfl, rfl, sq_lst ha1, rfl, _, rfl, _, _, _, _, rfl, rfl, sq_lst ha1, rfl, fun o dx no nd ne => ⟨rfl, ?_⟩⟩
        have X2 := ex_made (o1 := .own o) (o2 := .ins (OverC K) dx []) no nd ne
        exact .inr ⟨o, dx, x, xm, xt, H1, rfl, no, X2, hN.mono X1, fun H' O => hW rfl _ (X1.trans (Oth.ex X2 no O))⟩
      · refine ⟨_, rfl, rfl, _, rfl, iteF ?_⟩
        refine ⟨_, rfl, rfl, _, rfl, iteF ?_⟩
        refine ⟨_, rfl, rfl, _, rfl, iteT ?_⟩
        refine ⟨_, rfl, _, _, _, _, rfl, rfl, sq_lst ha1, rfl, fun o dx no nd ne => ?_⟩
        have X2 := ex_made (o1 := .own o) (o2 := .ins (SpreadC K) dx []) no nd ne
        exact .inr ⟨o, dx, x, H1, rfl, no, X2, hN.mono X1, fun H' O => hW rfl _ (X1.trans (Oth.ex X2 no O))⟩
    · rintro σ' H' ⟨p, rfl, X, hp⟩
      exact ⟨_, rfl, q p H' X hp⟩
theorem ok__law_word_of {P : Program} {w : World} {K : PySem.W.Frag} {mg : Str → Option Value} {base : Heap} (T : Env K mg) : Fc P w K mg base 77 (He.ga K "_law_word_of") [] (sp__law_word_of K ) := by
  obtain ⟨fd, D, F⟩ := fb__law_word_of T
  exact F.all (D.bindsN fun _ _ _ _ _ _ us hl => match us, hl with | [_, _], _ => rfl)
end
section
def sp__law_is_refused (K : PySem.W.Frag) : Sp := fun vs H Q _ => ∃ (k : Int) (a : Addr) (xs : List V), vs = [.int k, .ref a] ∧ H a = some (.lst xs) ∧ WordOf K H k xs false ∧ ∀ H', Ex H H' → Q (.bl true) H'
theorem fb__law_is_refused {P : Program} {w : World} {K : PySem.W.Frag} {mg : Str → Option Value} {base : Heap} (T : Env K mg) : ∃ fd, FunD K "_law_is_refused" "_law_is_refused" (defArgs s__law_is_refused) (defBody s__law_is_refused) (defScope s__law_is_refused) [] [] (He.ga K "_law_is_refused") fd ∧ Fb P w K mg base 78 (He.ga K "_law_is_refused") fd ["_law_kind", "_law_things"] (sp__law_is_refused K) := by
  obtain ⟨fd, F⟩ := T.f__law_is_refused
  refine ⟨fd, F, fb_of F sc__law_is_refused (fun vs H Q E h => ?_) (fun cdv A outer s H vs Q E hr h => ?_)⟩
  · obtain ⟨k, a, xs, rfl, _⟩ := h
    rfl
  · obtain ⟨k, a, xs, rfl, ha, hw, q⟩ := h
    refine ⟨_, (pss_one (ps_ret (pe_cmpR (op_eqD hr.rm.units) (c_call (ok__law_word_of T) (hr.mono (by decide)) T.g__law_word_of T.k__law_word_of takes0 (pa_cons (pv 0) (pa_cons (pv 1) pa_nil))) (pe_lst (pa_cons pe_bl (pa_cons pe_bl (pa_cons pe_bl pa_nil)))) (nomark _)))), ?_⟩
    refine ⟨_, rfl, _, rfl, k, a, xs, false, rfl, ha, hw, fun p H1 X1 hp => ⟨by show 3 ≤ sizeLine; decide, fun l nl => ?_⟩⟩
    refine ⟨.list [.bool true, .bool true, .bool false], .list [.bool true, .bool true, .bool false], ?_, ?_, rfl, rfl, ?_⟩
    · exact .lst (sq_lst (ex_new nl _ _ hp)) (.cons (.bl _) (.cons (.bl _) (.cons (.bl _) .nil)))
    · exact .lst (sq_lst upd_same) (.cons (.bl _) (.cons (.bl _) (.cons (.bl _) .nil)))
    exact q _ (X1.trans (ex_new nl))
theorem ok__law_is_refused {P : Program} {w : World} {K : PySem.W.Frag} {mg : Str → Option Value} {base : Heap} (T : Env K mg) : Fc P w K mg base 78 (He.ga K "_law_is_refused") [] (sp__law_is_refused K ) := by
  obtain ⟨fd, D, F⟩ := fb__law_is_refused T
  exact F.all (D.bindsN fun _ _ _ _ _ _ us hl => match us, hl with | [_, _], _ => rfl)
end
section
/-- at r a list of these shorts -/
def RowAt (K : PySem.W.Frag) (H : Hp) (ts : List Tr) (r : Addr) : Prop := ∃ as, H r = some (.lst (as.map V.ref)) ∧ ShsAt K H ts as
/-- open rows, the last one first -/
def RowsAt (K : PySem.W.Frag) (H : Hp) : List (List Tr) → List Addr → Prop
  | [], rs => rs = []
  | ts :: st, rs => ∃ r q, rs = r :: q ∧ RowAt K H ts r ∧ RowsAt K H st q
theorem RowAt.mono {K : PySem.W.Frag} {H H' : Hp} {ts : List Tr} {r : Addr} (h : RowAt K H ts r) (e : Ex H H') : RowAt K H' ts r := let ⟨as, h1, h2⟩ := h; ⟨as, e _ _ h1, h2.mono e⟩
theorem RowsAt.mono {K : PySem.W.Frag} {H H' : Hp} (e : Ex H H') : ∀ {st : List (List Tr)} {rs : List Addr}, RowsAt K H st rs → RowsAt K H' st rs
  | [], rs, h => h
  | ts :: st, rs, h => by
    obtain ⟨r, q, h1, h2, h3⟩ := h
    exact ⟨r, q, h1, h2.mono e, RowsAt.mono e h3⟩
theorem RowsAt.oth {K : PySem.W.Frag} {H H' : Hp} {d : Addr} (o : Oth d H H') (hd : ∀ ob, H d = some ob → (∃ xs, ob = .lst xs)) : ∀ {st : List (List Tr)} {rs : List Addr}, d ∉ rs → RowsAt K H st rs → RowsAt K H' st rs
  | [], rs, _, h => h
  | ts :: st, rs, nd, h => by
    obtain ⟨r, q, rfl, ⟨as, h1, h2⟩, h3⟩ := h
    refine ⟨r, q, rfl, ⟨as, o _ _ (fun z => nd (by rw [z]; exact List.mem_cons_self)) h1, h2.oth o hd⟩, RowsAt.oth o hd (fun z => nd (List.mem_cons_of_mem _ z)) h3⟩
theorem RowsAt.len {K : PySem.W.Frag} {H : Hp} : ∀ {st : List (List Tr)} {rs : List Addr}, RowsAt K H st rs → rs.length = st.length
  | [], rs, h => by
    rw [show rs = [] from h]
    rfl
  | ts :: st, rs, h => by
    obtain ⟨r, q, rfl, _, h3⟩ := h
    rw [List.length_cons, List.length_cons, RowsAt.len h3]
theorem RowsAt.some {K : PySem.W.Frag} {H : Hp} {r : Addr} : ∀ {st : List (List Tr)} {rs : List Addr}, RowsAt K H st rs → r ∈ rs → ∃ xs, H r = some (.lst xs)
  | [], rs, h, hr => by
    rw [show rs = [] from h] at hr
    cases hr
  | ts :: st, rs, h, hr => by
    obtain ⟨r', q, rfl, ⟨as, h1, _⟩, h3⟩ := h
    rcases List.mem_cons.mp hr with rfl | hr
    · exact ⟨_, h1⟩
    · exact RowsAt.some h3 hr
end
section
theorem okL_one {t : Tr} (h : t.ok) : okL_ [t] := by
  unfold okL_
  exact ⟨h, by unfold okL_; trivial⟩
theorem nestL_one (t : Tr) : nestL [t] = t.nest := by simp [nestL]
theorem at_ok (n : Nat) : (Tr.at n).ok := by
  unfold Tr.ok
  trivial
theorem at_moms (n : Nat) : (Tr.at n).moms = [n] := by rw [Tr.moms]
theorem at_nest (n : Nat) : (Tr.at n).nest = 0 := by rw [Tr.nest]
theorem momsL_one (t : Tr) : momsL [t] = t.moms := by simp [momsL]
end
section
theorem shs_on {K : PySem.W.Frag} {H H' : Hp} {p : Addr} {as : List Addr} {ts : List Tr} (hp : Pot H p) (P : PotOn H H' p) (h : ShsAt K H ts as) : ShsAt K H' ts as := h.oth (d := p) (fun b o nb e => P.2 b o nb e) fun ob ho => by
  obtain ⟨x, y, e, _⟩ := hp
  rw [e] at ho
  cases ho
  exact ⟨_, rfl⟩
theorem shs_one {K : PySem.W.Frag} {H : Hp} {t : Tr} {a : Addr} (h : ShAt K H t a) : ShsAt K H [t] [a] := by
  unfold ShsAt
  exact ⟨a, [], rfl, h, by unfold ShsAt; rfl⟩
theorem shs_nil {K : PySem.W.Frag} {H : Hp} : ShsAt K H [] [] := by
  unfold ShsAt
  rfl
theorem ne_ref {a p : Addr} (h : a ≠ p) : V.ref a ≠ V.ref p := fun z => h (by injection z)
theorem stays_on {H H' : Hp} {p : Addr} {x : V} (P : PotOn H H' p) (ne : x ≠ .ref p) : Stays H H' x := fun a o e h => P.2 a o (fun z => ne (by rw [e, z])) h
end
section
/-- an instance is no number -/
theorem cl_ins {K : PySem.W.Frag} {H : Hp} {a C dx : Addr} {fs : List (Str × V)} (i : InsC K C) (c : Cls K C) (k1 : PySem.W.kitOne K (.ref C) (.type "int") = some false) (k2 : PySem.W.kitOne K (.ref C) (.type "bool") = some false) (e : H a = some (.ins C dx fs)) : Cl K H (.ref a) := ⟨_, false, false, ty_ins i c e, k1, k2, rfl⟩
def sp__law_odd (K : PySem.W.Frag) : Sp := fun vs H Q _ => ∃ p, vs = [.ref p] ∧ Pot H p ∧ ∀ (x : V) H', Cl K H' x → isN 0 x = false → PotOn H H' p → Q x H'
theorem fb__law_odd {P : Program} {w : World} {K : PySem.W.Frag} {mg : Str → Option Value} {base : Heap} (T : Env K mg) : ∃ fd, FunD K "_law_odd" "_law_odd" (defArgs s__law_odd) (defBody s__law_odd) (defScope s__law_odd) [] [] (He.ga K "_law_odd") fd ∧ Fb P w K mg base 66 (He.ga K "_law_odd") fd ["_law_pot_here"] (sp__law_odd K) := by
  obtain ⟨fd, F⟩ := T.f__law_odd
  refine ⟨fd, F, fb_of F sc__law_odd (fun vs H Q E h => ?_) (fun cdv A outer s H vs Q E hr h => ?_)⟩
  · obtain ⟨p, rfl, _⟩ := h
    rfl
  · obtain ⟨p, rfl, hp, q⟩ := h
    refine ⟨_, (pss_cons (ps_set (i := 1) sc__law_odd.nd rfl (Or.inl rfl) (pe_lst (pa_cons pe_non (pa_cons pe_bl (pa_cons pe_bl (pa_cons pe_str (pa_cons pe_str (pa_cons pe_str (pa_cons (pe_tup (pa_cons pe_int pa_nil)) (pa_cons (pe_lst (pa_cons pe_int pa_nil)) (pa_cons pe_dnewK (pa_cons (c_make T.mk_At (ok_At_init T) (hr.mono (by decide)) T.g_At takes0 (pa_cons pe_int pa_nil)) (pa_cons (c_make T.mk_Spread (ok_Spread_init T) (hr.mono (by decide)) T.g_Spread takes0 (pa_cons (pe_lst (pa_cons (c_make T.mk_At (ok_At_init T) (hr.mono (by decide)) T.g_At takes0 (pa_cons pe_int pa_nil)) pa_nil)) pa_nil)) (pa_cons (pe_un un_neg pe_int) (pa_cons (pe_op op_sub (pe_un un_neg pe_int) (c_call (ok__law_wide T) (hr.mono (by decide)) T.g__law_wide T.k__law_wide takes0 (pa_cons (pv 0) pa_nil))) pa_nil)))))))))))))))
      (pss_one (ps_ret (pe_ix ix_list (pv 1) (c_call (ok__law_draw T) (hr.mono (by decide)) T.g__law_draw T.k__law_draw takes0 (pa_cons (pv 0) (pa_cons (pe_callB call_len (by rfl) T.n_len (by decide +kernel) (pa_cons (pv 1) pa_nil)) pa_nil))) (fun _ _ => rfl))))), ?_⟩
    have P0 := PotOn.refl hp
    refine ⟨by show 1 ≤ sizeLine; decide, fun a1 n1 => ?_⟩
    have Y1 := ex_new (o := .tup [.int 1]) n1
    have h1 : upd H a1 (.tup [.int 1]) a1 = some (.tup [.int 1]) := upd_same
    have z1 := pot_ne P0 n1
    have P1 := P0.ex2 Y1
    generalize upd H a1 (.tup [.int 1]) = G1 at Y1 h1 P1  ⊢
    refine ⟨by show 1 ≤ sizeLine; decide, fun a2 n2 => ?_⟩
    have Y2 := ex_new (o := .lst [.int 3]) n2
    have h2 : upd G1 a2 (.lst [.int 3]) a2 = some (.lst [.int 3]) := upd_same
    have z2 := pot_ne P1 n2
    have P2 := P1.ex2 Y2
    have h1 := Y2 _ _ h1
    generalize upd G1 a2 (.lst [.int 3]) = G2 at Y2 h2 P2 h1 ⊢
    refine fun a3 n3 => ?_
    have Y3 := ex_new (o := .dK []) n3
    have h3 : upd G2 a3 (.dK []) a3 = some (.dK []) := upd_same
    have z3 := pot_ne P2 n3
    have P3 := P2.ex2 Y3
    have h1 := Y3 _ _ h1
    have h2 := Y3 _ _ h2
    generalize upd G2 a3 (.dK []) = G3 at Y3 h3 P3 h1 h2 ⊢
    refine fun a4 d4 nx4 nd4 ne4 => at_new (n := 5) nx4 nd4 ne4 fun G4 Y4 A4 => ⟨rfl, ?_⟩
    have z4 := pot_ne P3 nx4
    have P4 := P3.ex2 Y4
    have h1 := Y4 _ _ h1
    have h2 := Y4 _ _ h2
    have h3 := Y4 _ _ h3
    obtain ⟨dx4, h4⟩ := A4
    refine fun a5 d5 nx5 nd5 ne5 => at_new (n := 2) nx5 nd5 ne5 fun G5 Y5 A5 => ⟨rfl, ?_⟩
    have z5 := pot_ne P4 nx5
    have P5 := P4.ex2 Y5
    have h1 := Y5 _ _ h1
    have h2 := Y5 _ _ h2
    have h3 := Y5 _ _ h3
    have h4 := Y5 _ _ h4
    obtain ⟨dx5, h5⟩ := A5
    refine ⟨by show 1 ≤ sizeLine; decide, fun a6 n6 => ?_⟩
    have Y6 := ex_new (o := .lst [.ref a5]) n6
    have h6 : upd G5 a6 (.lst [.ref a5]) a6 = some (.lst [.ref a5]) := upd_same
    have z6 := pot_ne P5 n6
    have P6 := P5.ex2 Y6
    have h1 := Y6 _ _ h1
    have h2 := Y6 _ _ h2
    have h3 := Y6 _ _ h3
    have h4 := Y6 _ _ h4
    have h5 := Y6 _ _ h5
    generalize upd G5 a6 (.lst [.ref a5]) = G6 at Y6 h6 P6 h1 h2 h3 h4 h5 ⊢
    refine fun a7 d7 nx7 nd7 ne7 => spread_new (as := [a5]) (ts := [.at 2]) nx7 nd7 ne7 (.inl h6) (shs_one (by unfold ShAt; exact ⟨_, h5⟩)) (by simp [nestL, Tr.nest]) (by simp [okL_, Tr.ok]) (by simp [sprB, risB, momsL, Tr.moms]) fun G7 Y7 A7 => ⟨rfl, ?_⟩
    have z7 := pot_ne P6 nx7
    have P7 := P6.ex2 Y7
    have h1 := Y7 _ _ h1
    have h2 := Y7 _ _ h2
    have h3 := Y7 _ _ h3
    have h4 := Y7 _ _ h4
    have h5 := Y7 _ _ h5
    have h6 := Y7 _ _ h6
    obtain ⟨dx7, kp7, hd7, as7, h7, _⟩ := A7
    refine ⟨_, rfl, _, rfl, _, rfl, p, rfl, P7.1, fun w8 W8 hw8 Q8 => ?_⟩
    have h1 := Q8.2 _ _ z1 h1
    have h2 := Q8.2 _ _ z2 h2
    have h3 := Q8.2 _ _ z3 h3
    have h4 := Q8.2 _ _ z4 h4
    have h5 := Q8.2 _ _ z5 h5
    have h6 := Q8.2 _ _ z6 h6
    have h7 := Q8.2 _ _ z7 h7
    have PP8 := P7.trans Q8
    refine ⟨_, _, rfl, rfl, by show 13 ≤ sizeLine; decide, fun L nL => ?_⟩
    have YL := ex_new (o := .lst [.non, .bl true, .bl false, .str "5", .str "", .str "7:00", .ref a1, .ref a2, .ref a3, .ref a4, .ref a7, .int (-1), .int (-1 - ((w8 : Nat) : Int))]) nL
    have hL : upd W8 L (.lst [.non, .bl true, .bl false, .str "5", .str "", .str "7:00", .ref a1, .ref a2, .ref a3, .ref a4, .ref a7, .int (-1), .int (-1 - ((w8 : Nat) : Int))]) L = some (.lst [.non, .bl true, .bl false, .str "5", .str "", .str "7:00", .ref a1, .ref a2, .ref a3, .ref a4, .ref a7, .int (-1), .int (-1 - ((w8 : Nat) : Int))]) := upd_same
    have zL := pot_ne PP8 nL
    have PL := PP8.ex2 YL
    have h1 := YL _ _ h1
    have h2 := YL _ _ h2
    have h3 := YL _ _ h3
    have h4 := YL _ _ h4
    have h5 := YL _ _ h5
    have h6 := YL _ _ h6
    have h7 := YL _ _ h7
    generalize upd W8 L (.lst [.non, .bl true, .bl false, .str "5", .str "", .str "7:00", .ref a1, .ref a2, .ref a3, .ref a4, .ref a7, .int (-1), .int (-1 - ((w8 : Nat) : Int))]) = GL at YL hL PL h1 h2 h3 h4 h5 h6 h7 ⊢
    refine ⟨_, rfl, _, rfl, _, rfl, _, _, rfl, .inl ⟨_, sq_lst hL, rfl⟩, p, _, rfl, PL.1, by show (0 : Int) < 13; decide, by show (13 : Nat) < 10 ^ 200; decide +kernel, fun d HD d0 d1 PD => ?_⟩
    obtain ⟨x, hx, ex⟩ := at_mem (xs := [.non, .bl true, .bl false, .str "5", .str "", .str "7:00", .ref a1, .ref a2, .ref a3, .ref a4, .ref a7, .int (-1), .int (-1 - ((w8 : Nat) : Int))]) d0 (by show d < 13; exact d1)
    have h1 := PD.2 _ _ z1 h1
    have h2 := PD.2 _ _ z2 h2
    have h3 := PD.2 _ _ z3 h3
    have h4 := PD.2 _ _ z4 h4
    have h5 := PD.2 _ _ z5 h5
    have h6 := PD.2 _ _ z6 h6
    have h7 := PD.2 _ _ z7 h7
    have PQ := PL.trans PD
    refine ⟨L, _, _, x, rfl, rfl, sq_lst (PD.2 _ _ zL hL), ex, ?_⟩
    clear ex hL
    simp only [List.mem_cons, List.not_mem_nil, or_false] at hx
    rcases hx with rfl | rfl | rfl | rfl | rfl | rfl | rfl | rfl | rfl | rfl | rfl | rfl | rfl
    · exact q _ _ (cl_non) rfl PQ
    · exact q _ _ (cl_bl _) rfl PQ
    · exact q _ _ (cl_bl _) rfl PQ
    · exact q _ _ (cl_str _) rfl PQ
    · exact q _ _ (cl_str _) rfl PQ
    · exact q _ _ (cl_str _) rfl PQ
    · exact q _ _ (cl_tup h1) rfl PQ
    · exact q _ _ (cl_lst h2) rfl PQ
    · exact q _ _ (cl_dK h3) rfl PQ
    · exact q _ _ (cl_ins T.i_At T.c_At T.kit_At_int T.kit_At_bool h4) rfl PQ
    · exact q _ _ (cl_ins T.i_Spread T.c_Spread T.kit_Spread_int T.kit_Spread_bool h7) rfl PQ
    · exact q _ _ (cl_int _) rfl PQ
    · exact q _ _ (cl_int _) (by show (true && decide ((0 : Int) ≤ -1 - ((w8 : Nat) : Int))) = false; rw [decide_eq_false (by omega)]; rfl) PQ
theorem ok__law_odd {P : Program} {w : World} {K : PySem.W.Frag} {mg : Str → Option Value} {base : Heap} (T : Env K mg) : Fc P w K mg base 66 (He.ga K "_law_odd") [] (sp__law_odd K ) := by
  obtain ⟨fd, D, F⟩ := fb__law_odd T
  exact F.all (D.bindsN fun _ _ _ _ _ _ us hl => match us, hl with | [_], _ => rfl)
end
section
def sp__law_no_part (K : PySem.W.Frag) : Sp := fun vs H Q _ => ∃ p, vs = [.ref p] ∧ Pot H p ∧ ∀ (x : V) H', (∃ t, TyX K H' x t ∧ PySem.W.kitOne K t (.ref (He.ga K "Short")) = some false) → x ≠ .ref p → selfV x = true → PotOn H H' p → Q x H'
theorem fb__law_no_part {P : Program} {w : World} {K : PySem.W.Frag} {mg : Str → Option Value} {base : Heap} (T : Env K mg) : ∃ fd, FunD K "_law_no_part" "_law_no_part" (defArgs s__law_no_part) (defBody s__law_no_part) (defScope s__law_no_part) [] [] (He.ga K "_law_no_part") fd ∧ Fb P w K mg base 66 (He.ga K "_law_no_part") fd ["_law_pot_here"] (sp__law_no_part K) := by
  obtain ⟨fd, F⟩ := T.f__law_no_part
  refine ⟨fd, F, fb_of F sc__law_no_part (fun vs H Q E h => ?_) (fun cdv A outer s H vs Q E hr h => ?_)⟩
  · obtain ⟨p, rfl, _⟩ := h
    rfl
  · obtain ⟨p, rfl, hp, q⟩ := h
    refine ⟨_, (pss_cons (ps_set (i := 1) sc__law_no_part.nd rfl (Or.inl rfl) (pe_lst (pa_cons pe_non (pa_cons pe_int (pa_cons pe_int (pa_cons pe_bl (pa_cons pe_str (pa_cons pe_str (pa_cons (c_make T.mk_Spread (ok_Spread_init T) (hr.mono (by decide)) T.g_Spread takes0 (pa_cons (pe_lst (pa_cons (c_make T.mk_At (ok_At_init T) (hr.mono (by decide)) T.g_At takes0 (pa_cons pe_int pa_nil)) pa_nil)) pa_nil)) (pa_cons (c_make T.mk_Spread (ok_Spread_init T) (hr.mono (by decide)) T.g_Spread takes0 (pa_cons (pe_lst pa_nil) pa_nil)) (pa_cons (pe_lst (pa_cons (c_make T.mk_At (ok_At_init T) (hr.mono (by decide)) T.g_At takes0 (pa_cons pe_int pa_nil)) pa_nil)) (pa_cons (pe_tup (pa_cons (c_make T.mk_At (ok_At_init T) (hr.mono (by decide)) T.g_At takes0 (pa_cons pe_int pa_nil)) pa_nil)) (pa_cons pe_dnewK (pa_cons (pe_op op_sub (pe_un un_neg pe_int) (c_call (ok__law_wide T) (hr.mono (by decide)) T.g__law_wide T.k__law_wide takes0 (pa_cons (pv 0) pa_nil))) pa_nil))))))))))))))
      (pss_one (ps_ret (pe_ix ix_list (pv 1) (c_call (ok__law_draw T) (hr.mono (by decide)) T.g__law_draw T.k__law_draw takes0 (pa_cons (pv 0) (pa_cons (pe_callB call_len (by rfl) T.n_len (by decide +kernel) (pa_cons (pv 1) pa_nil)) pa_nil))) (fun _ _ => rfl))))), ?_⟩
    have P0 := PotOn.refl hp
    refine fun a1 d1 nx1 nd1 ne1 => at_new (n := 2) nx1 nd1 ne1 fun G1 Y1 A1 => ⟨rfl, ?_⟩
    have z1 := pot_ne P0 nx1
    have P1 := P0.ex2 Y1
    obtain ⟨dx1, h1⟩ := A1
    refine ⟨by show 1 ≤ sizeLine; decide, fun a2 n2 => ?_⟩
    have Y2 := ex_new (o := .lst [.ref a1]) n2
    have h2 : upd G1 a2 (.lst [.ref a1]) a2 = some (.lst [.ref a1]) := upd_same
    have z2 := pot_ne P1 n2
    have P2 := P1.ex2 Y2
    have h1 := Y2 _ _ h1
    generalize upd G1 a2 (.lst [.ref a1]) = G2 at Y2 h2 P2 h1 ⊢
    refine fun a3 d3 nx3 nd3 ne3 => spread_new (as := [a1]) (ts := [.at 2]) nx3 nd3 ne3 (.inl h2) (shs_one (by unfold ShAt; exact ⟨_, h1⟩)) (by simp [nestL, Tr.nest]) (by simp [okL_, Tr.ok]) (by simp [sprB, risB, momsL, Tr.moms]) fun G3 Y3 A3 => ⟨rfl, ?_⟩
    have z3 := pot_ne P2 nx3
    have P3 := P2.ex2 Y3
    have h1 := Y3 _ _ h1
    have h2 := Y3 _ _ h2
    obtain ⟨dx3, kp3, hd3, as3, h3, _⟩ := A3
    refine ⟨by show 0 ≤ sizeLine; decide, fun a4 n4 => ?_⟩
    have Y4 := ex_new (o := .lst []) n4
    have h4 : upd G3 a4 (.lst []) a4 = some (.lst []) := upd_same
    have z4 := pot_ne P3 n4
    have P4 := P3.ex2 Y4
    have h1 := Y4 _ _ h1
    have h2 := Y4 _ _ h2
    have h3 := Y4 _ _ h3
    generalize upd G3 a4 (.lst []) = G4 at Y4 h4 P4 h1 h2 h3 ⊢
    refine fun a5 d5 nx5 nd5 ne5 => spread_new (as := []) (ts := []) nx5 nd5 ne5 (.inl h4) (shs_nil) (by simp [nestL, Tr.nest]) (by simp [okL_, Tr.ok]) (by simp [sprB, risB, momsL, Tr.moms]) fun G5 Y5 A5 => ⟨rfl, ?_⟩
    have z5 := pot_ne P4 nx5
    have P5 := P4.ex2 Y5
    have h1 := Y5 _ _ h1
    have h2 := Y5 _ _ h2
    have h3 := Y5 _ _ h3
    have h4 := Y5 _ _ h4
    obtain ⟨dx5, kp5, hd5, as5, h5, _⟩ := A5
    refine fun a6 d6 nx6 nd6 ne6 => at_new (n := 1) nx6 nd6 ne6 fun G6 Y6 A6 => ⟨rfl, ?_⟩
    have z6 := pot_ne P5 nx6
    have P6 := P5.ex2 Y6
    have h1 := Y6 _ _ h1
    have h2 := Y6 _ _ h2
    have h3 := Y6 _ _ h3
    have h4 := Y6 _ _ h4
    have h5 := Y6 _ _ h5
    obtain ⟨dx6, h6⟩ := A6
    refine ⟨by show 1 ≤ sizeLine; decide, fun a7 n7 => ?_⟩
    have Y7 := ex_new (o := .lst [.ref a6]) n7
    have h7 : upd G6 a7 (.lst [.ref a6]) a7 = some (.lst [.ref a6]) := upd_same
    have z7 := pot_ne P6 n7
    have P7 := P6.ex2 Y7
    have h1 := Y7 _ _ h1
    have h2 := Y7 _ _ h2
    have h3 := Y7 _ _ h3
    have h4 := Y7 _ _ h4
    have h5 := Y7 _ _ h5
    have h6 := Y7 _ _ h6
    generalize upd G6 a7 (.lst [.ref a6]) = G7 at Y7 h7 P7 h1 h2 h3 h4 h5 h6 ⊢
    refine fun a8 d8 nx8 nd8 ne8 => at_new (n := 1) nx8 nd8 ne8 fun G8 Y8 A8 => ⟨rfl, ?_⟩
    have z8 := pot_ne P7 nx8
    have P8 := P7.ex2 Y8
    have h1 := Y8 _ _ h1
    have h2 := Y8 _ _ h2
    have h3 := Y8 _ _ h3
    have h4 := Y8 _ _ h4
    have h5 := Y8 _ _ h5
    have h6 := Y8 _ _ h6
    have h7 := Y8 _ _ h7
    obtain ⟨dx8, h8⟩ := A8
    refine ⟨by show 1 ≤ sizeLine; decide, fun a9 n9 => ?_⟩
    have Y9 := ex_new (o := .tup [.ref a8]) n9
    have h9 : upd G8 a9 (.tup [.ref a8]) a9 = some (.tup [.ref a8]) := upd_same
    have z9 := pot_ne P8 n9
    have P9 := P8.ex2 Y9
    have h1 := Y9 _ _ h1
    have h2 := Y9 _ _ h2
    have h3 := Y9 _ _ h3
    have h4 := Y9 _ _ h4
    have h5 := Y9 _ _ h5
    have h6 := Y9 _ _ h6
    have h7 := Y9 _ _ h7
    have h8 := Y9 _ _ h8
    generalize upd G8 a9 (.tup [.ref a8]) = G9 at Y9 h9 P9 h1 h2 h3 h4 h5 h6 h7 h8 ⊢
    refine fun a10 n10 => ?_
    have Y10 := ex_new (o := .dK []) n10
    have h10 : upd G9 a10 (.dK []) a10 = some (.dK []) := upd_same
    have z10 := pot_ne P9 n10
    have P10 := P9.ex2 Y10
    have h1 := Y10 _ _ h1
    have h2 := Y10 _ _ h2
    have h3 := Y10 _ _ h3
    have h4 := Y10 _ _ h4
    have h5 := Y10 _ _ h5
    have h6 := Y10 _ _ h6
    have h7 := Y10 _ _ h7
    have h8 := Y10 _ _ h8
    have h9 := Y10 _ _ h9
    generalize upd G9 a10 (.dK []) = G10 at Y10 h10 P10 h1 h2 h3 h4 h5 h6 h7 h8 h9 ⊢
    refine ⟨_, rfl, _, rfl, p, rfl, P10.1, fun w11 W11 hw11 Q11 => ?_⟩
    have h1 := Q11.2 _ _ z1 h1
    have h2 := Q11.2 _ _ z2 h2
    have h3 := Q11.2 _ _ z3 h3
    have h4 := Q11.2 _ _ z4 h4
    have h5 := Q11.2 _ _ z5 h5
    have h6 := Q11.2 _ _ z6 h6
    have h7 := Q11.2 _ _ z7 h7
    have h8 := Q11.2 _ _ z8 h8
    have h9 := Q11.2 _ _ z9 h9
    have h10 := Q11.2 _ _ z10 h10
    have PP11 := P10.trans Q11
    refine ⟨_, _, rfl, rfl, by show 12 ≤ sizeLine; decide, fun L nL => ?_⟩
    have YL := ex_new (o := .lst [.non, .int 7, .int 0, .bl true, .str "7:00", .str "", .ref a3, .ref a5, .ref a7, .ref a9, .ref a10, .int (-1 - ((w11 : Nat) : Int))]) nL
    have hL : upd W11 L (.lst [.non, .int 7, .int 0, .bl true, .str "7:00", .str "", .ref a3, .ref a5, .ref a7, .ref a9, .ref a10, .int (-1 - ((w11 : Nat) : Int))]) L = some (.lst [.non, .int 7, .int 0, .bl true, .str "7:00", .str "", .ref a3, .ref a5, .ref a7, .ref a9, .ref a10, .int (-1 - ((w11 : Nat) : Int))]) := upd_same
    have zL := pot_ne PP11 nL
    have PL := PP11.ex2 YL
    have h1 := YL _ _ h1
    have h2 := YL _ _ h2
    have h3 := YL _ _ h3
    have h4 := YL _ _ h4
    have h5 := YL _ _ h5
    have h6 := YL _ _ h6
    have h7 := YL _ _ h7
    have h8 := YL _ _ h8
    have h9 := YL _ _ h9
    have h10 := YL _ _ h10
    generalize upd W11 L (.lst [.non, .int 7, .int 0, .bl true, .str "7:00", .str "", .ref a3, .ref a5, .ref a7, .ref a9, .ref a10, .int (-1 - ((w11 : Nat) : Int))]) = GL at YL hL PL h1 h2 h3 h4 h5 h6 h7 h8 h9 h10 ⊢
    refine ⟨_, rfl, _, rfl, _, rfl, _, _, rfl, .inl ⟨_, sq_lst hL, rfl⟩, p, _, rfl, PL.1, by show (0 : Int) < 12; decide, by show (12 : Nat) < 10 ^ 200; decide +kernel, fun d HD d0 d1 PD => ?_⟩
    obtain ⟨x, hx, ex⟩ := at_mem (xs := [.non, .int 7, .int 0, .bl true, .str "7:00", .str "", .ref a3, .ref a5, .ref a7, .ref a9, .ref a10, .int (-1 - ((w11 : Nat) : Int))]) d0 (by show d < 12; exact d1)
    have h1 := PD.2 _ _ z1 h1
    have h2 := PD.2 _ _ z2 h2
    have h3 := PD.2 _ _ z3 h3
    have h4 := PD.2 _ _ z4 h4
    have h5 := PD.2 _ _ z5 h5
    have h6 := PD.2 _ _ z6 h6
    have h7 := PD.2 _ _ z7 h7
    have h8 := PD.2 _ _ z8 h8
    have h9 := PD.2 _ _ z9 h9
    have h10 := PD.2 _ _ z10 h10
    have PQ := PL.trans PD
    refine ⟨L, _, _, x, rfl, rfl, sq_lst (PD.2 _ _ zL hL), ex, ?_⟩
    clear ex hL
    simp only [List.mem_cons, List.not_mem_nil, or_false] at hx
    rcases hx with rfl | rfl | rfl | rfl | rfl | rfl | rfl | rfl | rfl | rfl | rfl | rfl
    · exact q _ _ ⟨_, .base .non, T.kit_NoneType_Short⟩ (fun z => nomatch z) rfl PQ
    · exact q _ _ ⟨_, .base (.int _), T.kit_int_Short⟩ (fun z => nomatch z) rfl PQ
    · exact q _ _ ⟨_, .base (.int _), T.kit_int_Short⟩ (fun z => nomatch z) rfl PQ
    · exact q _ _ ⟨_, .base (.bl _), T.kit_bool_Short⟩ (fun z => nomatch z) rfl PQ
    · exact q _ _ ⟨_, .base (.str _), T.kit_str_Short⟩ (fun z => nomatch z) rfl PQ
    · exact q _ _ ⟨_, .base (.str _), T.kit_str_Short⟩ (fun z => nomatch z) rfl PQ
    · exact q _ _ ⟨_, ty_ins T.i_Spread T.c_Spread h3, T.kit_Spread_Short⟩ (ne_ref z3) rfl PQ
    · exact q _ _ ⟨_, ty_ins T.i_Spread T.c_Spread h5, T.kit_Spread_Short⟩ (ne_ref z5) rfl PQ
    · exact q _ _ ⟨_, .base (.lst h7), T.kit_list_Short⟩ (ne_ref z7) rfl PQ
    · exact q _ _ ⟨_, .base (.tup h9), T.kit_tuple_Short⟩ (ne_ref z9) rfl PQ
    · exact q _ _ ⟨_, .base (.dK h10), T.kit_dict_Short⟩ (ne_ref z10) rfl PQ
    · exact q _ _ ⟨_, .base (.int _), T.kit_int_Short⟩ (fun z => nomatch z) rfl PQ
theorem ok__law_no_part {P : Program} {w : World} {K : PySem.W.Frag} {mg : Str → Option Value} {base : Heap} (T : Env K mg) : Fc P w K mg base 66 (He.ga K "_law_no_part") [] (sp__law_no_part K ) := by
  obtain ⟨fd, D, F⟩ := fb__law_no_part T
  exact F.all (D.bindsN fun _ _ _ _ _ _ us hl => match us, hl with | [_], _ => rfl)
end
section
def sp__law_no_list (K : PySem.W.Frag) : Sp := fun vs H Q _ => ∃ p, vs = [.ref p] ∧ Pot H p ∧ ∀ (x : V) H', (∃ t, TyX K H' x t ∧ PySem.W.kitOne K t (.type "list") = some false ∧ PySem.W.kitOne K t (.type "tuple") = some false) → PotOn H H' p → Q x H'
theorem fb__law_no_list {P : Program} {w : World} {K : PySem.W.Frag} {mg : Str → Option Value} {base : Heap} (T : Env K mg) : ∃ fd, FunD K "_law_no_list" "_law_no_list" (defArgs s__law_no_list) (defBody s__law_no_list) (defScope s__law_no_list) [] [] (He.ga K "_law_no_list") fd ∧ Fb P w K mg base 66 (He.ga K "_law_no_list") fd ["_law_pot_here"] (sp__law_no_list K) := by
  obtain ⟨fd, F⟩ := T.f__law_no_list
  refine ⟨fd, F, fb_of F sc__law_no_list (fun vs H Q E h => ?_) (fun cdv A outer s H vs Q E hr h => ?_)⟩
  · obtain ⟨p, rfl, _⟩ := h
    rfl
  · obtain ⟨p, rfl, hp, q⟩ := h
    refine ⟨_, (pss_cons (ps_set (i := 1) sc__law_no_list.nd rfl (Or.inl rfl) (pe_lst (pa_cons pe_non (pa_cons pe_int (pa_cons pe_str (pa_cons pe_str (pa_cons pe_dnewK (pa_cons (c_make T.mk_At (ok_At_init T) (hr.mono (by decide)) T.g_At takes0 (pa_cons pe_int pa_nil)) (pa_cons (c_make T.mk_Spread (ok_Spread_init T) (hr.mono (by decide)) T.g_Spread takes0 (pa_cons (pe_lst (pa_cons (c_make T.mk_At (ok_At_init T) (hr.mono (by decide)) T.g_At takes0 (pa_cons pe_int pa_nil)) pa_nil)) pa_nil)) (pa_cons pe_bl (pa_cons (pe_un un_neg pe_int) (pa_cons (pe_disp (pps_cons pe_str pe_int pps_nil) rfl rfl (by simp) (by decide)) (pa_cons (c_make T.mk_Over (ok_Over_init T) (hr.mono (by decide)) T.g_Over takes0 (pa_cons (pe_lst (pa_cons (c_make T.mk_At (ok_At_init T) (hr.mono (by decide)) T.g_At takes0 (pa_cons pe_int pa_nil)) pa_nil)) (pa_cons pe_int (pa_cons pe_int pa_nil)))) (pa_cons (c_call (ok__law_wide T) (hr.mono (by decide)) T.g__law_wide T.k__law_wide takes0 (pa_cons (pv 0) pa_nil)) pa_nil))))))))))))))
      (pss_one (ps_ret (pe_ix ix_list (pv 1) (c_call (ok__law_draw T) (hr.mono (by decide)) T.g__law_draw T.k__law_draw takes0 (pa_cons (pv 0) (pa_cons (pe_callB call_len (by rfl) T.n_len (by decide +kernel) (pa_cons (pv 1) pa_nil)) pa_nil))) (fun _ _ => rfl))))), ?_⟩
    have P0 := PotOn.refl hp
    refine fun a1 n1 => ?_
    have Y1 := ex_new (o := .dK []) n1
    have h1 : upd H a1 (.dK []) a1 = some (.dK []) := upd_same
    have z1 := pot_ne P0 n1
    have P1 := P0.ex2 Y1
    generalize upd H a1 (.dK []) = G1 at Y1 h1 P1  ⊢
    refine fun a2 d2 nx2 nd2 ne2 => at_new (n := 3) nx2 nd2 ne2 fun G2 Y2 A2 => ⟨rfl, ?_⟩
    have z2 := pot_ne P1 nx2
    have P2 := P1.ex2 Y2
    have h1 := Y2 _ _ h1
    obtain ⟨dx2, h2⟩ := A2
    refine fun a3 d3 nx3 nd3 ne3 => at_new (n := 2) nx3 nd3 ne3 fun G3 Y3 A3 => ⟨rfl, ?_⟩
    have z3 := pot_ne P2 nx3
    have P3 := P2.ex2 Y3
    have h1 := Y3 _ _ h1
    have h2 := Y3 _ _ h2
    obtain ⟨dx3, h3⟩ := A3
    refine ⟨by show 1 ≤ sizeLine; decide, fun a4 n4 => ?_⟩
    have Y4 := ex_new (o := .lst [.ref a3]) n4
    have h4 : upd G3 a4 (.lst [.ref a3]) a4 = some (.lst [.ref a3]) := upd_same
    have z4 := pot_ne P3 n4
    have P4 := P3.ex2 Y4
    have h1 := Y4 _ _ h1
    have h2 := Y4 _ _ h2
    have h3 := Y4 _ _ h3
    generalize upd G3 a4 (.lst [.ref a3]) = G4 at Y4 h4 P4 h1 h2 h3 ⊢
    refine fun a5 d5 nx5 nd5 ne5 => spread_new (as := [a3]) (ts := [.at 2]) nx5 nd5 ne5 (.inl h4) (shs_one (by unfold ShAt; exact ⟨_, h3⟩)) (by simp [nestL, Tr.nest]) (by simp [okL_, Tr.ok]) (by simp [sprB, risB, momsL, Tr.moms]) fun G5 Y5 A5 => ⟨rfl, ?_⟩
    have z5 := pot_ne P4 nx5
    have P5 := P4.ex2 Y5
    have h1 := Y5 _ _ h1
    have h2 := Y5 _ _ h2
    have h3 := Y5 _ _ h3
    have h4 := Y5 _ _ h4
    obtain ⟨dx5, kp5, hd5, as5, h5, _⟩ := A5
    refine ⟨_, rfl, ?_⟩
    refine fun a6 n6 => ⟨upd_same, [(.inr "a", .int 1)], rfl, by decide, ?_⟩
    rw [upd_upd]
    have Y6 := ex_new (o := .dK (mergeK [] [(.inr "a", .int 1)])) n6
    have h6 : upd G5 a6 (.dK (mergeK [] [(.inr "a", .int 1)])) a6 = some (.dK (mergeK [] [(.inr "a", .int 1)])) := upd_same
    have z6 := pot_ne P5 n6
    have P6 := P5.ex2 Y6
    have h1 := Y6 _ _ h1
    have h2 := Y6 _ _ h2
    have h3 := Y6 _ _ h3
    have h4 := Y6 _ _ h4
    have h5 := Y6 _ _ h5
    generalize upd G5 a6 (.dK (mergeK [] [(.inr "a", .int 1)])) = G6 at Y6 h6 P6 h1 h2 h3 h4 h5 ⊢
    refine fun a7 d7 nx7 nd7 ne7 => at_new (n := 1) nx7 nd7 ne7 fun G7 Y7 A7 => ⟨rfl, ?_⟩
    have z7 := pot_ne P6 nx7
    have P7 := P6.ex2 Y7
    have h1 := Y7 _ _ h1
    have h2 := Y7 _ _ h2
    have h3 := Y7 _ _ h3
    have h4 := Y7 _ _ h4
    have h5 := Y7 _ _ h5
    have h6 := Y7 _ _ h6
    obtain ⟨dx7, h7⟩ := A7
    refine ⟨by show 1 ≤ sizeLine; decide, fun a8 n8 => ?_⟩
    have Y8 := ex_new (o := .lst [.ref a7]) n8
    have h8 : upd G7 a8 (.lst [.ref a7]) a8 = some (.lst [.ref a7]) := upd_same
    have z8 := pot_ne P7 n8
    have P8 := P7.ex2 Y8
    have h1 := Y8 _ _ h1
    have h2 := Y8 _ _ h2
    have h3 := Y8 _ _ h3
    have h4 := Y8 _ _ h4
    have h5 := Y8 _ _ h5
    have h6 := Y8 _ _ h6
    have h7 := Y8 _ _ h7
    generalize upd G7 a8 (.lst [.ref a7]) = G8 at Y8 h8 P8 h1 h2 h3 h4 h5 h6 h7 ⊢
    refine fun a9 d9 nx9 nd9 ne9 => ⟨rfl, over_newT (as := [a7]) (ts := [.at 1]) (m := 2) (s := 3) nx9 nd9 ne9 (.inl h8) (shs_one (by unfold ShAt; exact ⟨_, h7⟩)) (by simp [okL_, Tr.ok, momsL, Tr.moms]) (by simp [nestL, Tr.nest]) fun G9 Y9 A9 => ⟨rfl, ?_⟩⟩
    have z9 := pot_ne P8 nx9
    have P9 := P8.ex2 Y9
    have h1 := Y9 _ _ h1
    have h2 := Y9 _ _ h2
    have h3 := Y9 _ _ h3
    have h4 := Y9 _ _ h4
    have h5 := Y9 _ _ h5
    have h6 := Y9 _ _ h6
    have h7 := Y9 _ _ h7
    have h8 := Y9 _ _ h8
    obtain ⟨dx9, kp9, as9, h9, _⟩ := (by unfold ShAt at A9; exact A9 : ∃ dx kp as, G9 a9 = some (.ins (OverC K) dx (overF kp 2 3)) ∧ G9 kp = some (.tup (as.map V.ref)) ∧ ShsAt K G9 [.at 1] as)
    refine ⟨_, rfl, p, rfl, P9.1, fun w10 W10 hw10 Q10 => ?_⟩
    have h1 := Q10.2 _ _ z1 h1
    have h2 := Q10.2 _ _ z2 h2
    have h3 := Q10.2 _ _ z3 h3
    have h4 := Q10.2 _ _ z4 h4
    have h5 := Q10.2 _ _ z5 h5
    have h6 := Q10.2 _ _ z6 h6
    have h7 := Q10.2 _ _ z7 h7
    have h8 := Q10.2 _ _ z8 h8
    have h9 := Q10.2 _ _ z9 h9
    have PP10 := P9.trans Q10
    refine ⟨by show 12 ≤ sizeLine; decide, fun L nL => ?_⟩
    have YL := ex_new (o := .lst [.non, .int 5, .str "", .str "ab", .ref a1, .ref a2, .ref a5, .bl true, .int (-1), .ref a6, .ref a9, .int ((w10 : Nat) : Int)]) nL
    have hL : upd W10 L (.lst [.non, .int 5, .str "", .str "ab", .ref a1, .ref a2, .ref a5, .bl true, .int (-1), .ref a6, .ref a9, .int ((w10 : Nat) : Int)]) L = some (.lst [.non, .int 5, .str "", .str "ab", .ref a1, .ref a2, .ref a5, .bl true, .int (-1), .ref a6, .ref a9, .int ((w10 : Nat) : Int)]) := upd_same
    have zL := pot_ne PP10 nL
    have PL := PP10.ex2 YL
    have h1 := YL _ _ h1
    have h2 := YL _ _ h2
    have h3 := YL _ _ h3
    have h4 := YL _ _ h4
    have h5 := YL _ _ h5
    have h6 := YL _ _ h6
    have h7 := YL _ _ h7
    have h8 := YL _ _ h8
    have h9 := YL _ _ h9
    generalize upd W10 L (.lst [.non, .int 5, .str "", .str "ab", .ref a1, .ref a2, .ref a5, .bl true, .int (-1), .ref a6, .ref a9, .int ((w10 : Nat) : Int)]) = GL at YL hL PL h1 h2 h3 h4 h5 h6 h7 h8 h9 ⊢
    refine ⟨_, rfl, _, rfl, _, rfl, _, _, rfl, .inl ⟨_, sq_lst hL, rfl⟩, p, _, rfl, PL.1, by show (0 : Int) < 12; decide, by show (12 : Nat) < 10 ^ 200; decide +kernel, fun d HD d0 d1 PD => ?_⟩
    obtain ⟨x, hx, ex⟩ := at_mem (xs := [.non, .int 5, .str "", .str "ab", .ref a1, .ref a2, .ref a5, .bl true, .int (-1), .ref a6, .ref a9, .int ((w10 : Nat) : Int)]) d0 (by show d < 12; exact d1)
    have h1 := PD.2 _ _ z1 h1
    have h2 := PD.2 _ _ z2 h2
    have h3 := PD.2 _ _ z3 h3
    have h4 := PD.2 _ _ z4 h4
    have h5 := PD.2 _ _ z5 h5
    have h6 := PD.2 _ _ z6 h6
    have h7 := PD.2 _ _ z7 h7
    have h8 := PD.2 _ _ z8 h8
    have h9 := PD.2 _ _ z9 h9
    have PQ := PL.trans PD
    refine ⟨L, _, _, x, rfl, rfl, sq_lst (PD.2 _ _ zL hL), ex, ?_⟩
    clear ex hL
    simp only [List.mem_cons, List.not_mem_nil, or_false] at hx
    rcases hx with rfl | rfl | rfl | rfl | rfl | rfl | rfl | rfl | rfl | rfl | rfl | rfl
    · exact q _ _ ⟨_, .base .non, kit_ty (by decide +kernel), kit_ty (by decide +kernel)⟩ PQ
    · exact q _ _ ⟨_, .base (.int _), kit_ty (by decide +kernel), kit_ty (by decide +kernel)⟩ PQ
    · exact q _ _ ⟨_, .base (.str _), kit_ty (by decide +kernel), kit_ty (by decide +kernel)⟩ PQ
    · exact q _ _ ⟨_, .base (.str _), kit_ty (by decide +kernel), kit_ty (by decide +kernel)⟩ PQ
    · exact q _ _ ⟨_, .base (.dK h1), kit_ty (by decide +kernel), kit_ty (by decide +kernel)⟩ PQ
    · exact q _ _ ⟨_, ty_ins T.i_At T.c_At h2, T.kit_At_list, T.kit_At_tuple⟩ PQ
    · exact q _ _ ⟨_, ty_ins T.i_Spread T.c_Spread h5, T.kit_Spread_list, T.kit_Spread_tuple⟩ PQ
    · exact q _ _ ⟨_, .base (.bl _), kit_ty (by decide +kernel), kit_ty (by decide +kernel)⟩ PQ
    · exact q _ _ ⟨_, .base (.int _), kit_ty (by decide +kernel), kit_ty (by decide +kernel)⟩ PQ
    · exact q _ _ ⟨_, .base (.dK h6), kit_ty (by decide +kernel), kit_ty (by decide +kernel)⟩ PQ
    · exact q _ _ ⟨_, ty_ins T.i_Over T.c_Over h9, T.kit_Over_list, T.kit_Over_tuple⟩ PQ
    · exact q _ _ ⟨_, .base (.int _), kit_ty (by decide +kernel), kit_ty (by decide +kernel)⟩ PQ
theorem ok__law_no_list {P : Program} {w : World} {K : PySem.W.Frag} {mg : Str → Option Value} {base : Heap} (T : Env K mg) : Fc P w K mg base 66 (He.ga K "_law_no_list") [] (sp__law_no_list K ) := by
  obtain ⟨fd, D, F⟩ := fb__law_no_list T
  exact F.all (D.bindsN fun _ _ _ _ _ _ us hl => match us, hl with | [_], _ => rfl)
end
section
theorem cut_dropV (xs : List V) (n : Nat) : cutV xs (some (n : Int)) none = xs.drop n := by
  unfold cutV
  rw [HT.sIx_none, HT.sIx_nat]
  by_cases h : n ≤ xs.length
  · rw [Nat.min_eq_left h]
    exact List.take_of_length_le (by rw [List.length_drop]; exact Nat.le_refl _)
  · rw [Nat.min_eq_right (by omega), List.drop_of_length_le (Nat.le_refl _), List.drop_of_length_le (by omega), List.take_nil]
theorem cut_takeV (xs : List V) (n : Nat) : cutV xs none (some (n : Int)) = xs.take n := by
  unfold cutV
  rw [HT.sIx_none, HT.sIx_nat, List.drop_zero, Nat.sub_zero]
  by_cases h : n ≤ xs.length
  · rw [Nat.min_eq_left h]
  · rw [Nat.min_eq_right (by omega), List.take_of_length_le (Nat.le_refl _), List.take_of_length_le (by omega)]
theorem slT_of {K : PySem.W.Frag} {H : Hp} {a : Addr} {xs : List V} {lo hi : Option Int} {Q : VK} (ha : H a = some (.tup xs)) (q : ∀ p H', Ex H H' → H' p = some (.tup (cutV xs lo hi)) → Q (.ref p) H') : rSlA K (.ref a) lo hi H Q := by
  refine ⟨a, xs, rfl, sq_tup ha, fun hw => q a H (.refl _) ?_, fun _ p np => q p _ (ex_new np) upd_same⟩
  have e : cutV xs lo hi = xs := by
    unfold cutV
    rw [hw.1, hw.2]
    simp
  rw [e]
  exact ha
end
section
theorem risB_bad {t e : Tr} {suf : List Tr} (h : ¬ t.moms.getLastD 0 < e.moms.headD 0) : ∀ pre : List Tr, risB (pre ++ t :: e :: suf) = false
  | [] => by
    show (decide (t.moms.getLastD 0 < e.moms.headD 0) && risB (e :: suf)) = false
    rw [decide_eq_false h]
    rfl
  | [x] => by
    show (decide (x.moms.getLastD 0 < t.moms.headD 0) && risB (t :: e :: suf)) = false
    rw [show risB (t :: e :: suf) = false from risB_bad h [], Bool.and_false]
  | x :: y :: r => by
    show (decide (x.moms.getLastD 0 < y.moms.headD 0) && risB (y :: r ++ t :: e :: suf)) = false
    rw [risB_bad h (y :: r), Bool.and_false]
theorem DtsAt.take {H : Hp} : ∀ {ts : List Tr} {as : List Addr} (n : Nat), DtsAt H ts as → DtsAt H (ts.take n) (as.take n)
  | [], as, n, h => by
    unfold DtsAt at h
    rw [h, List.take_nil, List.take_nil]
    unfold DtsAt
    rfl
  | t :: ts, as, n, h => by
    unfold DtsAt at h
    obtain ⟨a, r, rfl, h2, h3⟩ := h
    cases n with
    | zero =>
      show DtsAt H [] []
      unfold DtsAt
      rfl
    | succ n =>
      show DtsAt H (t :: ts.take n) (a :: r.take n)
      unfold DtsAt
      exact ⟨a, r.take n, rfl, h2, DtsAt.take n h3⟩
theorem DtsAt.drop {H : Hp} : ∀ {ts : List Tr} {as : List Addr} (n : Nat), DtsAt H ts as → DtsAt H (ts.drop n) (as.drop n)
  | [], as, n, h => by
    unfold DtsAt at h
    rw [h, List.drop_nil, List.drop_nil]
    unfold DtsAt
    rfl
  | t :: ts, as, n, h => by
    cases n with
    | zero => exact h
    | succ n =>
      unfold DtsAt at h
      obtain ⟨a, r, rfl, h2, h3⟩ := h
      exact DtsAt.drop n h3
theorem dts_app {H : Hp} : ∀ {ts us : List Tr} {as bs : List Addr}, DtsAt H ts as → DtsAt H us bs → DtsAt H (ts ++ us) (as ++ bs)
  | [], us, as, bs, h, h2 => by
    unfold DtsAt at h
    rw [h]
    exact h2
  | t :: ts, us, as, bs, h, h2 => by
    unfold DtsAt at h
    obtain ⟨a, r, rfl, h1, h3⟩ := h
    show DtsAt H (t :: (ts ++ us)) (a :: (r ++ bs))
    unfold DtsAt
    exact ⟨a, r ++ bs, rfl, h1, dts_app h3 h2⟩
theorem dts_one {H : Hp} {t : Tr} {a : Addr} (h : DtAt H t a) : DtsAt H [t] [a] := by
  unfold DtsAt
  exact ⟨a, [], rfl, h, by unfold DtsAt; rfl⟩
theorem okL_all : ∀ {ts : List Tr}, (∀ t ∈ ts, t.ok) → okL_ ts
  | [], _ => by
    unfold okL_
    trivial
  | t :: r, h => by
    unfold okL_
    exact ⟨h t List.mem_cons_self, okL_all fun x hx => h x (List.mem_cons_of_mem _ hx)⟩
def sp__law_too_early (K : PySem.W.Frag) : Sp := fun vs H Q _ => ∃ (p r : Addr) (bs : List Addr) (ts : List Tr), vs = [.ref p, .ref r] ∧ Pot H p ∧ H r = some (.tup (bs.map V.ref)) ∧ DtsAt H ts bs ∧ ts ≠ [] ∧ okL_ ts ∧ nestL ts ≤ 2 ∧ ts.length ≤ 100 ∧ (momsL ts).length ≤ 1440 ∧ (∀ n ∈ momsL ts, n < 10 ^ 80) ∧ ∀ (L : Addr) (bs' : List Addr) (ts' : List Tr) H', H' L = some (.lst (bs'.map V.ref)) → L ≠ p → DtsAt H' ts' bs' → okL_ ts' → nestL ts' ≤ 2 → ts'.length ≤ 101 → risB ts' = false → PotOn H H' p → Q (.ref L) H'
theorem fb__law_too_early {P : Program} {w : World} {K : PySem.W.Frag} {mg : Str → Option Value} {base : Heap} (T : Env K mg) : ∃ fd, FunD K "_law_too_early" "_law_too_early" (defArgs s__law_too_early) (defBody s__law_too_early) (defScope s__law_too_early) [] [] (He.ga K "_law_too_early") fd ∧ Fb P w K mg base 85 (He.ga K "_law_too_early") fd ["_law_pot_here", "_law_row_here"] (sp__law_too_early K) := by
  obtain ⟨fd, F⟩ := T.f__law_too_early
  refine ⟨fd, F, fb_of F sc__law_too_early (fun vs H Q E h => ?_) (fun cdv A outer s H vs Q E hr h => ?_)⟩
  · obtain ⟨p, r, bs, ts, rfl, _⟩ := h
    rfl
  · obtain ⟨p, r, bs, ts, rfl, hp, hw, hB, h0, hok, hn, hl, hlm, hb, q⟩ := h
    refine ⟨_, (pss_cons (ps_set (i := 2) sc__law_too_early.nd rfl (Or.inl rfl) (pe_op op_add pe_int (c_call (ok__law_draw T) (hr.mono (by decide)) T.g__law_draw T.k__law_draw takes0 (pa_cons (pv 0) (pa_cons (pe_callB call_len (by rfl) T.n_len (by decide +kernel) (pa_cons (pv 1) pa_nil)) pa_nil)))))
      (pss_cons (ps_set (i := 3) sc__law_too_early.nd rfl (Or.inl rfl) (pe_ix ix_list (c_call (all__law_moments T 9) (hr.mono (by decide)) T.g__law_moments T.k__law_moments takes0 (pa_cons (pe_ix ix_tup (pv 1) (pe_op op_sub (pv 2) pe_int) (fun _ _ => rfl)) pa_nil)) (pe_un un_neg pe_int) (fun _ _ => rfl)))
      (pss_cons (ps_set (i := 4) sc__law_too_early.nd rfl (Or.inl rfl) (c_call (ok__law_draw T) (hr.mono (by decide)) T.g__law_draw T.k__law_draw takes0 (pa_cons (pv 0) (pa_cons (pe_ix ix_list (pe_lst (pa_cons pe_int (pa_cons pe_int (pa_cons (pe_op op_add (pv 3) pe_int) pa_nil)))) (c_call (ok__law_draw T) (hr.mono (by decide)) T.g__law_draw T.k__law_draw takes0 (pa_cons (pv 0) (pa_cons pe_int pa_nil))) (fun _ _ => rfl)) pa_nil))))
      (pss_cons (ps_set (i := 5) sc__law_too_early.nd rfl (Or.inl rfl) (pe_tup (pa_cons pe_str (pa_cons (pe_callB (call_max2 rfl) (by rfl) T.n_max (by decide +kernel) (pa_cons pe_int (pa_cons (pe_op op_sub (pv 3) (pv 4)) pa_nil))) pa_nil))))
      (Evl.pss_cut (ps_if (pt_cmpR op_eq (c_call (ok__law_draw T) (hr.mono (by decide)) T.g__law_draw T.k__law_draw takes0 (pa_cons (pv 0) (pa_cons pe_int pa_nil))) pe_int (nomark _))
      (pss_one (ps_set (i := 5) sc__law_too_early.nd rfl (Or.inl rfl) (pe_tup (pa_cons pe_str (pa_cons (pe_tup (pa_cons (pv 5) pa_nil)) (pa_cons pe_int (pa_cons (pe_op op_add pe_int (c_call (ok__law_gap T) (hr.mono (by decide)) T.g__law_gap T.k__law_gap takes0 (pa_cons (pv 0) pa_nil))) pa_nil)))))))
      pss_nil)
      (pss_one (ps_ret (pe_op op_cat (pe_op op_cat (pe_callTy call_list_of (by rfl) T.n_list (by decide +kernel) (pa_cons (pe_slice sl_tupA (pv 1) po_none (po_some (pv 2))) pa_nil)) (pe_lst (pa_cons (pv 5) pa_nil))) (pe_callTy call_list_of (by rfl) T.n_list (by decide +kernel) (pa_cons (pe_slice sl_tupA (pv 1) (po_some (pv 2)) po_none) pa_nil)))))))))), ?_⟩
    have hlB := hB.len
    have lp : 0 < ts.length := List.length_pos_iff.mpr h0
    refine ⟨_, rfl, _, rfl, _, _, rfl, .inr ⟨_, sq_tup hw, rfl⟩, p, _, rfl, hp, by rw [List.length_map]; omega, ?_, fun d H1 d0 d1 P1 => ?_⟩
    · rw [List.length_map]
      exact Nat.lt_of_le_of_lt (show _ ≤ 1000 by omega) (by decide +kernel)
    obtain ⟨dn, rfl⟩ := Int.eq_ofNat_of_zero_le d0
    rw [List.length_map] at d1
    have hdn : dn < ts.length := by omega
    have hp1 := P1.1
    have hr1 := tup_on hp P1 _ _ hw
    have hB1 := hB.keep (tup_on hp P1)
    obtain ⟨bt, hbt⟩ : ∃ b, bs[dn]? = some b := ⟨_, List.getElem?_eq_getElem (by omega)⟩
    obtain ⟨t, ht, hDt⟩ := hB1.get hbt
    have htm := List.mem_of_getElem? ht
    have tok := okL_mem hok htm
    have tn := nestL_mem htm
    have c1 : (1 : Int) + ((dn : Nat) : Int) - 1 = ((dn : Nat) : Int) := by omega
    refine ⟨_, _, rfl, rfl, ?_⟩
    dsimp only
    refine ⟨_, rfl, _, rfl, _, _, rfl, rfl, r, _, _, _, rfl, rfl, sq_tup hr1, ?_, bt, t, rfl, hDt, by omega, tok, Nat.le_trans (momsL_le htm) hlm, fun mo H2 X2 nmo hmo => ?_⟩
    · rw [c1]
      exact atI_nat (by rw [List.getElem?_map, hbt]; rfl)
    refine ⟨_, rfl, mo, _, _, _, rfl, rfl, sq_lst hmo, at_lastN (moms_ne tok), ?_⟩
    have hlast : t.moms.getLastD 0 < 10 ^ 80 := hb _ (momsL_mem htm (lastD_mem (moms_ne tok)))
    generalize hen : t.moms.getLastD 0 = en at hlast ⊢
    have P2 := P1.ex2 X2
    have hp2 := P2.1
    have hr2 := X2 _ _ hr1
    have hB2 := hB1.mono X2
    have c2 : ((en : Nat) : Int) + 1 = ((en + 1 : Nat) : Int) := by omega
    refine ⟨_, rfl, _, rfl, _, _, rfl, rfl, by show 3 ≤ sizeLine; decide, fun u nu => ?_⟩
    have up := pot_ne P2 nu
    have X3 := ex_new (o := .lst [.int 1, .int 3, .int (((en : Nat) : Int) + 1)]) nu
    have P3 := P2.ex2 X3
    have hp3 := P3.1
    have hu3 : upd H2 u (.lst [.int 1, .int 3, .int (((en : Nat) : Int) + 1)]) u = some (.lst [.int 1, .int 3, .int (((en : Nat) : Int) + 1)]) := upd_same
    have hr3 := X3 _ _ hr2
    have hB3 := hB2.mono X3
    generalize upd H2 u (.lst [.int 1, .int 3, .int (((en : Nat) : Int) + 1)]) = H3 at X3 P3 hp3 hu3 hr3 hB3 ⊢
    refine ⟨_, rfl, p, 3, rfl, hp3, by decide, by decide, fun e H4 e0 e1 P4 => ?_⟩
    have hp4 := P4.1
    obtain ⟨x, hx, ex⟩ := at_mem (xs := [V.int 1, .int 3, .int (((en : Nat) : Int) + 1)]) e0 (by show e < 3; exact e1)
    obtain ⟨mx, rfl, hmx⟩ : ∃ m : Nat, x = .int (m : Nat) ∧ 1 ≤ m ∧ m < 10 ^ 100 := by
      have big : (10 : Nat) ^ 80 + 1 < 10 ^ 100 := by decide +kernel
      simp only [List.mem_cons, List.not_mem_nil, or_false] at hx
      rcases hx with rfl | rfl | rfl
      · exact ⟨1, rfl, by omega, by omega⟩
      · exact ⟨3, rfl, by omega, by omega⟩
      · exact ⟨en + 1, by rw [c2], by omega, by omega⟩
    have mxb : ((mx : Nat) : Int).toNat < 10 ^ 200 := Nat.lt_trans hmx.2 (by decide +kernel)
    refine ⟨u, _, _, _, rfl, rfl, sq_lst (P4.2 _ _ up hu3), ex, p, _, rfl, hp4, by omega, mxb, fun f H5 f0 f1 P5 => ?_⟩
    have hp5 := P5.1
    obtain ⟨fn, rfl⟩ := Int.eq_ofNat_of_zero_le f0
    have P15 := (P3.trans P4).trans P5
    have hr5 := tup_on hp4 P5 _ _ (tup_on hp3 P4 _ _ hr3)
    have hB5 := (hB3.keep (tup_on hp3 P4)).keep (tup_on hp4 P5)
    clear hx ex hu3 hr3 hB3 hr2 hB2 hr1 hB1 hDt hmo
    refine ⟨_, rfl, _, rfl, _, _, rfl, rfl, _, _, rfl, (by show 2 ≤ sizeLine; decide), ?_⟩
    have cn : (if ((en : Nat) : Int) - ((fn : Nat) : Int) > 0 then ((en : Nat) : Int) - ((fn : Nat) : Int) else 0) = ((en - fn : Nat) : Int) := by
      split <;> omega
    rw [cn]
    intro eb neb
    have hle : en - fn ≤ en := Nat.sub_le _ _
    generalize en - fn = n at hle ⊢
    have X6 := ex_new (o := .tup [.str "at", .int ((n : Nat) : Int)]) neb
    have P6 := P15.ex2 X6
    have hp6 := P6.1
    have hw6 := X6 _ _ hr5
    have hB6 := hB5.mono X6
    have he6 : DtAt (upd H5 eb (.tup [.str "at", .int ((n : Nat) : Int)])) (.at n) eb := by
      unfold DtAt
      exact upd_same
    generalize upd H5 eb (.tup [.str "at", .int ((n : Nat) : Int)]) = H6 at X6 P6 hp6 hw6 hB6 he6 ⊢
    refine ⟨fun σ' H' => PotOn H H' p ∧ H' r = some (.tup (bs.map V.ref)) ∧ DtsAt H' ts bs ∧ ∃ eb e, σ' = [some (.ref p), some (.ref r), some (.int ((1 : Int) + ((dn : Nat) : Int))), some (.int (en : Nat)), some (.int (fn : Nat)), some (.ref eb)] ∧ DtAt H' e eb ∧ e.ok ∧ e.nest ≤ 1 ∧ e.moms.headD 0 ≤ en, ?_, ?_⟩
    · refine ⟨_, rfl, p, 2, rfl, hp6, by decide, by decide, fun g H7 g0 g1 P7 => ⟨rfl, _, rfl, ?_⟩⟩
      have hp7 := P7.1
      have P17 := P6.trans P7
      have hw7 := tup_on hp6 P7 _ _ hw6
      have hB7 := hB6.keep (tup_on hp6 P7)
      have he7 := he6.keep (tup_on hp6 P7)
      refine ite2 (fun _ => ?_) (fun _ => ⟨P17, hw7, hB7, eb, .at n, rfl, he7, at_ok n, by rw [at_nest]; decide, by rw [at_moms]; exact hle⟩)
      refine ⟨_, rfl, by show 1 ≤ sizeLine; decide, fun tp ntp => ?_⟩
      have X8 := ex_new (o := .tup [.ref eb]) ntp
      have P8 := P17.ex2 X8
      have hp8 := P8.1
      refine ⟨_, rfl, p, rfl, hp8, fun gp H9 hgp P9 => ⟨_, _, rfl, rfl, by show 4 ≤ sizeLine; decide, fun o no => ?_⟩⟩
      have cg : (1 : Int) + ((gp : Nat) : Int) = ((1 + gp : Nat) : Int) := by omega
      have htp := tup_on hp8 P9 _ _ (show upd H7 tp (.tup [.ref eb]) tp = some (.tup [.ref eb]) from upd_same)
      have he9 := (he7.mono X8).keep (tup_on hp8 P9)
      have hw9 := tup_on hp8 P9 _ _ (X8 _ _ hw7)
      have hB9 := (hB7.mono X8).keep (tup_on hp8 P9)
      have P19 := P8.trans P9
      dsimp only
      rw [cg]
      have X10 := ex_new (o := .tup [.str "over", .ref tp, .int 2, .int ((1 + gp : Nat) : Int)]) no
      have e0 : (Tr.ov [.at n] 2 (1 + gp)).moms = overN [n] 2 (1 + gp) := by rw [Tr.moms, momsL_one, at_moms]
      refine ⟨P19.ex2 X10, X10 _ _ hw9, hB9.mono X10, o, .ov [.at n] 2 (1 + gp), rfl, ?_, ?_, ?_, ?_⟩
      · unfold DtAt
        exact ⟨tp, [eb], upd_same, X10 _ _ htp, dts_one (he9.mono X10)⟩
      · unfold Tr.ok
        rw [momsL_one, at_moms]
        exact ⟨by simp, by omega, by omega, by show 2 * 1 ≤ 1440; decide, by show n < 1 + gp + n; omega, List.pairwise_singleton _ _, okL_one (at_ok n)⟩
      · rw [Tr.nest, nestL_one, at_nest]
        exact Nat.le_refl 1
      · rw [e0, overN_head (by simp) 2 (by decide)]
        exact hle
    clear hw6 hB6 he6 hr5 hB5 P6 hp6 X6 P15
    rintro σ' H7 ⟨P7, hw7, hB7, eb, e, rfl, he7, eok, en1, ehd⟩
    have c3 : (1 : Int) + ((dn : Nat) : Int) = ((dn + 1 : Nat) : Int) := by omega
    rw [c3]
    refine ⟨_, rfl, _, rfl, _, rfl, slT_of hw7 fun s1 H8 X8 hs1 => ?_⟩
    rw [cut_takeV] at hs1
    refine ⟨s1, _, rfl, .inr (sq_tup hs1), fun l1 nl1 => ?_⟩
    have X9 := ex_new (o := .lst ((bs.map V.ref).take (dn + 1))) nl1
    refine ⟨_, rfl, by show 1 ≤ sizeLine; decide, fun l2 nl2 => ?_⟩
    have X10 := ex_new (o := .lst [.ref eb]) nl2
    refine ⟨l1, l2, _, _, rfl, rfl, X10 _ _ upd_same, upd_same, sz_le (by simp only [List.length_take, List.length_map, List.length_cons, List.length_nil]; omega), fun l3 nl3 => ?_⟩
    have X11 := ex_new (o := .lst ((bs.map V.ref).take (dn + 1) ++ [.ref eb])) nl3
    have X811 := X8.trans (X9.trans (X10.trans X11))
    have h3 : upd (upd (upd H8 l1 (.lst ((bs.map V.ref).take (dn + 1)))) l2 (.lst [.ref eb])) l3 (.lst ((bs.map V.ref).take (dn + 1) ++ [.ref eb])) l3 = some (.lst ((bs.map V.ref).take (dn + 1) ++ [.ref eb])) := upd_same
    generalize upd (upd (upd H8 l1 (.lst ((bs.map V.ref).take (dn + 1)))) l2 (.lst [.ref eb])) l3 (.lst ((bs.map V.ref).take (dn + 1) ++ [.ref eb])) = H11 at X811 h3 ⊢
    clear X8 X9 X10 X11 hs1
    have hw11 := X811 _ _ hw7
    refine ⟨_, rfl, _, rfl, _, rfl, ?_⟩
    dsimp only [tNoPart]
    refine slT_of hw11 fun s2 H12 X12 hs2 => ?_
    rw [cut_dropV] at hs2
    refine ⟨s2, _, rfl, .inr (sq_tup hs2), fun l4 nl4 => ?_⟩
    have X13 := ex_new (o := .lst ((bs.map V.ref).drop (dn + 1))) nl4
    have X713 := X811.trans (X12.trans X13)
    refine ⟨l3, l4, _, _, rfl, rfl, X13 _ _ (X12 _ _ h3), upd_same, sz_le (by simp only [List.length_append, List.length_take, List.length_drop, List.length_map, List.length_cons, List.length_nil]; omega), fun L nL => ?_⟩
    have X14 := ex_new (o := .lst ((bs.map V.ref).take (dn + 1) ++ [.ref eb] ++ (bs.map V.ref).drop (dn + 1))) nL
    have X714 := X713.trans X14
    have eB : (bs.map V.ref).take (dn + 1) ++ [.ref eb] ++ (bs.map V.ref).drop (dn + 1) = (bs.take (dn + 1) ++ [eb] ++ bs.drop (dn + 1)).map V.ref := by
      rw [List.map_append, List.map_append, List.map_take, List.map_drop]
      rfl
    have eT : ts.take (dn + 1) = ts.take dn ++ [t] := take_snoc ht
    have hBf := hB7.mono X714
    refine q L (bs.take (dn + 1) ++ [eb] ++ bs.drop (dn + 1)) (ts.take (dn + 1) ++ [e] ++ ts.drop (dn + 1)) _ (by rw [upd_same, eB]) (pot_ne (P7.ex2 X713) nL) ?_ ?_ ?_ ?_ ?_ (P7.ex2 X714)
    · exact dts_app (dts_app (hBf.take _) (dts_one (he7.mono X714))) (hBf.drop _)
    · refine okL_all fun z hz => ?_
      rcases List.mem_append.mp hz with hz | hz
      · rcases List.mem_append.mp hz with hz | hz
        · exact okL_mem hok (List.mem_of_mem_take hz)
        · rw [List.mem_singleton.mp hz]
          exact eok
      · exact okL_mem hok (List.mem_of_mem_drop hz)
    · refine nestL_le fun z hz => ?_
      rcases List.mem_append.mp hz with hz | hz
      · rcases List.mem_append.mp hz with hz | hz
        · exact Nat.le_trans (nestL_mem (List.mem_of_mem_take hz)) hn
        · rw [List.mem_singleton.mp hz]
          omega
      · exact Nat.le_trans (nestL_mem (List.mem_of_mem_drop hz)) hn
    · simp only [List.length_append, List.length_take, List.length_drop, List.length_cons, List.length_nil]
      omega
    · rw [eT, show ts.take dn ++ [t] ++ [e] ++ ts.drop (dn + 1) = ts.take dn ++ t :: e :: ts.drop (dn + 1) from by simp]
      exact risB_bad (by rw [hen]; omega) _
theorem ok__law_too_early {P : Program} {w : World} {K : PySem.W.Frag} {mg : Str → Option Value} {base : Heap} (T : Env K mg) : Fc P w K mg base 85 (He.ga K "_law_too_early") [] (sp__law_too_early K ) := by
  obtain ⟨fd, D, F⟩ := fb__law_too_early T
  exact F.all (D.bindsN fun _ _ _ _ _ _ us hl => match us, hl with | [_, _], _ => rfl)
end
section
/-- things that no Over is made of -/
def BadArgs (K : PySem.W.Frag) (H : Hp) (p : Addr) (way : Int) (x xm xt : V) : Prop :=
  (∃ t, TyX K H x t ∧ PySem.W.kitOne K t (.type "list") = some false ∧ PySem.W.kitOne K t (.type "tuple") = some false) ∨
  (∃ q xs, x = .ref q ∧ H q = some (.lst xs) ∧ q ≠ p ∧ xs.length ≤ 100 ∧ (∀ y ∈ xs, (∃ t b, TyX K H y t ∧ PySem.W.kitOne K t (.ref (He.ga K "Short")) = some b) ∧ y ≠ .ref p ∧ selfV y = true) ∧ ∃ y ∈ xs, ∃ t, TyX K H y t ∧ PySem.W.kitOne K t (.ref (He.ga K "Short")) = some false) ∨
  (∃ q as ts, x = .ref q ∧ SqA H q (as.map V.ref) ∧ q ≠ p ∧ ShsAt K H ts as ∧ nestL ts ≤ 8 ∧ okL_ ts ∧ ts.length ≤ 200 ∧ Cl K H xm ∧ Cl K H xt ∧ xm ≠ .ref p ∧ xt ≠ .ref p ∧ ovB ts xm xt = false ∧ (way < 3 → sprB ts = false))
def sp__law_bent (K : PySem.W.Frag) : Sp := fun vs H Q _ => ∃ (p A r : Addr) (way : Int) (as bs : List Addr) (ts : List Tr) (m s : Nat), vs = [.ref p, .int way, .ref A, .ref r, .int (m : Nat), .int (s : Nat)] ∧ Pot H p ∧ 0 ≤ way ∧ way < 7 ∧ H A = some (.lst (as.map V.ref)) ∧ A ≠ p ∧ ShsAt K H ts as ∧ H r = some (.tup (bs.map V.ref)) ∧ DtsAt H ts bs ∧ ts ≠ [] ∧ okL_ ts ∧ nestL ts ≤ 2 ∧ ts.length ≤ 50 ∧ (momsL ts).length ≤ 1440 ∧ (∀ n ∈ momsL ts, n < 10 ^ 80) ∧ risB ts = true ∧ ∀ (L : Addr) (x xm xt : V) H', H' L = some (.lst [x, xm, xt]) → L ≠ p → BadArgs K H' p way x xm xt → PotOn H H' p → Q (.ref L) H'
theorem sh_ty {K : PySem.W.Frag} {mg : Str → Option Value} (T : Env K mg) {H : Hp} {t : Tr} {a : Addr} (h : ShAt K H t a) : ∃ c b, TyX K H (.ref a) c ∧ PySem.W.kitOne K c (.ref (He.ga K "Short")) = some b := by
  cases t with
  | «at» n =>
    unfold ShAt at h
    obtain ⟨dx, h⟩ := h
    exact ⟨_, _, ty_ins T.i_At T.c_At h, T.kit_At_Short⟩
  | ov ps m s =>
    unfold ShAt at h
    obtain ⟨dx, kp, as, h, _⟩ := h
    exact ⟨_, _, ty_ins T.i_Over T.c_Over h, T.kit_Over_Short⟩
theorem sh_nep {K : PySem.W.Frag} {H : Hp} {t : Tr} {a p : Addr} (h : ShAt K H t a) (hp : Pot H p) : a ≠ p := fun z => by
  obtain ⟨C, dx, fs, e⟩ := h.ins
  obtain ⟨x, y, e2, _⟩ := hp
  rw [z, e2] at e
  cases e
theorem ovB_noM {ts : List Tr} {xm xs : V} (h : isN 2 xm = false) : ovB ts xm xs = false := by
  unfold ovB
  rw [h]
  simp
theorem ovB_noS {ts : List Tr} {xm xs : V} (h : isN 1 xs = false) : ovB ts xm xs = false := by
  unfold ovB
  rw [h]
  simp
theorem fb__law_bent {P : Program} {w : World} {K : PySem.W.Frag} {mg : Str → Option Value} {base : Heap} (T : Env K mg) : ∃ fd, FunD K "_law_bent" "_law_bent" (defArgs s__law_bent) (defBody s__law_bent) (defScope s__law_bent) [] [] (He.ga K "_law_bent") fd ∧ Fb P w K mg base 100 (He.ga K "_law_bent") fd ["_law_pot_here", "_law_way", "_law_parts", "_law_row_here", "_law_many", "_law_step"] (sp__law_bent K) := by
  obtain ⟨fd, F⟩ := T.f__law_bent
  refine ⟨fd, F, fb_of F sc__law_bent (fun vs H Q E h => ?_) (fun cdv A outer s H vs Q E hr h => ?_)⟩
  · obtain ⟨p, A, r, way, as, bs, ts, m, s, rfl, _⟩ := h
    rfl
  · obtain ⟨p, A, r, way, as, bs, ts, m, s_, rfl, hp, w0, w7, hA, Ap, hS, hw, hB, h0, hok, hn, hl, hlm, hb, hri, q⟩ := h
    refine ⟨_, (pss_cons (ps_set (i := 6) sc__law_bent.nd rfl (Or.inl rfl) (pe_op op_sub (pe_ix ix_list (c_call (ok__law_row_moments T (Nat.le_add_right 40 _) (all__law_moments T 9)) (hr.mono (by decide)) T.g__law_row_moments T.k__law_row_moments takes0 (pa_cons (pv 3) pa_nil)) (pe_un un_neg pe_int) (fun _ _ => rfl)) (pe_ix ix_list (c_call (ok__law_row_moments T (Nat.le_add_right 40 _) (all__law_moments T 9)) (hr.mono (by decide)) T.g__law_row_moments T.k__law_row_moments takes0 (pa_cons (pv 3) pa_nil)) pe_int (fun _ _ => rfl))))
      (pss_cons (ps_if (pt_cmpR op_eq (pv 1) pe_int (nomark _))
      (pss_one (ps_ret (pe_lst (pa_cons (c_call (ok__law_no_list T) (hr.mono (by decide)) T.g__law_no_list T.k__law_no_list takes0 (pa_cons (pv 0) pa_nil)) (pa_cons (pv 4) (pa_cons (pv 5) pa_nil))))))
      pss_nil)
      (pss_cons (ps_if (pt_cmpR op_eq (pv 1) pe_int (nomark _))
      (pss_cons (ps_set (i := 7) sc__law_bent.nd rfl (Or.inl rfl) (c_call (ok__law_draw T) (hr.mono (by decide)) T.g__law_draw T.k__law_draw takes0 (pa_cons (pv 0) (pa_cons (pe_op op_add (pe_callB call_len (by rfl) T.n_len (by decide +kernel) (pa_cons (pv 2) pa_nil)) pe_int) pa_nil))))
      (pss_one (ps_ret (pe_lst (pa_cons (pe_op op_cat (pe_op op_cat (pe_slice sl_list (pv 2) po_none (po_some (pv 7))) (pe_lst (pa_cons (c_call (ok__law_no_part T) (hr.mono (by decide)) T.g__law_no_part T.k__law_no_part takes0 (pa_cons (pv 0) pa_nil)) pa_nil))) (pe_slice sl_list (pv 2) (po_some (pv 7)) po_none)) (pa_cons (pv 4) (pa_cons (pv 5) pa_nil)))))))
      pss_nil)
      (pss_cons (ps_if (pt_cmpR op_eq (pv 1) pe_int (nomark _))
      (pss_one (ps_ret (pe_lst (pa_cons (pe_lc (own := [("_law_short_here", 9)]) (by rfl) sc__law_bent.nd (pi_list (c_call (ok__law_too_early T) (hr.mono (by decide)) T.g__law_too_early T.k__law_too_early takes0 (pa_cons (pv 0) (pa_cons (pv 3) pa_nil)))) (blkOk_by (own := [("_law_short_here", 9)]) (N := ["_law_pot_here", "_law_way", "_law_parts", "_law_row_here", "_law_many", "_law_step", "_law_span", "_law_at", "_law_odd_here", "_law_short_here"]) (sc := defScope s__law_bent) (by decide +kernel)) (fun _ _ _ _ _ => (pg_name (i := 9) sc__law_bent.nd rfl (Or.inl rfl))) (fun _ _ _ _ _ => pts_nil) (fun _ _ _ _ _ => (c_call (all__law_made T 9) (hr.mono (by decide)) T.g__law_made T.k__law_made takes0 (pa_cons (pv 9) pa_nil)))) (pa_cons (pv 4) (pa_cons (pv 5) pa_nil))))))
      pss_nil)
      (pss_cons (ps_if (pt_cmpR op_eq (pv 1) pe_int (nomark _))
      (pss_cons (ps_set (i := 8) sc__law_bent.nd rfl (Or.inl rfl) (pe_lst (pa_cons pe_int (pa_cons pe_int (pa_cons (pe_un un_neg pe_int) (pa_cons pe_bl (pa_cons pe_non (pa_cons pe_str (pa_cons (pe_tup (pa_cons pe_int pa_nil)) (pa_cons (pe_lst (pa_cons pe_int pa_nil)) (pa_cons (pe_op op_sub (pe_un un_neg pe_int) (c_call (ok__law_wide T) (hr.mono (by decide)) T.g__law_wide T.k__law_wide takes0 (pa_cons (pv 0) pa_nil))) (pa_cons (c_make T.mk_At (ok_At_init T) (hr.mono (by decide)) T.g_At takes0 (pa_cons pe_int pa_nil)) (pa_cons pe_dnewK pa_nil)))))))))))))
      (pss_one (ps_ret (pe_lst (pa_cons (pv 2) (pa_cons (pe_ix ix_list (pv 8) (c_call (ok__law_draw T) (hr.mono (by decide)) T.g__law_draw T.k__law_draw takes0 (pa_cons (pv 0) (pa_cons (pe_callB call_len (by rfl) T.n_len (by decide +kernel) (pa_cons (pv 8) pa_nil)) pa_nil))) (fun _ _ => rfl)) (pa_cons (pv 5) pa_nil)))))))
      pss_nil)
      (pss_cons (ps_if (pt_cmpR op_eq (pv 1) pe_int (nomark _))
      (pss_one (ps_ret (pe_lst (pa_cons (pv 2) (pa_cons (pv 4) (pa_cons (pe_op op_sub (pv 6) (c_call (ok__law_draw T) (hr.mono (by decide)) T.g__law_draw T.k__law_draw takes0 (pa_cons (pv 0) (pa_cons (pe_ix ix_list (pe_lst (pa_cons pe_int (pa_cons pe_int (pa_cons (pe_op op_add (pv 6) pe_int) pa_nil)))) (c_call (ok__law_draw T) (hr.mono (by decide)) T.g__law_draw T.k__law_draw takes0 (pa_cons (pv 0) (pa_cons pe_int pa_nil))) (fun _ _ => rfl)) pa_nil)))) pa_nil))))))
      pss_nil)
      (pss_cons (ps_if (pt_cmpR op_eq (pv 1) pe_int (nomark _))
      (pss_cons (ps_set (i := 8) sc__law_bent.nd rfl (Or.inl rfl) (pe_lst (pa_cons pe_int (pa_cons (pe_un un_neg pe_int) (pa_cons pe_bl (pa_cons pe_non (pa_cons pe_str (pa_cons pe_str (pa_cons (pe_tup (pa_cons pe_int pa_nil)) (pa_cons (pe_lst (pa_cons pe_int pa_nil)) (pa_cons pe_dnewK (pa_cons (pe_op op_sub (pe_un un_neg pe_int) (c_call (ok__law_wide T) (hr.mono (by decide)) T.g__law_wide T.k__law_wide takes0 (pa_cons (pv 0) pa_nil))) (pa_cons (c_make T.mk_At (ok_At_init T) (hr.mono (by decide)) T.g_At takes0 (pa_cons pe_int pa_nil)) pa_nil)))))))))))))
      (pss_one (ps_ret (pe_lst (pa_cons (pv 2) (pa_cons (pv 4) (pa_cons (pe_ix ix_list (pv 8) (c_call (ok__law_draw T) (hr.mono (by decide)) T.g__law_draw T.k__law_draw takes0 (pa_cons (pv 0) (pa_cons (pe_callB call_len (by rfl) T.n_len (by decide +kernel) (pa_cons (pv 8) pa_nil)) pa_nil))) (fun _ _ => rfl)) pa_nil)))))))
      pss_nil)
      (pss_one (ps_ret (pe_lst (pa_cons (pe_ix ix_list (pe_lst (pa_cons (pe_lst pa_nil) (pa_cons (pe_tup pa_nil) pa_nil))) (c_call (ok__law_draw T) (hr.mono (by decide)) T.g__law_draw T.k__law_draw takes0 (pa_cons (pv 0) (pa_cons pe_int pa_nil))) (fun _ _ => rfl)) (pa_cons (pv 4) (pa_cons (pv 5) pa_nil))))))))))))), ?_⟩
    have hnn : ∀ t ∈ ts, t.nest + 1 ≤ 9 := fun t ht => by
      have := nestL_mem ht
      omega
    have nn := momsL_ne hok h0
    refine ⟨_, rfl, r, bs, ts, rfl, hw, hB, hnn, hok, hlm, fun m1 H1 X1 _ hm1 => ?_⟩
    refine ⟨_, rfl, m1, _, _, _, rfl, rfl, sq_lst hm1, at_lastN nn, ?_⟩
    refine ⟨_, rfl, r, bs, ts, rfl, X1 _ _ hw, hB.mono X1, hnn, hok, hlm, fun m2 H2 X2 _ hm2 => ?_⟩
    refine ⟨m2, _, _, _, rfl, rfl, sq_lst hm2, at_headN nn, _, _, rfl, rfl, ?_⟩
    have so := ris_sorted hok hri
    have hle := headD_le so _ (lastD_mem nn)
    have hlast : (momsL ts).getLastD 0 < 10 ^ 80 := hb _ (lastD_mem nn)
    have csp : (((momsL ts).getLastD 0 : Nat) : Int) - (((momsL ts).headD 0 : Nat) : Int) = (((momsL ts).getLastD 0 - (momsL ts).headD 0 : Nat) : Int) := by omega
    dsimp only
    rw [csp]
    have hspn : (momsL ts).getLastD 0 - (momsL ts).headD 0 < 10 ^ 80 := by omega
    generalize hsp : (momsL ts).getLastD 0 - (momsL ts).headD 0 = spn at hspn
    have P2 := (PotOn.refl hp).ex2 (X1.trans X2)
    have hp2 := P2.1
    have onS : ∀ {H'}, PotOn H H' p → ShsAt K H' ts as := fun P => shs_on hp P hS
    have onA : ∀ {H'}, PotOn H H' p → H' A = some (.lst (as.map V.ref)) := fun P => P.2 _ _ Ap hA
    have lA := hS.len
    refine ⟨_, rfl, rfl, _, rfl, ite2 (fun c => ?_) (fun c0 => ?_)⟩
    · refine ⟨_, rfl, p, rfl, hp2, fun x H3 hx P3 => ⟨_, rfl, _, rfl, by show 3 ≤ sizeLine; decide, fun L nL => ?_⟩⟩
      have P13 := P2.trans P3
      have X4 := ex_new (o := .lst [x, .int (m : Nat), .int (s_ : Nat)]) nL
      obtain ⟨t, ty, k⟩ := hx
      exact q L x _ _ _ upd_same (pot_ne P13 nL) (.inl ⟨t, tyX_mono X4 ty, k⟩) (P13.ex2 X4)
    refine ⟨_, rfl, rfl, _, rfl, ite2 (fun c => ?_) (fun c1 => ?_)⟩
    · have hA2 := onA P2
      refine ⟨_, rfl, _, rfl, _, _, rfl, .inl ⟨_, sq_lst hA2, rfl⟩, _, _, rfl, rfl, p, _, rfl, hp2, by omega, ?_, fun d H3 d0 d1 P3 => ?_⟩
      · rw [List.length_map]
        exact Nat.lt_of_le_of_lt (show _ ≤ 1000 by omega) (by decide +kernel)
      obtain ⟨dn, rfl⟩ := Int.eq_ofNat_of_zero_le d0
      rw [List.length_map] at d1
      have P13 := P2.trans P3
      have hp3 := P3.1
      refine ⟨_, rfl, _, rfl, _, rfl, A, _, rfl, sq_lst (onA P13), fun l1 n1 => ?_⟩
      rw [cut_takeV]
      have X4 := ex_new (o := .lst ((as.map V.ref).take dn)) n1
      have P4 := P13.ex2 X4
      have z1 := pot_ne P13 n1
      refine ⟨_, rfl, p, rfl, P4.1, fun y H5 hy yne yself P5 => ?_⟩
      have P15 := P4.trans P5
      have h1 := P5.2 _ _ z1 (show upd H3 l1 (.lst ((as.map V.ref).take dn)) l1 = some (.lst ((as.map V.ref).take dn)) from upd_same)
      refine ⟨by show 1 ≤ sizeLine; decide, fun l2 n2 => ?_⟩
      have X6 := ex_new (o := .lst [y]) n2
      refine ⟨l1, l2, _, _, rfl, rfl, X6 _ _ h1, upd_same, sz_le (by simp only [List.length_take, List.length_map, List.length_cons, List.length_nil]; omega), fun l3 n3 => ?_⟩
      have X7 := X6.trans (ex_new (o := .lst ((as.map V.ref).take dn ++ [y])) n3)
      have h3 : upd (upd H5 l2 (.lst [y])) l3 (.lst ((as.map V.ref).take dn ++ [y])) l3 = some (.lst ((as.map V.ref).take dn ++ [y])) := upd_same
      generalize upd (upd H5 l2 (.lst [y])) l3 (.lst ((as.map V.ref).take dn ++ [y])) = H7 at X7 h3 ⊢
      have P17 := P15.ex2 X7
      refine ⟨_, rfl, _, rfl, _, rfl, ?_⟩
      dsimp only [tNoPart]
      refine ⟨A, _, rfl, sq_lst (onA P17), fun l4 n4 => ?_⟩
      rw [cut_dropV]
      have X8 := ex_new (o := .lst ((as.map V.ref).drop dn)) n4
      refine ⟨l3, l4, _, _, rfl, rfl, X8 _ _ h3, upd_same, sz_le (by simp only [List.length_append, List.length_take, List.length_drop, List.length_map, List.length_cons, List.length_nil]; omega), fun l5 n5 => ?_⟩
      have z5 := pot_ne (P17.ex2 X8) n5
      have X9 := X8.trans (ex_new (o := .lst ((as.map V.ref).take dn ++ [y] ++ (as.map V.ref).drop dn)) n5)
      have h5 : upd (upd H7 l4 (.lst ((as.map V.ref).drop dn))) l5 (.lst ((as.map V.ref).take dn ++ [y] ++ (as.map V.ref).drop dn)) l5 = some (.lst ((as.map V.ref).take dn ++ [y] ++ (as.map V.ref).drop dn)) := upd_same
      generalize upd (upd H7 l4 (.lst ((as.map V.ref).drop dn))) l5 (.lst ((as.map V.ref).take dn ++ [y] ++ (as.map V.ref).drop dn)) = H9 at X9 h5 ⊢
      refine ⟨_, rfl, _, rfl, by show 3 ≤ sizeLine; decide, fun L nL => ?_⟩
      have X10 := ex_new (o := .lst [.ref l5, .int (m : Nat), .int (s_ : Nat)]) nL
      have X510 := (X7.trans X9).trans X10
      have P9 := P17.ex2 X9
      have Pf := P9.ex2 X10
      obtain ⟨t, ty, k⟩ := hy
      refine q L _ _ _ _ upd_same (pot_ne P9 nL) (.inr (.inl ⟨l5, _, rfl, X10 _ _ h5, z5, by simp only [List.length_append, List.length_take, List.length_drop, List.length_map, List.length_cons, List.length_nil]; omega, fun z hz => ?_, y, by simp, t, tyX_mono X510 ty, k⟩)) Pf
      have short : z ∈ as.map V.ref → (∃ t b, TyX K (upd H9 L (.lst [.ref l5, .int (m : Nat), .int (s_ : Nat)])) z t ∧ PySem.W.kitOne K t (.ref (He.ga K "Short")) = some b) ∧ z ≠ .ref p ∧ selfV z = true := fun hz => by
        obtain ⟨a, ha, rfl⟩ := List.mem_map.mp hz
        obtain ⟨i, hi⟩ := List.mem_iff_getElem?.mp ha
        obtain ⟨t', ht', hSt⟩ := (onS Pf).get hi
        exact ⟨sh_ty T hSt, ne_ref (sh_nep hSt Pf.1), rfl⟩
      rcases List.mem_append.mp hz with hz | hz
      · rcases List.mem_append.mp hz with hz | hz
        · exact short (List.mem_of_mem_take hz)
        · rw [List.mem_singleton.mp hz]
          exact ⟨⟨t, false, tyX_mono X510 ty, k⟩, yne, yself⟩
      · exact short (List.mem_of_mem_drop hz)
    refine ⟨_, rfl, rfl, _, rfl, ite2 (fun c => ?_) (fun c2 => ?_)⟩
    · have hw2 := tup_on hp P2 _ _ hw
      have hB2 := hB.keep (tup_on hp P2)
      refine ⟨_, rfl, _, rfl, p, r, bs, ts, rfl, hp2, hw2, hB2, h0, hok, hn, by omega, hlm, hb, fun L bs' ts' H3 hL Lp hB' hok' hn' hl' hri' P3 => ?_⟩
      have hlB' := hB'.len
      have P13 := P2.trans P3
      refine ⟨L, rfl, ⟨_, sq_lst hL⟩, fun D nD => lc_any (L2.walk_list (K := K) (a := L) (xs := bs'.map V.ref)) (fun i acc G => Ex H3 G ∧ (G D = none ∨ ∃ xs, G D = some (.lst xs)) ∧ ∃ as, acc = as.map V.ref ∧ ShsAt K G (ts'.take i) as) (fun i acc G z e => ?_) ⟨.refl _, .inl nD, [], rfl, by unfold ShsAt; rfl⟩ (by rw [List.length_map]; omega) (fun i acc G e => ?_) (fun i acc G e => sq_lst (e.1 _ _ hL)) (fun i x G G' acc N hi e hA la y k _ => ?_) (fun acc G e hD => ?_)⟩
      · obtain ⟨e1, e2, as, e3, e4⟩ := e
        refine ⟨ex_mut e1 nD, .inr ⟨z, upd_same⟩, as, e3, e4.oth ((Oth.refl D G).upd) fun ob h => ?_⟩
        rcases e2 with h2 | ⟨xs, h2⟩
        · rw [h2] at h
          cases h
        · rw [h2] at h
          cases h
          exact ⟨xs, rfl⟩
      · obtain ⟨_, _, as, rfl, h1⟩ := e
        rw [List.length_map, h1.len, List.length_take]
        omega
      · obtain ⟨rfl, y⟩ := y
        obtain ⟨XG, _, as, rfl, h1⟩ := e
        rw [List.getElem?_map] at y
        obtain ⟨c, hc, rfl⟩ := Option.map_eq_some_iff.mp y
        obtain ⟨t, ht, hDt⟩ := hB'.get hc
        have htm := List.mem_of_getElem? ht
        have nm := nestL_mem htm
        refine ⟨rfl, _, rfl, c, t, rfl, hDt.mono XG, by omega, by omega, okL_mem hok' htm, fun a2 G2 X2 na2 hS2 => ⟨_, X2 _ _ hA, la, ?_⟩⟩
        refine k _ G2 (X2 _ _ hA) ⟨XG.trans X2, .inr ⟨_, X2 _ _ hA⟩, as ++ [a2], by rw [List.map_append]; rfl, ?_⟩
        rw [take_snoc ht]
        exact (h1.mono X2).snoc hS2
      obtain ⟨XG, _, as', rfl, hSh⟩ := e
      rw [List.length_map, hlB', List.take_length] at hSh
      have PG := P13.ex2 XG
      refine ⟨_, rfl, _, rfl, by show 3 ≤ sizeLine; decide, fun L2 nL2 => ?_⟩
      have X4 := ex_new (o := .lst [.ref D, .int (m : Nat), .int (s_ : Nat)]) nL2
      refine q L2 _ _ _ _ upd_same (pot_ne PG nL2) (.inr (.inr ⟨D, as', ts', rfl, .inl (X4 _ _ hD), pot_ne P13 nD, hSh.mono X4, by omega, hok', by omega, cl_int _, cl_int _, (fun z => nomatch z), (fun z => nomatch z), ?_, fun _ => ?_⟩)) (PG.ex2 X4)
      · unfold ovB
        rw [hri']
        rfl
      · unfold sprB
        rw [hri']
        rfl
    refine ⟨_, rfl, rfl, _, rfl, ite2 (fun c => ?_) (fun c3 => ?_)⟩
    · have hway : way = 3 := by
        have := of_decide_eq_true c
        injection this
      have P0 := P2
      refine ⟨_, rfl, by show 1 ≤ sizeLine; decide, fun a1 n1 => ?_⟩
      have Y1 := ex_new (o := .tup [.int 2]) n1
      have h1 : upd H2 a1 (.tup [.int 2]) a1 = some (.tup [.int 2]) := upd_same
      have z1 := pot_ne P0 n1
      have P1 := P0.ex2 Y1
      generalize upd H2 a1 (.tup [.int 2]) = G1 at Y1 h1 P1  ⊢
      refine ⟨by show 1 ≤ sizeLine; decide, fun a2 n2 => ?_⟩
      have Y2 := ex_new (o := .lst [.int 2]) n2
      have h2 : upd G1 a2 (.lst [.int 2]) a2 = some (.lst [.int 2]) := upd_same
      have z2 := pot_ne P1 n2
      have P2 := P1.ex2 Y2
      have h1 := Y2 _ _ h1
      generalize upd G1 a2 (.lst [.int 2]) = G2 at Y2 h2 P2 h1 ⊢
      refine ⟨_, rfl, _, rfl, p, rfl, P2.1, fun w3 W3 hw3 Q3 => ?_⟩
      have h1 := Q3.2 _ _ z1 h1
      have h2 := Q3.2 _ _ z2 h2
      have PP3 := P2.trans Q3
      refine ⟨_, _, rfl, rfl, ?_⟩
      refine fun a4 d4 nx4 nd4 ne4 => at_new (n := 2) nx4 nd4 ne4 fun G4 Y4 A4 => ⟨rfl, ?_⟩
      have z4 := pot_ne PP3 nx4
      have P4 := PP3.ex2 Y4
      have h1 := Y4 _ _ h1
      have h2 := Y4 _ _ h2
      obtain ⟨dx4, h4⟩ := A4
      refine fun a5 n5 => ?_
      have Y5 := ex_new (o := .dK []) n5
      have h5 : upd G4 a5 (.dK []) a5 = some (.dK []) := upd_same
      have z5 := pot_ne P4 n5
      have P5 := P4.ex2 Y5
      have h1 := Y5 _ _ h1
      have h2 := Y5 _ _ h2
      have h4 := Y5 _ _ h4
      generalize upd G4 a5 (.dK []) = G5 at Y5 h5 P5 h1 h2 h4 ⊢
      refine ⟨by show 11 ≤ sizeLine; decide, fun L nL => ?_⟩
      have YL := ex_new (o := .lst [.int 1, .int 0, .int (-1), .bl true, .non, .str "2", .ref a1, .ref a2, .int (-1 - ((w3 : Nat) : Int)), .ref a4, .ref a5]) nL
      have hL : upd G5 L (.lst [.int 1, .int 0, .int (-1), .bl true, .non, .str "2", .ref a1, .ref a2, .int (-1 - ((w3 : Nat) : Int)), .ref a4, .ref a5]) L = some (.lst [.int 1, .int 0, .int (-1), .bl true, .non, .str "2", .ref a1, .ref a2, .int (-1 - ((w3 : Nat) : Int)), .ref a4, .ref a5]) := upd_same
      have zL := pot_ne P5 nL
      have PL := P5.ex2 YL
      have h1 := YL _ _ h1
      have h2 := YL _ _ h2
      have h4 := YL _ _ h4
      have h5 := YL _ _ h5
      generalize upd G5 L (.lst [.int 1, .int 0, .int (-1), .bl true, .non, .str "2", .ref a1, .ref a2, .int (-1 - ((w3 : Nat) : Int)), .ref a4, .ref a5]) = GL at YL hL PL h1 h2 h4 h5 ⊢
      refine ⟨_, rfl, _, rfl, _, rfl, _, rfl, _, _, rfl, .inl ⟨_, sq_lst hL, rfl⟩, p, _, rfl, PL.1, by show (0 : Int) < 11; decide, by show (11 : Nat) < 10 ^ 200; decide +kernel, fun d HD d0 d1 PD => ?_⟩
      obtain ⟨x, hx, ex⟩ := at_mem (xs := [.int 1, .int 0, .int (-1), .bl true, .non, .str "2", .ref a1, .ref a2, .int (-1 - ((w3 : Nat) : Int)), .ref a4, .ref a5]) d0 (by show d < 11; exact d1)
      have h1 := PD.2 _ _ z1 h1
      have h2 := PD.2 _ _ z2 h2
      have h4 := PD.2 _ _ z4 h4
      have h5 := PD.2 _ _ z5 h5
      have PQ := PL.trans PD
      refine ⟨L, _, _, x, rfl, rfl, sq_lst (PD.2 _ _ zL hL), ex, ?_⟩
      clear ex hL
      have hxx : Cl K HD x ∧ isN 2 x = false ∧ x ≠ .ref p := by
        simp only [List.mem_cons, List.not_mem_nil, or_false] at hx
        rcases hx with rfl | rfl | rfl | rfl | rfl | rfl | rfl | rfl | rfl | rfl | rfl
        · exact ⟨cl_int _, rfl, fun z => nomatch z⟩
        · exact ⟨cl_int _, rfl, fun z => nomatch z⟩
        · exact ⟨cl_int _, rfl, fun z => nomatch z⟩
        · exact ⟨cl_bl _, rfl, fun z => nomatch z⟩
        · exact ⟨cl_non, rfl, fun z => nomatch z⟩
        · exact ⟨cl_str _, rfl, fun z => nomatch z⟩
        · exact ⟨cl_tup h1, rfl, ne_ref z1⟩
        · exact ⟨cl_lst h2, rfl, ne_ref z2⟩
        · exact ⟨cl_int _, (by show (true && decide ((2 : Int) ≤ -1 - ((w3 : Nat) : Int))) = false; rw [decide_eq_false (by omega)]; rfl), fun z => nomatch z⟩
        · exact ⟨cl_ins T.i_At T.c_At T.kit_At_int T.kit_At_bool h4, rfl, ne_ref z4⟩
        · exact ⟨cl_dK h5, rfl, ne_ref z5⟩
      obtain ⟨xcl, xno, xne⟩ := hxx
      refine ⟨_, rfl, by show 3 ≤ sizeLine; decide, fun L2 nL2 => ?_⟩
      have X4 := ex_new (o := .lst [.ref A, x, .int (s_ : Nat)]) nL2
      have Pf := PQ.ex2 X4
      exact q L2 _ _ _ _ upd_same (pot_ne PQ nL2) (.inr (.inr ⟨A, as, ts, rfl, .inl (onA Pf), Ap, onS Pf, by omega, hok, by omega, xcl.mono X4, cl_int _, xne, (fun z => nomatch z), ovB_noM xno, fun z => by omega⟩)) Pf
    refine ⟨_, rfl, rfl, _, rfl, ite2 (fun c => ?_) (fun c4 => ?_)⟩
    · have hway : way = 4 := by
        have := of_decide_eq_true c
        injection this
      have c5 : ((spn : Nat) : Int) + 2 = ((spn + 2 : Nat) : Int) := by omega
      refine ⟨_, rfl, _, rfl, _, rfl, _, rfl, _, rfl, _, _, rfl, rfl, by show 3 ≤ sizeLine; decide, fun u nu => ?_⟩
      have up := pot_ne P2 nu
      have X3 := ex_new (o := .lst [.int 1, .int 3, .int (((spn : Nat) : Int) + 2)]) nu
      have P3 := P2.ex2 X3
      have hp3 := P3.1
      have hu3 : upd H2 u (.lst [.int 1, .int 3, .int (((spn : Nat) : Int) + 2)]) u = some (.lst [.int 1, .int 3, .int (((spn : Nat) : Int) + 2)]) := upd_same
      generalize upd H2 u (.lst [.int 1, .int 3, .int (((spn : Nat) : Int) + 2)]) = H3 at X3 P3 hp3 hu3 ⊢
      refine ⟨_, rfl, p, 3, rfl, hp3, by decide, by decide, fun e H4 e0 e1 P4 => ?_⟩
      have hp4 := P4.1
      obtain ⟨x, hx, ex⟩ := at_mem (xs := [V.int 1, .int 3, .int (((spn : Nat) : Int) + 2)]) e0 (by show e < 3; exact e1)
      obtain ⟨mx, rfl, hmx⟩ : ∃ m : Nat, x = .int (m : Nat) ∧ 1 ≤ m ∧ m < 10 ^ 100 := by
        have big : (10 : Nat) ^ 80 + 2 < 10 ^ 100 := by decide +kernel
        simp only [List.mem_cons, List.not_mem_nil, or_false] at hx
        rcases hx with rfl | rfl | rfl
        · exact ⟨1, rfl, by omega, by omega⟩
        · exact ⟨3, rfl, by omega, by omega⟩
        · exact ⟨spn + 2, by rw [c5], by omega, by omega⟩
      have mxb : ((mx : Nat) : Int).toNat < 10 ^ 200 := Nat.lt_trans hmx.2 (by decide +kernel)
      refine ⟨u, _, _, _, rfl, rfl, sq_lst (P4.2 _ _ up hu3), ex, p, _, rfl, hp4, by omega, mxb, fun f H5 f0 f1 P5 => ?_⟩
      have PQ := (P3.trans P4).trans P5
      refine ⟨_, _, rfl, rfl, by show 3 ≤ sizeLine; decide, fun L2 nL2 => ?_⟩
      have X4 := ex_new (o := .lst [.ref A, .int (m : Nat), .int (((spn : Nat) : Int) - f)]) nL2
      have Pf := PQ.ex2 X4
      refine q L2 _ _ _ _ upd_same (pot_ne PQ nL2) (.inr (.inr ⟨A, as, ts, rfl, .inl (onA Pf), Ap, onS Pf, by omega, hok, by omega, cl_int _, cl_int _, (fun z => nomatch z), (fun z => nomatch z), ?_, fun z => by omega⟩)) Pf
      unfold ovB
      dsimp only
      rw [decide_eq_false (show ¬ (((momsL ts).getLastD 0 : Nat) : Int) < ((spn : Nat) : Int) - f + (((momsL ts).headD 0 : Nat) : Int) by omega)]
      simp
    refine ⟨_, rfl, rfl, _, rfl, ite2 (fun c => ?_) (fun c5 => ?_)⟩
    · have hway : way = 5 := by
        have := of_decide_eq_true c
        injection this
      have P0 := P2
      refine ⟨_, rfl, by show 1 ≤ sizeLine; decide, fun a1 n1 => ?_⟩
      have Y1 := ex_new (o := .tup [.int 60]) n1
      have h1 : upd H2 a1 (.tup [.int 60]) a1 = some (.tup [.int 60]) := upd_same
      have z1 := pot_ne P0 n1
      have P1 := P0.ex2 Y1
      generalize upd H2 a1 (.tup [.int 60]) = G1 at Y1 h1 P1  ⊢
      refine ⟨by show 1 ≤ sizeLine; decide, fun a2 n2 => ?_⟩
      have Y2 := ex_new (o := .lst [.int 60]) n2
      have h2 : upd G1 a2 (.lst [.int 60]) a2 = some (.lst [.int 60]) := upd_same
      have z2 := pot_ne P1 n2
      have P2 := P1.ex2 Y2
      have h1 := Y2 _ _ h1
      generalize upd G1 a2 (.lst [.int 60]) = G2 at Y2 h2 P2 h1 ⊢
      refine fun a3 n3 => ?_
      have Y3 := ex_new (o := .dK []) n3
      have h3 : upd G2 a3 (.dK []) a3 = some (.dK []) := upd_same
      have z3 := pot_ne P2 n3
      have P3 := P2.ex2 Y3
      have h1 := Y3 _ _ h1
      have h2 := Y3 _ _ h2
      generalize upd G2 a3 (.dK []) = G3 at Y3 h3 P3 h1 h2 ⊢
      refine ⟨_, rfl, _, rfl, p, rfl, P3.1, fun w4 W4 hw4 Q4 => ?_⟩
      have h1 := Q4.2 _ _ z1 h1
      have h2 := Q4.2 _ _ z2 h2
      have h3 := Q4.2 _ _ z3 h3
      have PP4 := P3.trans Q4
      refine ⟨_, _, rfl, rfl, ?_⟩
      refine fun a5 d5 nx5 nd5 ne5 => at_new (n := 60) nx5 nd5 ne5 fun G5 Y5 A5 => ⟨rfl, ?_⟩
      have z5 := pot_ne PP4 nx5
      have P5 := PP4.ex2 Y5
      have h1 := Y5 _ _ h1
      have h2 := Y5 _ _ h2
      have h3 := Y5 _ _ h3
      obtain ⟨dx5, h5⟩ := A5
      refine ⟨by show 11 ≤ sizeLine; decide, fun L nL => ?_⟩
      have YL := ex_new (o := .lst [.int 0, .int (-1), .bl true, .non, .str "60", .str "", .ref a1, .ref a2, .ref a3, .int (-1 - ((w4 : Nat) : Int)), .ref a5]) nL
      have hL : upd G5 L (.lst [.int 0, .int (-1), .bl true, .non, .str "60", .str "", .ref a1, .ref a2, .ref a3, .int (-1 - ((w4 : Nat) : Int)), .ref a5]) L = some (.lst [.int 0, .int (-1), .bl true, .non, .str "60", .str "", .ref a1, .ref a2, .ref a3, .int (-1 - ((w4 : Nat) : Int)), .ref a5]) := upd_same
      have zL := pot_ne P5 nL
      have PL := P5.ex2 YL
      have h1 := YL _ _ h1
      have h2 := YL _ _ h2
      have h3 := YL _ _ h3
      have h5 := YL _ _ h5
      generalize upd G5 L (.lst [.int 0, .int (-1), .bl true, .non, .str "60", .str "", .ref a1, .ref a2, .ref a3, .int (-1 - ((w4 : Nat) : Int)), .ref a5]) = GL at YL hL PL h1 h2 h3 h5 ⊢
      refine ⟨_, rfl, _, rfl, _, rfl, _, rfl, _, rfl, _, _, rfl, .inl ⟨_, sq_lst hL, rfl⟩, p, _, rfl, PL.1, by show (0 : Int) < 11; decide, by show (11 : Nat) < 10 ^ 200; decide +kernel, fun d HD d0 d1 PD => ?_⟩
      obtain ⟨x, hx, ex⟩ := at_mem (xs := [.int 0, .int (-1), .bl true, .non, .str "60", .str "", .ref a1, .ref a2, .ref a3, .int (-1 - ((w4 : Nat) : Int)), .ref a5]) d0 (by show d < 11; exact d1)
      have h1 := PD.2 _ _ z1 h1
      have h2 := PD.2 _ _ z2 h2
      have h3 := PD.2 _ _ z3 h3
      have h5 := PD.2 _ _ z5 h5
      have PQ := PL.trans PD
      refine ⟨L, _, _, x, rfl, rfl, sq_lst (PD.2 _ _ zL hL), ex, ?_⟩
      clear ex hL
      have hxx : Cl K HD x ∧ isN 1 x = false ∧ x ≠ .ref p := by
        simp only [List.mem_cons, List.not_mem_nil, or_false] at hx
        rcases hx with rfl | rfl | rfl | rfl | rfl | rfl | rfl | rfl | rfl | rfl | rfl
        · exact ⟨cl_int _, rfl, fun z => nomatch z⟩
        · exact ⟨cl_int _, rfl, fun z => nomatch z⟩
        · exact ⟨cl_bl _, rfl, fun z => nomatch z⟩
        · exact ⟨cl_non, rfl, fun z => nomatch z⟩
        · exact ⟨cl_str _, rfl, fun z => nomatch z⟩
        · exact ⟨cl_str _, rfl, fun z => nomatch z⟩
        · exact ⟨cl_tup h1, rfl, ne_ref z1⟩
        · exact ⟨cl_lst h2, rfl, ne_ref z2⟩
        · exact ⟨cl_dK h3, rfl, ne_ref z3⟩
        · exact ⟨cl_int _, (by show (true && decide ((1 : Int) ≤ -1 - ((w4 : Nat) : Int))) = false; rw [decide_eq_false (by omega)]; rfl), fun z => nomatch z⟩
        · exact ⟨cl_ins T.i_At T.c_At T.kit_At_int T.kit_At_bool h5, rfl, ne_ref z5⟩
      obtain ⟨xcl, xno, xne⟩ := hxx
      refine ⟨by show 3 ≤ sizeLine; decide, fun L2 nL2 => ?_⟩
      have X4 := ex_new (o := .lst [.ref A, .int (m : Nat), x]) nL2
      have Pf := PQ.ex2 X4
      exact q L2 _ _ _ _ upd_same (pot_ne PQ nL2) (.inr (.inr ⟨A, as, ts, rfl, .inl (onA Pf), Ap, onS Pf, by omega, hok, by omega, cl_int _, xcl.mono X4, (fun z => nomatch z), xne, ovB_noS xno, fun z => by omega⟩)) Pf
    have hway : ¬ way < 3 := by
      have k0 : way ≠ 0 := fun z => c0 (by rw [z]; rfl)
      have k1 : way ≠ 1 := fun z => c1 (by rw [z]; rfl)
      have k2 : way ≠ 2 := fun z => c2 (by rw [z]; rfl)
      omega
    refine ⟨by show 0 ≤ sizeLine; decide, fun l1 n1 => ⟨by show 0 ≤ sizeLine; decide, fun l2 n2 => ⟨by show 2 ≤ sizeLine; decide, fun l3 n3 => ?_⟩⟩⟩
    have X3 := ex_new (o := .lst []) n1
    have X4 := ex_new (o := .tup []) n2
    have X5 := ex_new (o := .lst [.ref l1, .ref l2]) n3
    have z1 := pot_ne P2 n1
    have z2 := pot_ne (P2.ex2 X3) n2
    have z3 := pot_ne ((P2.ex2 X3).ex2 X4) n3
    have h1 : upd (upd (upd H2 l1 (.lst [])) l2 (.tup [])) l3 (.lst [.ref l1, .ref l2]) l1 = some (.lst []) := X5 _ _ (X4 _ _ upd_same)
    have h2 : upd (upd (upd H2 l1 (.lst [])) l2 (.tup [])) l3 (.lst [.ref l1, .ref l2]) l2 = some (.tup []) := X5 _ _ upd_same
    have h3 : upd (upd (upd H2 l1 (.lst [])) l2 (.tup [])) l3 (.lst [.ref l1, .ref l2]) l3 = some (.lst [.ref l1, .ref l2]) := upd_same
    have P5 := P2.ex2 (X3.trans (X4.trans X5))
    generalize upd (upd (upd H2 l1 (.lst [])) l2 (.tup [])) l3 (.lst [.ref l1, .ref l2]) = H5 at h1 h2 h3 P5 ⊢
    refine ⟨_, rfl, p, 2, rfl, P5.1, by decide, by decide, fun e H6 e0 e1 P6 => ?_⟩
    obtain ⟨x, hx, ex⟩ := at_mem (xs := [V.ref l1, .ref l2]) e0 (by show e < 2; exact e1)
    have PQ := P5.trans P6
    have hxx : ∃ q0, x = .ref q0 ∧ q0 ≠ p ∧ SqA H6 q0 [] := by
      simp only [List.mem_cons, List.not_mem_nil, or_false] at hx
      rcases hx with rfl | rfl
      · exact ⟨l1, rfl, z1, .inl (P6.2 _ _ z1 h1)⟩
      · exact ⟨l2, rfl, z2, .inr (P6.2 _ _ z2 h2)⟩
    obtain ⟨q0, rfl, zq, hq⟩ := hxx
    refine ⟨l3, _, _, _, rfl, rfl, sq_lst (P6.2 _ _ z3 h3), ex, _, rfl, _, rfl, by show 3 ≤ sizeLine; decide, fun L2 nL2 => ?_⟩
    have X7 := ex_new (o := .lst [.ref q0, .int (m : Nat), .int (s_ : Nat)]) nL2
    have Pf := PQ.ex2 X7
    refine q L2 _ _ _ _ upd_same (pot_ne PQ nL2) (.inr (.inr ⟨q0, [], [], rfl, hq.mono X7, zq, shs_nil, by simp [nestL], by simp [okL_], by simp, cl_int _, cl_int _, (fun z => nomatch z), (fun z => nomatch z), ?_, fun z => absurd z hway⟩)) Pf
    unfold ovB
    simp
theorem ok__law_bent {P : Program} {w : World} {K : PySem.W.Frag} {mg : Str → Option Value} {base : Heap} (T : Env K mg) : Fc P w K mg base 100 (He.ga K "_law_bent") [] (sp__law_bent K ) := by
  obtain ⟨fd, D, F⟩ := fb__law_bent T
  exact F.all (D.bindsN fun _ _ _ _ _ _ us hl => match us, hl with | [_, _, _, _, _, _], _ => rfl)
end
section
theorem bad_cases {K : PySem.W.Frag} {mg : Str → Option Value} (T : Env K mg) {H : Hp} {p : Addr} {way : Int} {x xm xt : V} (hp : Pot H p) (h : BadArgs K H p way x xm xt) : ∃ (b : Bool) (q : Addr) (xs : List V) (t : Value), TyX K H x t ∧ PySem.W.kitOne K t (.type "list") = some b ∧
    (b = false → ∀ H', Ex H H' → WordOf K H' 1 [x, xm, xt] false ∧ (way < 3 → WordOf K H' 2 [x] false)) ∧
    (b = true → x = .ref q ∧ H q = some (.lst xs) ∧ q ≠ p ∧ xs.all selfV = true ∧ xs.length ≤ 200 ∧ ∀ H' q', PotOn H H' p → SqA H' q' xs → WordOf K H' 1 [.ref q', xm, xt] false ∧ (way < 3 → WordOf K H' 2 [.ref q'] false)) := by
  rcases h with ⟨t, ty, k1, k2⟩ | ⟨q, xs, rfl, hq, qp, hl, hall, y, hy, t, ty, k⟩ | ⟨q, as, ts, rfl, hq, qp, hS, hn, hok, hl, cm, ct, nm, nt, hov, hsp⟩
  · refine ⟨false, 0, [], t, ty, k1, fun _ H' e => ⟨?_, fun _ => ?_⟩, fun z => by cases z⟩
    · exact .inr (.inr (.inr (.inl ⟨rfl, _, _, _, rfl, .inl ⟨t, tyX_mono e ty, k1, k2⟩, rfl⟩)))
    · exact .inr (.inr (.inr (.inr ⟨rfl, _, rfl, .inl ⟨t, tyX_mono e ty, k1, k2⟩, rfl⟩)))
  · refine ⟨true, q, xs, _, .base (.lst hq), kit_ty (by decide +kernel), (fun z => by cases z), fun _ => ⟨rfl, hq, qp, List.all_eq_true.mpr fun y hy => (hall y hy).2.2, by omega, fun H' q' P sq => ?_⟩⟩
    have nop : NoParts K H' (.ref q') := .inr ⟨q', xs, rfl, sq, hl, fun y hy => by
      obtain ⟨⟨t, b, g1, g2⟩, g3, _⟩ := hall y hy
      exact ⟨t, b, tyX_at (stays_on P g3) g1, g2⟩, y, hy, t, tyX_at (stays_on P (hall y hy).2.1) ty, k⟩
    exact ⟨.inr (.inr (.inr (.inl ⟨rfl, _, _, _, rfl, nop, rfl⟩))), fun _ => .inr (.inr (.inr (.inr ⟨rfl, _, rfl, nop, rfl⟩)))⟩
  · have words : ∀ H' q', ShsAt K H' ts as → Cl K H' xm → Cl K H' xt → SqA H' q' (as.map V.ref) → WordOf K H' 1 [.ref q', xm, xt] false ∧ (way < 3 → WordOf K H' 2 [.ref q'] false) := fun H' q' s1 s2 s3 s4 => ⟨.inr (.inl ⟨rfl, q', as, ts, _, _, rfl, s4, s1, hn, hok, by omega, s2, s3, hov.symm⟩), fun z => .inr (.inr (.inl ⟨rfl, q', as, ts, rfl, s4, s1, hn, hok, by omega, (hsp z).symm⟩))⟩
    rcases hq with hq | hq
    · refine ⟨true, q, as.map V.ref, _, .base (.lst hq), kit_ty (by decide +kernel), (fun z => by cases z), fun _ => ⟨rfl, hq, qp, ?_, by rw [List.length_map, hS.len]; exact hl, fun H' q' P sq => words H' q' (shs_on hp P hS) (cm.at (stays_on P nm)) (ct.at (stays_on P nt)) sq⟩⟩
      refine List.all_eq_true.mpr fun y hy => ?_
      obtain ⟨a, _, rfl⟩ := List.mem_map.mp hy
      rfl
    · exact ⟨false, 0, [], _, .base (.tup hq), kit_ty (by decide +kernel), fun _ H' e => words H' q (hS.mono e) (cm.mono e) (ct.mono e) (.inr (e _ _ hq)), fun z => by cases z⟩
def sp__law_right (K : PySem.W.Frag) : Sp := fun vs H Q _ => ∃ p, vs = [.ref p] ∧ Pot H p ∧ ∀ H', PotOn H H' p → Q (.bl true) H'
theorem fb__law_right {P : Program} {w : World} {K : PySem.W.Frag} {mg : Str → Option Value} {base : Heap} (T : Env K mg) : ∃ fd, FunD K "_law_right" "_law_right" (defArgs s__law_right) (defBody s__law_right) (defScope s__law_right) [] [] (He.ga K "_law_right") fd ∧ Fb P w K mg base 125 (He.ga K "_law_right") fd ["_law_pot_here"] (sp__law_right K) := by
  obtain ⟨fd, F⟩ := T.f__law_right
  refine ⟨fd, F, fb_of F sc__law_right (fun vs H Q E h => ?_) (fun cdv A outer s H vs Q E hr h => ?_)⟩
  · obtain ⟨p, rfl, _⟩ := h
    rfl
  · obtain ⟨p, rfl, hp, q⟩ := h
    refine ⟨_, (pss_cons (ps_set (i := 1) sc__law_right.nd rfl (Or.inl rfl) (c_call (ok__law_draw T) (hr.mono (by decide)) T.g__law_draw T.k__law_draw takes0 (pa_cons (pv 0) (pa_cons pe_int pa_nil))))
      (pss_cons (ps_set (i := 2) sc__law_right.nd rfl (Or.inl rfl) (c_call (ok__law_row T (Nat.le_add_right 60 _) (all__law_short T 9)) (hr.mono (by decide)) T.g__law_row T.k__law_row takes0 (pa_cons (pv 0) (pa_cons (c_call (ok__law_gap T) (hr.mono (by decide)) T.g__law_gap T.k__law_gap takes0 (pa_cons (pv 0) pa_nil)) (pa_cons pe_int (pa_cons pe_int (pa_cons (pe_lst (pa_cons pe_int pa_nil)) pa_nil)))))))
      (pss_cons (ps_set (i := 3) sc__law_right.nd rfl (Or.inl rfl) (c_call (ok__law_row_moments T (Nat.le_add_right 40 _) (all__law_moments T 9)) (hr.mono (by decide)) T.g__law_row_moments T.k__law_row_moments takes0 (pa_cons (pv 2) pa_nil)))
      (pss_cons (ps_setLc (i := 4) (own := [("_law_short_here", 8)]) (by rfl) sc__law_right.nd rfl rfl (sw_true rfl rfl rfl (by decide +kernel)) (pi_tup (pv 2)) (blkOk_by (own := [("_law_short_here", 8)]) (N := ["_law_pot_here", "_law_way", "_law_row_here", "_law_moments_here", "_law_parts", "_law_good", "_law_bad", "_law_handed", "_law_short_here"]) (sc := defScope s__law_right) (by decide +kernel)) (fun _ _ _ _ _ => (pg_name (i := 8) sc__law_right.nd rfl (Or.inl rfl))) (fun _ _ _ _ _ => pts_nil) (fun _ _ _ _ _ => (c_call (all__law_made T 9) (hr.mono (by decide)) T.g__law_made T.k__law_made takes0 (pa_cons (pv 8) pa_nil))))
      (pss_cons (ps_set (i := 5) sc__law_right.nd rfl (Or.inl rfl) (pe_lst (pa_cons (pv 4) (pa_cons (pe_op op_add pe_int (c_call (ok__law_draw T) (hr.mono (by decide)) T.g__law_draw T.k__law_draw takes0 (pa_cons (pv 0) (pa_cons pe_int pa_nil)))) (pa_cons (pe_op op_add (pe_op op_add (pe_op op_sub (pe_ix ix_list (pv 3) (pe_un un_neg pe_int) (fun _ _ => rfl)) (pe_ix ix_list (pv 3) pe_int (fun _ _ => rfl))) pe_int) (c_call (ok__law_gap T) (hr.mono (by decide)) T.g__law_gap T.k__law_gap takes0 (pa_cons (pv 0) pa_nil))) pa_nil)))))
      (pss_cons (ps_if (PW.pt (pw_or (pt_cmpR (op_neD hr.rm.units) (c_call (ok__law_word_of T) (hr.mono (by decide)) T.g__law_word_of T.k__law_word_of takes0 (pa_cons pe_int (pa_cons (pv 5) pa_nil))) (pe_lst (pa_cons pe_str pa_nil)) (nomark _)) (pw_or1 (pt_cmpR (op_neD hr.rm.units) (c_call (ok__law_word_of T) (hr.mono (by decide)) T.g__law_word_of T.k__law_word_of takes0 (pa_cons pe_int (pa_cons (pe_lst (pa_cons (pv 4) pa_nil)) pa_nil))) (pe_lst (pa_cons pe_str pa_nil)) (nomark _)))))
      (pss_one (ps_ret pe_bl))
      pss_nil)
      (pss_cons (ps_if (PW.pt (pw_or (pt_not (pt_val (c_call (ok__law_is_refused T) (hr.mono (by decide)) T.g__law_is_refused T.k__law_is_refused takes0 (pa_cons pe_int (pa_cons (pe_lst (pa_cons (c_call (ok__law_odd T) (hr.mono (by decide)) T.g__law_odd T.k__law_odd takes0 (pa_cons (pv 0) pa_nil)) pa_nil)) pa_nil))))) (pw_or1 (pt_cmpR (op_neD hr.rm.units) (c_call (ok__law_word_of T) (hr.mono (by decide)) T.g__law_word_of T.k__law_word_of takes0 (pa_cons pe_int (pa_cons (pe_lst (pa_cons (pe_ix ix_list (pv 3) pe_int (fun _ _ => rfl)) pa_nil)) pa_nil))) (pe_lst (pa_cons pe_str pa_nil)) (nomark _)))))
      (pss_one (ps_ret pe_bl))
      pss_nil)
      (pss_cons (ps_set (i := 6) sc__law_right.nd rfl (Or.inl rfl) (c_call (ok__law_bent T) (hr.mono (by decide)) T.g__law_bent T.k__law_bent takes0 (pa_cons (pv 0) (pa_cons (pv 1) (pa_cons (pv 4) (pa_cons (pv 2) (pa_cons (pe_ix ix_list (pv 5) pe_int (fun _ _ => rfl)) (pa_cons (pe_ix ix_list (pv 5) pe_int (fun _ _ => rfl)) pa_nil))))))))
      (pss_cons (ps_set (i := 7) sc__law_right.nd rfl (Or.inl rfl) (pe_callTy call_list_of (by rfl) T.n_list (by decide +kernel) (pa_cons (pv 6) pa_nil)))
      (Evl.pss_cut (ps_if (pt_val (pe_callB call_isi (by rfl) T.n_isinstance (by decide +kernel) (pa_cons (pe_ix ix_list (pv 6) pe_int (fun _ _ => rfl)) (pa_cons (pe_bltn (v := .ty "list") (by rfl) T.n_list (by decide +kernel) rfl) pa_nil))))
      (pss_one (ps_asg (pe_callTy call_list_of (by rfl) T.n_list (by decide +kernel) (pa_cons (pe_ix ix_list (pv 6) pe_int (fun _ _ => rfl)) pa_nil)) (pg_sub (pv 7) pe_int set_list)))
      pss_nil)
      (Evl.pss_cut (ps_if (PW.pt (pw_and (pt_val (pe_callB call_isi (by rfl) T.n_isinstance (by decide +kernel) (pa_cons (pe_ix ix_list (pv 6) pe_int (fun _ _ => rfl)) (pa_cons (pe_bltn (v := .ty "list") (by rfl) T.n_list (by decide +kernel) rfl) pa_nil)))) (pw_and1 (pt_cmpR op_eq (c_call (ok__law_draw T) (hr.mono (by decide)) T.g__law_draw T.k__law_draw takes0 (pa_cons (pv 0) (pa_cons pe_int pa_nil))) pe_int (nomark _)))))
      (pss_one (ps_asg (pe_callTy call_tuple_of (by rfl) T.n_tuple (by decide +kernel) (pa_cons (pe_ix ix_list (pv 6) pe_int (fun _ _ => rfl)) pa_nil)) (pg_sub (pv 7) pe_int set_list)))
      pss_nil)
      (Evl.pss_cut (ps_if (PW.pt (pw_or (pt_not (pt_val (c_call (ok__law_is_refused T) (hr.mono (by decide)) T.g__law_is_refused T.k__law_is_refused takes0 (pa_cons pe_int (pa_cons (pv 7) pa_nil))))) (pw_or1 (PW.pt (pw_and (pt_cmpR op_lt (pv 1) pe_int (nomark _)) (pw_and1 (pt_not (pt_val (c_call (ok__law_is_refused T) (hr.mono (by decide)) T.g__law_is_refused T.k__law_is_refused takes0 (pa_cons pe_int (pa_cons (pe_slice sl_list (pv 7) po_none (po_some pe_int)) pa_nil)))))))))))
      (pss_one (ps_ret pe_bl))
      pss_nil)
      (Evl.pss_cut (ps_if (PW.pt (pw_and (pt_val (pe_callB call_isi (by rfl) T.n_isinstance (by decide +kernel) (pa_cons (pe_ix ix_list (pv 6) pe_int (fun _ _ => rfl)) (pa_cons (pe_bltn (v := .ty "list") (by rfl) T.n_list (by decide +kernel) rfl) pa_nil)))) (pw_and1 (pt_cmpR (op_neS hr.rm.units) (pe_callTy call_list_of (by rfl) T.n_list (by decide +kernel) (pa_cons (pe_ix ix_list (pv 7) pe_int (fun _ _ => rfl)) pa_nil)) (pe_ix ix_list (pv 6) pe_int (fun _ _ => rfl)) (nomark _)))))
      (pss_one (ps_ret pe_bl))
      pss_nil)
      (pss_one (ps_ret (pe_and (pe_cmpR (op_eqD hr.rm.units) (c_call (ok__law_word_of T) (hr.mono (by decide)) T.g__law_word_of T.k__law_word_of takes0 (pa_cons pe_int (pa_cons (pv 5) pa_nil))) (pe_lst (pa_cons pe_str pa_nil)) (nomark _)) (pe_one (pe_cmpR (op_eqD hr.rm.units) (c_call (ok__law_word_of T) (hr.mono (by decide)) T.g__law_word_of T.k__law_word_of takes0 (pa_cons pe_int (pa_cons (pe_lst (pa_cons (pv 4) pa_nil)) pa_nil))) (pe_lst (pa_cons pe_str pa_nil)) (nomark _))))))))))))))))))), ?_⟩
    refine ⟨_, rfl, p, 7, rfl, hp, by decide, by decide, fun way H1 w0 w7 P1 => ?_⟩
    have hp1 := P1.1
    refine ⟨_, rfl, _, rfl, p, rfl, hp1, fun g H2 hg P2 => ?_⟩
    have P12 := P1.trans P2
    refine ⟨by show 1 ≤ sizeLine; decide, fun l nl => ?_⟩
    have lp := pot_ne P12 nl
    have lH := P12.fresh nl
    have P3 := P12.ex2 (ex_new (o := .lst [.int 12]) nl)
    refine ⟨p, l, g, 24, 2, 12, rfl, P3.1, upd_same, lp, by decide, by decide, by decide, by decide, by decide, fun r bs ts k' H4 _ _ hw hB h0 hok hne hri hhd hlen hlast _ P4 => ?_⟩
    have P14 : PotOn H H4 p := ⟨P4.1, fun b o nb e => P4.2 _ _ nb (ne_of_none e lH) (P3.2 _ _ nb e)⟩
    have hn : nestL ts ≤ 2 := nestL_le hne
    have hb : ∀ n ∈ momsL ts, n < 10 ^ 80 := fun n hn => by
      have h1 := le_lastD (ris_sorted hok hri) n hn
      have h2 : (momsL ts).length * ((2 * 2 + 2) * GAP) ≤ 1440 * (18 * GAP) := Nat.mul_le_mul (by omega) (Nat.mul_le_mul_right _ (by omega))
      have h3 : (10 : Nat) ^ 50 + 1440 * (18 * GAP) < 10 ^ 80 := by decide +kernel
      omega
    have nn := momsL_ne hok h0
    have so := ris_sorted hok hri
    have hle := headD_le so _ (lastD_mem nn)
    have hts := len_moms hok
    have hlB := hB.len
    clear hlast P12 P3 P4 P2 P1 hp1 nl lH
    refine ⟨_, rfl, r, bs, ts, rfl, hw, hB, fun t ht => by have := nestL_mem ht; omega, hok, by omega, fun mo H5 X5 nmo hmo => ?_⟩
    have mop := pot_ne P14 nmo
    have P5 := P14.ex2 X5
    have hw5 := X5 _ _ hw
    have hB5 := hB.mono X5
    refine ⟨_, rfl, r, rfl, ⟨_, sq_tup hw5⟩, fun A nA => lc_any (L2.walk_tup (K := K) (a := r) (xs := bs.map V.ref)) (fun i acc G => Ex H5 G ∧ (G A = none ∨ ∃ xs, G A = some (.lst xs)) ∧ ∃ as, acc = as.map V.ref ∧ ShsAt K G (ts.take i) as) (fun i acc G z e => ?_) ⟨.refl _, .inl nA, [], rfl, by unfold ShsAt; rfl⟩ (by rw [List.length_map]; omega) (fun i acc G e => ?_) (fun i acc G e => sq_tup (e.1 _ _ hw5)) (fun i x G G' acc N hi e hA la y k _ => ?_) (fun acc G e hA => ?_)⟩
    · obtain ⟨e1, e2, as, e3, e4⟩ := e
      refine ⟨ex_mut e1 nA, .inr ⟨z, upd_same⟩, as, e3, e4.oth ((Oth.refl A G).upd) fun ob h => ?_⟩
      rcases e2 with h2 | ⟨xs, h2⟩
      · rw [h2] at h
        cases h
      · rw [h2] at h
        cases h
        exact ⟨xs, rfl⟩
    · obtain ⟨_, _, as, rfl, h1⟩ := e
      rw [List.length_map, h1.len, List.length_take]
      omega
    · obtain ⟨rfl, y⟩ := y
      obtain ⟨XG, _, as, rfl, h1⟩ := e
      rw [List.getElem?_map] at y
      obtain ⟨c, hc, rfl⟩ := Option.map_eq_some_iff.mp y
      obtain ⟨t, ht, hDt⟩ := hB5.get hc
      have htm := List.mem_of_getElem? ht
      have nm := nestL_mem htm
      refine ⟨rfl, _, rfl, c, t, rfl, hDt.mono XG, by omega, by omega, okL_mem hok htm, fun a2 G2 X2 na2 hS2 => ⟨_, X2 _ _ hA, la, ?_⟩⟩
      refine k _ G2 (X2 _ _ hA) ⟨XG.trans X2, .inr ⟨_, X2 _ _ hA⟩, as ++ [a2], by rw [List.map_append]; rfl, ?_⟩
      rw [take_snoc ht]
      exact (h1.mono X2).snoc hS2
    obtain ⟨XG, _, as, rfl, hSh⟩ := e
    rw [List.length_map, hlB, List.take_length] at hSh
    have Ap := pot_ne P5 nA
    have P6 := P5.ex2 XG
    have hp6 := P6.1
    have hw6 := XG _ _ hw5
    have hB6 := hB5.mono XG
    have hmo6 := XG _ _ hmo
    clear hw5 hB5 hmo hw hB P5 P14
    refine ⟨_, rfl, _, rfl, p, 3, rfl, hp6, by decide, by decide, fun d H7 d0 d1 P7 => ?_⟩
    obtain ⟨dn, rfl⟩ := Int.eq_ofNat_of_zero_le d0
    have hp7 := P7.1
    have hmo7 := P7.2 _ _ mop hmo6
    refine ⟨_, _, rfl, rfl, _, rfl, _, rfl, mo, _, _, _, rfl, rfl, sq_lst hmo7, at_lastN nn, _, rfl, mo, _, _, _, rfl, rfl, sq_lst hmo7, at_headN nn, _, _, rfl, rfl, _, _, rfl, rfl, _, rfl, p, rfl, hp7, fun g2 H8 hg2 P8 => ?_⟩
    have hp8 := P8.1
    have P18 := (P6.trans P7).trans P8
    have c1 : (2 : Int) + ((dn : Nat) : Int) = ((2 + dn : Nat) : Int) := by omega
    have c2 : (((momsL ts).getLastD 0 : Nat) : Int) - (((momsL ts).headD 0 : Nat) : Int) + 1 + ((g2 : Nat) : Int) = (((momsL ts).getLastD 0 - (momsL ts).headD 0 + 1 + g2 : Nat) : Int) := by omega
    have hm : 2 ≤ 2 + dn ∧ 2 + dn ≤ 4 := by omega
    have hst : (momsL ts).getLastD 0 < (momsL ts).getLastD 0 - (momsL ts).headD 0 + 1 + g2 + (momsL ts).headD 0 ∧ 1 ≤ (momsL ts).getLastD 0 - (momsL ts).headD 0 + 1 + g2 := by omega
    refine ⟨_, _, rfl, rfl, by show 3 ≤ sizeLine; decide, fun GA nGA => ?_⟩
    dsimp only
    rw [c1, c2]
    generalize 2 + dn = m at hm ⊢
    generalize (momsL ts).getLastD 0 - (momsL ts).headD 0 + 1 + g2 = st at hst ⊢
    have GAp := pot_ne P18 nGA
    have X9 := ex_new (o := .lst [.ref A, .int (m : Nat), .int (st : Nat)]) nGA
    have P9 := P18.ex2 X9
    have hp9 := P9.1
    have hGA : upd H8 GA (.lst [.ref A, .int (m : Nat), .int (st : Nat)]) GA = some (.lst [.ref A, .int (m : Nat), .int (st : Nat)]) := upd_same
    have hmo9 := X9 _ _ (P8.2 _ _ mop hmo7)
    have hA9 := X9 _ _ (P8.2 _ _ Ap (P7.2 _ _ Ap hA))
    have hS9 := (shs_on hp7 P8 (shs_on hp6 P7 hSh)).mono X9
    have hw9 := X9 _ _ (tup_on hp7 P8 _ _ (tup_on hp6 P7 _ _ hw6))
    have hB9 := ((hB6.keep (tup_on hp6 P7)).keep (tup_on hp7 P8)).mono X9
    generalize upd H8 GA (.lst [.ref A, .int (m : Nat), .int (st : Nat)]) = H9 at X9 P9 hp9 hGA hmo9 hA9 hS9 hw9 hB9 ⊢
    clear hmo7 hmo6 hw6 hB6 hA hSh P6 P7 P8 P18 hp6 hp7 hp8 X9 XG X5
    have okO : (Tr.ov ts m st).ok := by
      unfold Tr.ok
      have : m * (momsL ts).length ≤ 4 * 24 := Nat.mul_le_mul hm.2 hlen
      exact ⟨h0, hm.1, hst.2, by omega, hst.1, so, hok⟩
    have ovT : ovB ts (.int (m : Nat)) (.int (st : Nat)) = true := ovB_of okO (by rw [Tr.nest]; omega)
    have spT : sprB ts = true := by
      unfold sprB
      rw [hri, decide_eq_true (by omega)]
      rfl
    have n8 : nestL ts ≤ 8 := by omega
    have l20 : ts.length ≤ 20000 := by omega
    have good1 : ∀ {H'}, H' A = some (.lst (as.map V.ref)) → ShsAt K H' ts as → WordOf K H' 1 [.ref A, .int (m : Nat), .int (st : Nat)] true := fun h1 h2 => .inr (.inl ⟨rfl, A, as, ts, _, _, rfl, .inl h1, h2, n8, hok, l20, cl_int _, cl_int _, ovT.symm⟩)
    have good2 : ∀ {H'}, H' A = some (.lst (as.map V.ref)) → ShsAt K H' ts as → WordOf K H' 2 [.ref A] true := fun h1 h2 => .inr (.inr (.inl ⟨rfl, A, as, ts, rfl, .inl h1, h2, n8, hok, l20, spT.symm⟩))
    have told : ∀ {H' : Hp} {a b : Addr}, H' a = some (.lst (toldV true)) → H' b = some (.lst [.str "told"]) → Dp K H' (.ref a) (.list [.str "told"]) ∧ Dp K H' (.ref b) (.list [.str "told"]) := fun h1 h2 => ⟨.lst (sq_lst h1) (.cons (.str _) .nil), .lst (sq_lst h2) (.cons (.str _) .nil)⟩
    have shp : SeqAt.shaped (.list [.str "told"]) = true := by decide +kernel
    have same : PyData.eqv (.list [.str "told"]) (.list [.str "told"]) = true := by decide +kernel
    refine ⟨_, rfl, 1, GA, _, true, rfl, hGA, good1 hA9 hS9, fun t1 H10 X10 ht1 => ⟨by show 1 ≤ sizeLine; decide, fun t2 nt2 => ?_⟩⟩
    have Y1 := ex_new (o := .lst [.str "told"]) nt2
    refine ⟨_, _, (told (Y1 _ _ ht1) upd_same).1, (told (Y1 _ _ ht1) upd_same).2, shp, shp, _, rfl, ?_⟩
    rw [same]
    refine iteF ?_
    have X911 := X10.trans Y1
    generalize upd H10 t2 (.lst [.str "told"]) = H11 at Y1 X911 ⊢
    clear Y1 ht1 X10
    refine ⟨_, rfl, by show 1 ≤ sizeLine; decide, fun l1 n1 => ?_⟩
    have Y2 := ex_new (o := .lst [.ref A]) n1
    have X912 := X911.trans Y2
    refine ⟨2, l1, _, true, rfl, upd_same, good2 (X912 _ _ hA9) (hS9.mono X912), fun t3 H13 X13 ht3 => ⟨by show 1 ≤ sizeLine; decide, fun t4 nt4 => ?_⟩⟩
    have Y3 := ex_new (o := .lst [.str "told"]) nt4
    refine ⟨_, _, (told (Y3 _ _ ht3) upd_same).1, (told (Y3 _ _ ht3) upd_same).2, shp, shp, _, rfl, ?_⟩
    rw [same]
    refine iteF ?_
    have X914 := X912.trans (X13.trans Y3)
    generalize upd H13 t4 (.lst [.str "told"]) = H14 at Y3 X914 ⊢
    clear Y3 ht3 X13 Y2 X912 X911 n1
    have P14 := P9.ex2 X914
    refine ⟨_, rfl, p, rfl, P14.1, fun x H15 xcl xno P15 => ⟨by show 1 ≤ sizeLine; decide, fun l2 n2 => ?_⟩⟩
    have Y4 := ex_new (o := .lst [x]) n2
    refine ⟨0, l2, _, rfl, upd_same, .inl ⟨rfl, x, rfl, xcl.mono Y4, xno.symm⟩, fun H16 X16 => ⟨true, rfl, iteF ?_⟩⟩
    have X1516 := Y4.trans X16
    have P116 := (P14.trans P15).ex2 X1516
    have hmo16 := X1516 _ _ (P15.2 _ _ mop (X914 _ _ hmo9))
    refine ⟨_, rfl, mo, _, _, _, rfl, rfl, sq_lst hmo16, at_headN nn, by show 1 ≤ sizeLine; decide, fun l3 n3 => ?_⟩
    have Y5 := ex_new (o := .lst [.int ((momsL ts).headD 0 : Nat)]) n3
    refine ⟨0, l3, _, true, rfl, upd_same, .inl ⟨rfl, _, rfl, cl_int _, (isN_nat (m := 0) (Nat.zero_le _)).symm⟩, fun t5 H17 X17 ht5 => ⟨by show 1 ≤ sizeLine; decide, fun t6 nt6 => ?_⟩⟩
    have Y6 := ex_new (o := .lst [.str "told"]) nt6
    refine ⟨_, _, (told (Y6 _ _ ht5) upd_same).1, (told (Y6 _ _ ht5) upd_same).2, shp, shp, _, rfl, ?_⟩
    rw [same]
    refine iteF ?_
    have X1618 := Y5.trans (X17.trans Y6)
    have P18 := P116.ex2 X1618
    have on18 : ∀ {b : Addr} {o : HO}, b ≠ p → H9 b = some o → upd H17 t6 (.lst [.str "told"]) b = some o := fun nb e => X1618 _ _ (X1516 _ _ (P15.2 _ _ nb (X914 _ _ e)))
    have hA18 := on18 Ap hA9
    have hGA18 := on18 GAp hGA
    have hw18 := X1618 _ _ (X1516 _ _ (tup_on P14.1 P15 _ _ (X914 _ _ hw9)))
    have hB18 := (((hB9.mono X914).keep (tup_on P14.1 P15)).mono X1516).mono X1618
    have hS18 := (((shs_on P14.1 P15 (hS9.mono X914))).mono X1516).mono X1618
    generalize upd H17 t6 (.lst [.str "told"]) = H18 at Y6 X1618 P18 on18 hA18 hGA18 hw18 hB18 hS18 ⊢
    clear Y6 X1618 Y5 X17 ht5 n3 hmo16 P116 X1516 Y4 X16 P15 P14 X914 n2 on18 hmo9 hA9 hS9 hw9 hB9 hGA P9 hp9
    have hp18 := P18.1
    refine ⟨_, rfl, _, rfl, _, rfl, _, rfl, _, rfl, GA, _, _, _, rfl, rfl, sq_lst hGA18, atI_nat (j := 1) rfl, _, rfl, GA, _, _, _, rfl, rfl, sq_lst hGA18, atI_nat (j := 2) rfl, ?_⟩
    refine ⟨p, A, r, way, as, bs, ts, m, st, rfl, hp18, w0, w7, hA18, Ap, hS18, hw18, hB18, h0, hok, hn, by omega, by omega, hb, hri, fun L x xm xt H19 hL Lp hbad P19 => ?_⟩
    have P1a := P18.trans P19
    have hp19 := P19.1
    have hA19 := P19.2 _ _ Ap hA18
    have hGA19 := P19.2 _ _ GAp hGA18
    have hS19 := shs_on hp18 P19 hS18
    clear hA18 hGA18 hS18 hw18 hB18
    obtain ⟨b, q0, xs, tt, ty, kk, hI, hII⟩ := bad_cases T hp19 hbad
    refine ⟨_, rfl, L, _, rfl, .inl (sq_lst hL), fun L2 nL2 => ?_⟩
    have L2p := pot_ne P1a nL2
    have XL := ex_new (o := .lst [x, xm, xt]) nL2
    have LL2 : L ≠ L2 := ne_of_none hL nL2
    have AL2 : A ≠ L2 := ne_of_none hA19 nL2
    have GL2 : GA ≠ L2 := ne_of_none hGA19 nL2
    have hL2 : upd H19 L2 (.lst [x, xm, xt]) L2 = some (.lst [x, xm, xt]) := upd_same
    have P20 := (PotOn.refl hp19).ex2 XL
    generalize upd H19 L2 (.lst [x, xm, xt]) = H20 at XL hL2 P20 ⊢
    refine ⟨fun σ' H' => PotOn H19 H' p ∧ (b = false → Ex H19 H') ∧ σ' = [some (.ref p), some (.int way), some (.ref r), some (.ref mo), some (.ref A), some (.ref GA), some (.ref L), some (.ref L2), none] ∧ ∃ x', H' L2 = some (.lst [x', xm, xt]) ∧ (b = false → x' = x) ∧ (b = true → ∃ q', x' = .ref q' ∧ SqA H' q' xs ∧ q' ≠ L2 ∧ q' ≠ p), ?_, ?_⟩
    · refine ⟨_, rfl, L, _, _, _, rfl, rfl, sq_lst (XL _ _ hL), rfl, x, .ty "list", tt, _, b, rfl, .ty "list", tyX_mono XL ty, kk, b, rfl, ?_⟩
      cases b with
      | false => exact iteF ⟨P20, fun _ => XL, rfl, x, hL2, fun _ => rfl, fun z => by cases z⟩
      | true =>
        obtain ⟨rfl, hq, qp, hself, hlen2, _⟩ := hII rfl
        refine iteT ⟨_, rfl, L, _, _, _, rfl, rfl, sq_lst (XL _ _ hL), rfl, q0, xs, rfl, .inl (sq_lst (XL _ _ hq)), fun c1 nc1 => ?_⟩
        have XC := ex_new (o := .lst xs) nc1
        refine ⟨_, rfl, L2, _, 0, 0, rfl, rfl, XC _ _ hL2, rfl, ?_⟩
        have c1L : c1 ≠ L2 := (ne_of_none hL2 nc1).symm
        have c1p := pot_ne P20 nc1
        refine ⟨pot_upd (P20.ex2 XC) nL2 L2p, (fun z => by cases z), rfl, .ref c1, upd_same, (fun z => by cases z), fun _ => ⟨c1, rfl, .inl (by rw [upd_ne c1L]; exact upd_same), c1L, c1p⟩⟩
    clear hL2 P20 XL
    rintro σ' H20 ⟨P20, E20, rfl, x1, hL2, hf, ht⟩
    refine ⟨fun σ' H' => PotOn H19 H' p ∧ (b = false → Ex H19 H') ∧ σ' = [some (.ref p), some (.int way), some (.ref r), some (.ref mo), some (.ref A), some (.ref GA), some (.ref L), some (.ref L2), none] ∧ ∃ x', H' L2 = some (.lst [x', xm, xt]) ∧ (b = false → x' = x) ∧ (b = true → ∃ q', x' = .ref q' ∧ SqA H' q' xs ∧ q' ≠ L2 ∧ q' ≠ p), ?_, ?_⟩
    · have hL20 := P20.2 _ _ Lp hL
      cases b with
      | false =>
        refine ⟨_, rfl, L, _, _, _, rfl, rfl, sq_lst hL20, rfl, x, .ty "list", tt, _, false, rfl, .ty "list", tyX_mono (E20 rfl) ty, kk, false, rfl, ?_⟩
        exact iteF (iteF ⟨P20, E20, rfl, x1, hL2, hf, ht⟩)
      | true =>
        obtain ⟨rfl, hq, qp, hself, hlen2, _⟩ := hII rfl
        obtain ⟨q1, rfl, sq1, q1L, q1p⟩ := ht rfl
        have hq20 := P20.2 _ _ qp hq
        refine ⟨_, rfl, L, _, _, _, rfl, rfl, sq_lst hL20, rfl, .ref q0, .ty "list", _, _, true, rfl, .ty "list", .base (.lst hq20), kit_ty (by decide +kernel), true, rfl, iteT ?_⟩
        refine ⟨_, rfl, p, 2, rfl, P20.1, by decide, by decide, fun d H21 d0 d1 P21 => ⟨rfl, _, rfl, ?_⟩⟩
        have P1921 := P20.trans P21
        have hL21 := P21.2 _ _ Lp hL20
        have hL2' := P21.2 _ _ L2p hL2
        have hq21 := P21.2 _ _ qp hq20
        have sq21 : SqA H21 q1 xs := sq1.imp (fun h => P21.2 _ _ q1p h) (fun h => P21.2 _ _ q1p h)
        refine ite2 (fun _ => ?_) (fun _ => ⟨P1921, (fun z => by cases z), rfl, .ref q1, hL2', (fun z => by cases z), fun _ => ⟨q1, rfl, sq21, q1L, q1p⟩⟩)
        refine ⟨_, rfl, L, _, _, _, rfl, rfl, sq_lst hL21, rfl, q0, xs, rfl, .inl ⟨sq_lst hq21, fun c1 nc1 => ?_⟩⟩
        have XC := ex_new (o := .tup xs) nc1
        refine ⟨_, rfl, L2, _, 0, 0, rfl, rfl, XC _ _ hL2', rfl, ?_⟩
        have c1L : c1 ≠ L2 := (ne_of_none hL2' nc1).symm
        have c1p := pot_ne P1921 nc1
        refine ⟨pot_upd (P1921.ex2 XC) nL2 L2p, (fun z => by cases z), rfl, .ref c1, upd_same, (fun z => by cases z), fun _ => ⟨c1, rfl, .inr (by rw [upd_ne c1L]; exact upd_same), c1L, c1p⟩⟩
    clear hL2 P20 E20 hf ht
    clear x1 H20
    rintro σ' H20 ⟨P20, E20, rfl, x1, hL2, hf, ht⟩
    have hL20 := P20.2 _ _ Lp hL
    have hw12 : ∀ {H'}, Ex H20 H' → WordOf K H' 1 [x1, xm, xt] false ∧ (way < 3 → WordOf K H' 2 [x1] false) := fun e => by
      cases b with
      | false =>
        rw [hf rfl]
        exact hI rfl _ ((E20 rfl).trans e)
      | true =>
        obtain ⟨q1, rfl, sq1, q1L, q1p⟩ := ht rfl
        exact (hII rfl).2.2.2.2.2 _ q1 (P20.ex2 e) (sq1.mono e)
    have P2020 := P1a.trans P20
    have hA20 := P20.2 _ _ Ap hA19
    have hGA20 := P20.2 _ _ GAp hGA19
    have hS20 := shs_on hp19 P20 hS19
    refine ⟨fun σ' H' => Ex H20 H' ∧ σ' = [some (.ref p), some (.int way), some (.ref r), some (.ref mo), some (.ref A), some (.ref GA), some (.ref L), some (.ref L2), none], ?_, ?_⟩
    · refine ⟨_, rfl, 1, L2, _, rfl, hL2, (hw12 (.refl _)).1, fun H22 X22 => ⟨true, rfl, iteF ?_⟩⟩
      refine ⟨_, rfl, _, _, rfl, rfl, _, rfl, ite2 (fun c => ?_) (fun _ => iteF ⟨X22, rfl⟩)⟩
      have c3 : way < 3 := of_decide_eq_true c
      refine ⟨_, rfl, _, rfl, L2, _, rfl, sq_lst (X22 _ _ hL2), fun l nl => ?_⟩
      rw [show cutV [x1, xm, xt] none (some 1) = [x1] from cut_takeV _ 1]
      have X23 := X22.trans (ex_new (o := .lst [x1]) nl)
      exact ⟨2, l, _, rfl, upd_same, (hw12 X23).2 c3, fun H24 X24 => ⟨true, rfl, iteF ⟨X23.trans X24, rfl⟩⟩⟩
    rintro σ' H22 ⟨X22, rfl⟩
    refine ⟨fun σ' H' => Ex H20 H' ∧ σ' = [some (.ref p), some (.int way), some (.ref r), some (.ref mo), some (.ref A), some (.ref GA), some (.ref L), some (.ref L2), none], ?_, ?_⟩
    · have hL22 := X22 _ _ hL20
      cases b with
      | false =>
        exact ⟨_, rfl, L, _, _, _, rfl, rfl, sq_lst hL22, rfl, x, .ty "list", tt, _, false, rfl, .ty "list", tyX_mono ((E20 rfl).trans X22) ty, kk, false, rfl, iteF (iteF ⟨X22, rfl⟩)⟩
      | true =>
        obtain ⟨rfl, hq, qp, hself, hlen2, _⟩ := hII rfl
        obtain ⟨q1, rfl, sq1, q1L, q1p⟩ := ht rfl
        have hq22 := X22 _ _ (P20.2 _ _ qp hq)
        refine ⟨_, rfl, L, _, _, _, rfl, rfl, sq_lst hL22, rfl, .ref q0, .ty "list", _, _, true, rfl, .ty "list", .base (.lst hq22), kit_ty (by decide +kernel), true, rfl, iteT ?_⟩
        have sq22 : SqL K H22 q1 xs ∨ SqT K H22 q1 xs := (sq1.mono X22).imp (fun h => sq_lst h) (fun h => sq_tup h)
        refine ⟨_, rfl, L2, _, _, _, rfl, rfl, sq_lst (X22 _ _ hL2), rfl, q1, xs, rfl, sq22, fun l nl => ?_⟩
        have X23 := ex_new (o := .lst xs) nl
        exact ⟨_, rfl, L, _, _, _, rfl, rfl, sq_lst (X23 _ _ hL22), rfl, l, q0, xs, rfl, rfl, sq_lst upd_same, sq_lst (X23 _ _ hq22), hself, _, rfl, iteF ⟨X22.trans X23, rfl⟩⟩
    rintro σ' H23 ⟨X23, rfl⟩
    refine ⟨_, rfl, 1, GA, _, true, rfl, X23 _ _ hGA20, good1 (X23 _ _ hA20) (hS20.mono X23), fun t1 H24 X24 ht1 => ⟨by show 1 ≤ sizeLine; decide, fun t2 nt2 => ?_⟩⟩
    have Y1 := ex_new (o := .lst [.str "told"]) nt2
    refine ⟨_, _, (told (Y1 _ _ ht1) upd_same).1, (told (Y1 _ _ ht1) upd_same).2, shp, shp, true, by rw [same], iteT ?_⟩
    have X911 := X23.trans (X24.trans Y1)
    refine ⟨_, rfl, by show 1 ≤ sizeLine; decide, fun l1 n1 => ?_⟩
    have Y2 := ex_new (o := .lst [.ref A]) n1
    have X912 := X911.trans Y2
    refine ⟨2, l1, _, true, rfl, upd_same, good2 (X912 _ _ hA20) (hS20.mono X912), fun t3 H13 X13 ht3 => ⟨by show 1 ≤ sizeLine; decide, fun t4 nt4 => ?_⟩⟩
    have Y3 := ex_new (o := .lst [.str "told"]) nt4
    refine ⟨_, _, (told (Y3 _ _ ht3) upd_same).1, (told (Y3 _ _ ht3) upd_same).2, shp, shp, ?_⟩
    rw [same]
    exact q _ (P2020.ex2 (X912.trans (X13.trans Y3)))
theorem ok__law_right {P : Program} {w : World} {K : PySem.W.Frag} {mg : Str → Option Value} {base : Heap} (T : Env K mg) : Fc P w K mg base 125 (He.ga K "_law_right") [] (sp__law_right K ) := by
  obtain ⟨fd, D, F⟩ := fb__law_right T
  exact F.all (D.bindsN fun _ _ _ _ _ _ us hl => match us, hl with | [_], _ => rfl)
end
section
def sp_law (K : PySem.W.Frag) : Sp := fun vs H Q _ => ∃ (a : Addr) (ns : List Int), vs = [.ref a] ∧ SqL K H a (ns.map V.int) ∧ ns.length ≤ 63 ∧ ∀ H', Q (.bl true) H'
theorem ok_law {P : Program} {w : World} {K : PySem.W.Frag} {mg : Str → Option Value} {base : Heap} (T : Env K mg) {fd : FuncData} (F : FunD K "law" "law" (defArgs s_law) (defBody s_law) (defScope s_law) [] [] (He.ga K "law") fd) : Fb P w K mg base 126 (He.ga K "law") fd ["_law_script"] (sp_law K) := by
  refine fb_of F sc_law (fun vs H Q E h => ?_) (fun cdv A outer s H vs Q E hr h => ?_)
  · obtain ⟨a, ns, rfl, _⟩ := h
    rfl
  · obtain ⟨a, ns, rfl, hS, hl, q⟩ := h
    refine ⟨_, (pss_cons (ps_for (passes_of rfl) rfl (pi_range1 (by rfl) T.n_range (pa_cons (pe_callB (call_max2 rfl) (by rfl) T.n_max (by decide +kernel) (pa_cons pe_int (pa_cons (pe_callB (call_min2 rfl) (by rfl) T.n_min (by decide +kernel) (pa_cons (pe_callB call_len (by rfl) T.n_len (by decide +kernel) (pa_cons (pv 0) pa_nil)) (pa_cons pe_int pa_nil))) pa_nil))) pa_nil)) (pg_name (i := 1) sc_law.nd rfl (Or.inl rfl))
      (pss_one (ps_if (pt_not (pt_val (c_call (ok__law_right T) (hr.mono (by decide)) T.g__law_right T.k__law_right takes0 (pa_cons (c_call (ok__law_pot T) (hr.mono (by decide)) T.g__law_pot T.k__law_pot takes0 (pa_cons (pv 0) (pa_cons (pv 1) pa_nil))) pa_nil))))
      (pss_one (ps_ret pe_bl))
      pss_nil)))
      (pss_one (ps_ret pe_bl))), ?_⟩
    refine ⟨_, rfl, _, _, rfl, .inl ⟨_, hS, rfl⟩, _, _, rfl, _, _, rfl, _, rfl, (turns_lo 6 _ (by decide)), (turns_hi 6 _ (by decide)), for_range (fun i σ H' => Ex H H' ∧ ∃ v1, σ = [some (.ref a), v1]) ⟨.refl H, _, rfl⟩ ?_ ?_⟩
    · rintro i σ H1 hi ⟨X1, v1, rfl⟩
      have i1 : i < 1000 := turns_lt 6 _ (by decide) hi
      refine ⟨_, rfl, _, rfl, a, ns, _, rfl, ex_sql X1 hS, by omega, by omega, fun p H2 np P2 K2 => ?_⟩
      have X2 : Ex H H2 := fun b o e => by rw [K2 b (ne_of_none (X1 b o e) np)]; exact X1 b o e
      have hp0 : H p = none := ex_fresh X1 np
      refine ⟨p, rfl, P2, fun H3 k3 => ⟨true, rfl, iteF ⟨fun b o e => k3.2 b o (ne_of_none e hp0) (X2 b o e), _, rfl⟩⟩⟩
    · rintro σ H1 ⟨_, _, rfl⟩
      exact q _
end
end Toy
namespace Toy
open PySem PySem.Spec PyProof.Rows L2 L3
def xf1 : List Fx := [fun K => (He.Fa.glo "_wall").ok K,
  fun K => (He.Fa.glo "is_whole").ok K,
  fun K => (He.Fa.glo "is_moment").ok K,
  fun K => (He.Fa.glo "want_moment").ok K,
  fun K => (He.Fa.glo "want_below").ok K,
  fun K => (He.Fa.glo "moment_at").ok K,
  fun K => (He.Fa.glo "clock_of").ok K,
  fun K => (He.Fa.glo "show_moment").ok K,
  fun K => (He.Fa.glo "are_figures").ok K,
  fun K => (He.Fa.glo "number_of").ok K,
  fun K => (He.Fa.glo "day_of").ok K,
  fun K => (He.Fa.glo "read_moment").ok K,
  fun K => (He.Fa.glo "is_number").ok K,
  fun K => (He.Fa.glo "all_rising").ok K,
  fun K => (He.Fa.glo "shorts_in").ok K,
  fun K => (He.Fa.glo "row_moments").ok K,
  fun K => (He.Fa.glo "row_many").ok K,
  fun K => (He.Fa.glo "row_text").ok K,
  fun K => (He.Fa.glo "number_in").ok K,
  fun K => (He.Fa.glo "at_in").ok K,
  fun K => (He.Fa.glo "item_end").ok K,
  fun K => (He.Fa.glo "over_in").ok K,
  fun K => (He.Fa.glo "read_on").ok K,
  fun K => (He.Fa.glo "read_spread").ok K,
  fun K => (He.Fa.glo "_law_pot").ok K,
  fun K => (He.Fa.glo "_law_draw").ok K,
  fun K => (He.Fa.glo "_law_moments").ok K,
  fun K => (He.Fa.glo "_law_row_moments").ok K,
  fun K => (He.Fa.glo "_law_wide").ok K,
  fun K => (He.Fa.glo "_law_gap").ok K,
  fun K => (He.Fa.glo "_law_short").ok K,
  fun K => (He.Fa.glo "_law_row").ok K,
  fun K => (He.Fa.glo "_law_spread").ok K,
  fun K => (He.Fa.glo "_law_made").ok K,
  fun K => (He.Fa.glo "_law_word_of").ok K,
  fun K => (He.Fa.glo "_law_is_refused").ok K,
  fun K => (He.Fa.glo "_law_odd").ok K,
  fun K => (He.Fa.glo "_law_no_part").ok K,
  fun K => (He.Fa.glo "_law_no_list").ok K,
  fun K => (He.Fa.glo "_law_too_early").ok K,
  fun K => (He.Fa.glo "_law_bent").ok K,
  fun K => (He.Fa.glo "_law_right").ok K,
  fun K => (He.Fa.glo "law").ok K,
  fun K => (He.Fa.int "HOUR" (60)).ok K,
  fun K => (He.Fa.int "DAY" (1440)).ok K,
  fun K => (He.Fa.int "HOURS" (24)).ok K,
  fun K => (He.Fa.str "FIGURES_clock" "0123456789").ok K,
  fun K => (He.Fa.str "COLON" ":").ok K,
  fun K => (He.Fa.str "BLANK" " ").ok K,
  fun K => (He.Fa.int "MOST_MOMENTS" (1440)).ok K,
  fun K => (He.Fa.int "MOST_NESTED" (8)).ok K,
  fun K => (He.Fa.str "NO_PARTS" "-").ok K,
  fun K => (He.Fa.str "FIGURES_spreads" "0123456789").ok K,
  fun K => (He.Fa.free "ValueError").ok K,
  fun K => (He.Fa.free "all").ok K,
  fun K => (He.Fa.free "bool").ok K,
  fun K => (He.Fa.free "divmod").ok K,
  fun K => (He.Fa.free "int").ok K,
  fun K => (He.Fa.free "isinstance").ok K,
  fun K => (He.Fa.free "len").ok K,
  fun K => (He.Fa.free "list").ok K,
  fun K => (He.Fa.free "max").ok K,
  fun K => (He.Fa.free "min").ok K,
  fun K => (He.Fa.free "range").ok K,
  fun K => (He.Fa.free "str").ok K,
  fun K => (He.Fa.free "sum").ok K,
  fun K => (He.Fa.free "tuple").ok K,
  fun K => (He.Fa.free "zip").ok K,
  fun K => (He.Fa.glo "GoingError").ok K,
  exoB bmV "ValueError.__new__" "GoingError",
  fun K => (He.Fa.glo "LackError").ok K,
  exoB bmL "LookupError.__new__" "LackError",
  fun K => (He.Fa.glo "BookError").ok K,
  exoB bmR "RuntimeError.__new__" "BookError",
  fun K => (He.Fa.glo "NoTime").ok K,
  exoB bmV "ValueError.__new__" "NoTime",
  fun K => (He.Fa.glo "NoPiece").ok K,
  exoB bmV "ValueError.__new__" "NoPiece",
  fun K => (He.Fa.glo "NoDays").ok K,
  exoB bmV "ValueError.__new__" "NoDays",
  fun K => (He.Fa.glo "NoCard").ok K,
  exoB bmV "ValueError.__new__" "NoCard",
  fun K => (He.Fa.glo "NoName").ok K,
  exoB bmV "ValueError.__new__" "NoName",
  fun K => (He.Fa.glo "NoRow").ok K,
  exoB bmV "ValueError.__new__" "NoRow",
  fun K => (He.Fa.glo "NoText").ok K,
  fun K => (He.Fa.glo "Short").ok K,
  fun K => (He.Fa.glo "At").ok K,
  fun K => (He.Fa.glo "Over").ok K,
  fun K => (He.Fa.glo "Spread").ok K,
  sysB,
  fun K => (He.Fa.cls "Short").ok K,
  insB "Short",
  fun K => (He.Fa.meth "Short" "moments").ok K,
  fun K => (He.Fa.meth "Short" "pieces").ok K,
  fun K => (He.Fa.meth "Short" "begins").ok K,
  fun K => (He.Fa.meth "Short" "ends").ok K,
  fun K => (He.Fa.meth "Short" "means_many").ok K,
  fun K => (He.Fa.meth "Short" "nested").ok K,
  kitF "Short" "Short" true,
  kitF "Short" "Spread" false,
  kitFT "Short" "int" false,
  kitFT "Short" "bool" false,
  kitFT "Short" "str" false,
  kitFT "Short" "list" false,
  kitFT "Short" "tuple" false,
  kitFT "Short" "ValueError" false,
  fun K => (He.Fa.cls "At").ok K,
  insB "At"]
def xf2 : List Fx := [fun K => (He.Fa.noat "At" "moment").ok K,
  fun K => (He.Fa.meth "At" "__init__").ok K,
  fun K => (He.Fa.meth "At" "moments").ok K,
  fun K => (He.Fa.meth "At" "pieces").ok K,
  fun K => (He.Fa.meth "At" "begins").ok K,
  fun K => (He.Fa.meth "At" "ends").ok K,
  fun K => (He.Fa.meth "At" "means_many").ok K,
  fun K => (He.Fa.meth "At" "nested").ok K,
  fun K => (He.Fa.meth "At" "__str__").ok K,
  fun K => (He.Fa.mkr "At").ok K,
  kitF "At" "Short" true,
  kitF "At" "Spread" false,
  kitFT "At" "int" false,
  kitFT "At" "bool" false,
  kitFT "At" "str" false,
  kitFT "At" "list" false,
  kitFT "At" "tuple" false,
  kitFT "At" "ValueError" false,
  fun K => (He.Fa.cls "Over").ok K,
  insB "Over",
  fun K => (He.Fa.noat "Over" "kept").ok K,
  fun K => (He.Fa.noat "Over" "many").ok K,
  fun K => (He.Fa.noat "Over" "step").ok K,
  fun K => (He.Fa.meth "Over" "__init__").ok K,
  fun K => (He.Fa.meth "Over" "parts").ok K,
  fun K => (He.Fa.meth "Over" "moments").ok K,
  fun K => (He.Fa.meth "Over" "pieces").ok K,
  fun K => (He.Fa.meth "Over" "begins").ok K,
  fun K => (He.Fa.meth "Over" "ends").ok K,
  fun K => (He.Fa.meth "Over" "means_many").ok K,
  fun K => (He.Fa.meth "Over" "nested").ok K,
  fun K => (He.Fa.meth "Over" "__str__").ok K,
  fun K => (He.Fa.mkr "Over").ok K,
  kitF "Over" "Short" true,
  kitF "Over" "Spread" false,
  kitFT "Over" "int" false,
  kitFT "Over" "bool" false,
  kitFT "Over" "str" false,
  kitFT "Over" "list" false,
  kitFT "Over" "tuple" false,
  kitFT "Over" "ValueError" false,
  fun K => (He.Fa.cls "Spread").ok K,
  insB "Spread",
  fun K => (He.Fa.noat "Spread" "kept").ok K,
  fun K => (He.Fa.noat "Spread" "held").ok K,
  fun K => (He.Fa.meth "Spread" "__init__").ok K,
  fun K => (He.Fa.meth "Spread" "parts").ok K,
  fun K => (He.Fa.meth "Spread" "moments").ok K,
  fun K => (He.Fa.meth "Spread" "pieces").ok K,
  fun K => (He.Fa.meth "Spread" "__eq__").ok K,
  fun K => (He.Fa.meth "Spread" "__len__").ok K,
  fun K => (He.Fa.meth "Spread" "__str__").ok K,
  fun K => (He.Fa.meth "Spread" "__repr__").ok K,
  fun K => (He.Fa.mkr "Spread").ok K,
  noBaseF "Spread",
  kitF "Spread" "Short" false,
  kitF "Spread" "Spread" true,
  kitFT "Spread" "int" false,
  kitFT "Spread" "bool" false,
  kitFT "Spread" "str" false,
  kitFT "Spread" "list" false,
  kitFT "Spread" "tuple" false,
  kitFT "Spread" "ValueError" false,
  kitBF "int" "Short" false,
  kitBF "bool" "Short" false,
  kitBF "str" "Short" false,
  kitBF "NoneType" "Short" false,
  kitBF "list" "Short" false,
  kitBF "tuple" "Short" false,
  kitBF "dict" "Short" false,
  kitBF "int" "Spread" false,
  kitBF "bool" "Spread" false,
  kitBF "str" "Spread" false,
  kitBF "NoneType" "Spread" false,
  kitBF "list" "Spread" false,
  kitBF "tuple" "Spread" false,
  kitBF "dict" "Spread" false,
  exm1F "NoTime" "NoTime" true,
  exm1F "NoTime" "GoingError" true,
  excCB "NoTime",
  kitF "NoTime" "GoingError" true,
  kitF "NoTime" "LackError" false,
  kitF "NoTime" "BookError" false,
  kitF "NoTime" "NoTime" true,
  kitF "NoTime" "NoPiece" false,
  kitF "NoTime" "NoDays" false,
  kitF "NoTime" "NoCard" false,
  kitF "NoTime" "NoName" false,
  kitF "NoTime" "NoRow" false,
  kitF "NoTime" "NoText" false,
  kitFT "NoTime" "ValueError" true,
  kitFT "NoTime" "LookupError" false,
  kitFT "NoTime" "RuntimeError" false,
  exm3F "NoTime" ["GoingError", "LackError", "BookError"],
  exm1F "NoPiece" "NoTime" false,
  exm1F "NoPiece" "GoingError" true,
  excCB "NoPiece",
  kitF "NoPiece" "GoingError" true,
  kitF "NoPiece" "LackError" false,
  kitF "NoPiece" "BookError" false,
  kitF "NoPiece" "NoTime" false,
  kitF "NoPiece" "NoPiece" true,
  kitF "NoPiece" "NoDays" false,
  kitF "NoPiece" "NoCard" false,
  kitF "NoPiece" "NoName" false,
  kitF "NoPiece" "NoRow" false,
  kitF "NoPiece" "NoText" false,
  kitFT "NoPiece" "ValueError" true,
  kitFT "NoPiece" "LookupError" false,
  kitFT "NoPiece" "RuntimeError" false,
  exm3F "NoPiece" ["GoingError", "LackError", "BookError"]]
def xf : List Fx := xf1 ++ xf2
def d__wall : He.DefD := ⟨("_wall", none), "_wall", "_wall", defArgs s__wall, defBody s__wall, defScope s__wall, [], []⟩
def d_NoText_init : He.DefD := ⟨("NoText", some "__init__"), "__init__", "NoText.__init__", defArgs s_NoText_init, defBody s_NoText_init, defScope s_NoText_init, [], []⟩
def d_is_whole : He.DefD := ⟨("is_whole", none), "is_whole", "is_whole", defArgs s_is_whole, defBody s_is_whole, defScope s_is_whole, [], []⟩
def d_is_moment : He.DefD := ⟨("is_moment", none), "is_moment", "is_moment", defArgs s_is_moment, defBody s_is_moment, defScope s_is_moment, [], []⟩
def d_want_moment : He.DefD := ⟨("want_moment", none), "want_moment", "want_moment", defArgs s_want_moment, defBody s_want_moment, defScope s_want_moment, [], []⟩
def d_want_below : He.DefD := ⟨("want_below", none), "want_below", "want_below", defArgs s_want_below, defBody s_want_below, defScope s_want_below, [], []⟩
def d_moment_at : He.DefD := ⟨("moment_at", none), "moment_at", "moment_at", defArgs s_moment_at, defBody s_moment_at, defScope s_moment_at, [.int (0), .int (0), .int (0)], []⟩
def d_clock_of : He.DefD := ⟨("clock_of", none), "clock_of", "clock_of", defArgs s_clock_of, defBody s_clock_of, defScope s_clock_of, [], []⟩
def d_show_moment : He.DefD := ⟨("show_moment", none), "show_moment", "show_moment", defArgs s_show_moment, defBody s_show_moment, defScope s_show_moment, [], []⟩
def d_are_figures : He.DefD := ⟨("are_figures", none), "are_figures", "are_figures", defArgs s_are_figures, defBody s_are_figures, defScope s_are_figures, [], []⟩
def d_number_of : He.DefD := ⟨("number_of", none), "number_of", "number_of", defArgs s_number_of, defBody s_number_of, defScope s_number_of, [], []⟩
def d_day_of : He.DefD := ⟨("day_of", none), "day_of", "day_of", defArgs s_day_of, defBody s_day_of, defScope s_day_of, [], []⟩
def d_read_moment : He.DefD := ⟨("read_moment", none), "read_moment", "read_moment", defArgs s_read_moment, defBody s_read_moment, defScope s_read_moment, [], []⟩
def d_is_number : He.DefD := ⟨("is_number", none), "is_number", "is_number", defArgs s_is_number, defBody s_is_number, defScope s_is_number, [], []⟩
def d_Short_moments : He.DefD := ⟨("Short", some "moments"), "moments", "Short.moments", defArgs s_Short_moments, defBody s_Short_moments, defScope s_Short_moments, [], []⟩
def d_Short_pieces : He.DefD := ⟨("Short", some "pieces"), "pieces", "Short.pieces", defArgs s_Short_pieces, defBody s_Short_pieces, defScope s_Short_pieces, [], []⟩
def d_Short_begins : He.DefD := ⟨("Short", some "begins"), "begins", "Short.begins", defArgs s_Short_begins, defBody s_Short_begins, defScope s_Short_begins, [], []⟩
def d_Short_ends : He.DefD := ⟨("Short", some "ends"), "ends", "Short.ends", defArgs s_Short_ends, defBody s_Short_ends, defScope s_Short_ends, [], []⟩
def d_Short_means_many : He.DefD := ⟨("Short", some "means_many"), "means_many", "Short.means_many", defArgs s_Short_means_many, defBody s_Short_means_many, defScope s_Short_means_many, [], []⟩
def d_Short_nested : He.DefD := ⟨("Short", some "nested"), "nested", "Short.nested", defArgs s_Short_nested, defBody s_Short_nested, defScope s_Short_nested, [], []⟩
def d_all_rising : He.DefD := ⟨("all_rising", none), "all_rising", "all_rising", defArgs s_all_rising, defBody s_all_rising, defScope s_all_rising, [], []⟩
def d_shorts_in : He.DefD := ⟨("shorts_in", none), "shorts_in", "shorts_in", defArgs s_shorts_in, defBody s_shorts_in, defScope s_shorts_in, [], []⟩
def d_row_moments : He.DefD := ⟨("row_moments", none), "row_moments", "row_moments", defArgs s_row_moments, defBody s_row_moments, defScope s_row_moments, [], []⟩
def d_row_many : He.DefD := ⟨("row_many", none), "row_many", "row_many", defArgs s_row_many, defBody s_row_many, defScope s_row_many, [], []⟩
def d_row_text : He.DefD := ⟨("row_text", none), "row_text", "row_text", defArgs s_row_text, defBody s_row_text, defScope s_row_text, [], []⟩
def d_At_init : He.DefD := ⟨("At", some "__init__"), "__init__", "At.__init__", defArgs s_At_init, defBody s_At_init, defScope s_At_init, [], []⟩
def d_At_moments : He.DefD := ⟨("At", some "moments"), "moments", "At.moments", defArgs s_At_moments, defBody s_At_moments, defScope s_At_moments, [], []⟩
def d_At_pieces : He.DefD := ⟨("At", some "pieces"), "pieces", "At.pieces", defArgs s_At_pieces, defBody s_At_pieces, defScope s_At_pieces, [], []⟩
def d_At_begins : He.DefD := ⟨("At", some "begins"), "begins", "At.begins", defArgs s_At_begins, defBody s_At_begins, defScope s_At_begins, [], []⟩
def d_At_ends : He.DefD := ⟨("At", some "ends"), "ends", "At.ends", defArgs s_At_ends, defBody s_At_ends, defScope s_At_ends, [], []⟩
def d_At_means_many : He.DefD := ⟨("At", some "means_many"), "means_many", "At.means_many", defArgs s_At_means_many, defBody s_At_means_many, defScope s_At_means_many, [], []⟩
def d_At_nested : He.DefD := ⟨("At", some "nested"), "nested", "At.nested", defArgs s_At_nested, defBody s_At_nested, defScope s_At_nested, [], []⟩
def d_At_str : He.DefD := ⟨("At", some "__str__"), "__str__", "At.__str__", defArgs s_At_str, defBody s_At_str, defScope s_At_str, [], []⟩
def d_Over_init : He.DefD := ⟨("Over", some "__init__"), "__init__", "Over.__init__", defArgs s_Over_init, defBody s_Over_init, defScope s_Over_init, [.int (2), .int (60)], []⟩
def d_Over_parts : He.DefD := ⟨("Over", some "parts"), "parts", "Over.parts", defArgs s_Over_parts, defBody s_Over_parts, defScope s_Over_parts, [], []⟩
def d_Over_moments : He.DefD := ⟨("Over", some "moments"), "moments", "Over.moments", defArgs s_Over_moments, defBody s_Over_moments, defScope s_Over_moments, [], []⟩
def d_Over_pieces : He.DefD := ⟨("Over", some "pieces"), "pieces", "Over.pieces", defArgs s_Over_pieces, defBody s_Over_pieces, defScope s_Over_pieces, [], []⟩
def d_Over_begins : He.DefD := ⟨("Over", some "begins"), "begins", "Over.begins", defArgs s_Over_begins, defBody s_Over_begins, defScope s_Over_begins, [], []⟩
def d_Over_ends : He.DefD := ⟨("Over", some "ends"), "ends", "Over.ends", defArgs s_Over_ends, defBody s_Over_ends, defScope s_Over_ends, [], []⟩
def d_Over_means_many : He.DefD := ⟨("Over", some "means_many"), "means_many", "Over.means_many", defArgs s_Over_means_many, defBody s_Over_means_many, defScope s_Over_means_many, [], []⟩
def d_Over_nested : He.DefD := ⟨("Over", some "nested"), "nested", "Over.nested", defArgs s_Over_nested, defBody s_Over_nested, defScope s_Over_nested, [], []⟩
def d_Over_str : He.DefD := ⟨("Over", some "__str__"), "__str__", "Over.__str__", defArgs s_Over_str, defBody s_Over_str, defScope s_Over_str, [], []⟩
def d_Spread_init : He.DefD := ⟨("Spread", some "__init__"), "__init__", "Spread.__init__", defArgs s_Spread_init, defBody s_Spread_init, defScope s_Spread_init, [], []⟩
def d_Spread_parts : He.DefD := ⟨("Spread", some "parts"), "parts", "Spread.parts", defArgs s_Spread_parts, defBody s_Spread_parts, defScope s_Spread_parts, [], []⟩
def d_Spread_moments : He.DefD := ⟨("Spread", some "moments"), "moments", "Spread.moments", defArgs s_Spread_moments, defBody s_Spread_moments, defScope s_Spread_moments, [], []⟩
def d_Spread_pieces : He.DefD := ⟨("Spread", some "pieces"), "pieces", "Spread.pieces", defArgs s_Spread_pieces, defBody s_Spread_pieces, defScope s_Spread_pieces, [], []⟩
def d_Spread_eq : He.DefD := ⟨("Spread", some "__eq__"), "__eq__", "Spread.__eq__", defArgs s_Spread_eq, defBody s_Spread_eq, defScope s_Spread_eq, [], []⟩
def d_Spread_len : He.DefD := ⟨("Spread", some "__len__"), "__len__", "Spread.__len__", defArgs s_Spread_len, defBody s_Spread_len, defScope s_Spread_len, [], []⟩
def d_Spread_str : He.DefD := ⟨("Spread", some "__str__"), "__str__", "Spread.__str__", defArgs s_Spread_str, defBody s_Spread_str, defScope s_Spread_str, [], []⟩
def d_Spread_repr : He.DefD := ⟨("Spread", some "__repr__"), "__repr__", "Spread.__repr__", defArgs s_Spread_repr, defBody s_Spread_repr, defScope s_Spread_repr, [], []⟩
def d_number_in : He.DefD := ⟨("number_in", none), "number_in", "number_in", defArgs s_number_in, defBody s_number_in, defScope s_number_in, [], []⟩
def d_at_in : He.DefD := ⟨("at_in", none), "at_in", "at_in", defArgs s_at_in, defBody s_at_in, defScope s_at_in, [], []⟩
def d_item_end : He.DefD := ⟨("item_end", none), "item_end", "item_end", defArgs s_item_end, defBody s_item_end, defScope s_item_end, [], []⟩
def d_over_in : He.DefD := ⟨("over_in", none), "over_in", "over_in", defArgs s_over_in, defBody s_over_in, defScope s_over_in, [], []⟩
def d_read_on : He.DefD := ⟨("read_on", none), "read_on", "read_on", defArgs s_read_on, defBody s_read_on, defScope s_read_on, [], []⟩
def d_read_spread : He.DefD := ⟨("read_spread", none), "read_spread", "read_spread", defArgs s_read_spread, defBody s_read_spread, defScope s_read_spread, [], []⟩
def d__law_pot : He.DefD := ⟨("_law_pot", none), "_law_pot", "_law_pot", defArgs s__law_pot, defBody s__law_pot, defScope s__law_pot, [], []⟩
def d__law_draw : He.DefD := ⟨("_law_draw", none), "_law_draw", "_law_draw", defArgs s__law_draw, defBody s__law_draw, defScope s__law_draw, [], []⟩
def d__law_moments : He.DefD := ⟨("_law_moments", none), "_law_moments", "_law_moments", defArgs s__law_moments, defBody s__law_moments, defScope s__law_moments, [], []⟩
def d__law_row_moments : He.DefD := ⟨("_law_row_moments", none), "_law_row_moments", "_law_row_moments", defArgs s__law_row_moments, defBody s__law_row_moments, defScope s__law_row_moments, [], []⟩
def d__law_wide : He.DefD := ⟨("_law_wide", none), "_law_wide", "_law_wide", defArgs s__law_wide, defBody s__law_wide, defScope s__law_wide, [], []⟩
def d__law_gap : He.DefD := ⟨("_law_gap", none), "_law_gap", "_law_gap", defArgs s__law_gap, defBody s__law_gap, defScope s__law_gap, [], []⟩
def d__law_short : He.DefD := ⟨("_law_short", none), "_law_short", "_law_short", defArgs s__law_short, defBody s__law_short, defScope s__law_short, [], []⟩
def d__law_row : He.DefD := ⟨("_law_row", none), "_law_row", "_law_row", defArgs s__law_row, defBody s__law_row, defScope s__law_row, [], []⟩
def d__law_spread : He.DefD := ⟨("_law_spread", none), "_law_spread", "_law_spread", defArgs s__law_spread, defBody s__law_spread, defScope s__law_spread, [], []⟩
def d__law_made : He.DefD := ⟨("_law_made", none), "_law_made", "_law_made", defArgs s__law_made, defBody s__law_made, defScope s__law_made, [], []⟩
def d__law_word_of : He.DefD := ⟨("_law_word_of", none), "_law_word_of", "_law_word_of", defArgs s__law_word_of, defBody s__law_word_of, defScope s__law_word_of, [], []⟩
def d__law_is_refused : He.DefD := ⟨("_law_is_refused", none), "_law_is_refused", "_law_is_refused", defArgs s__law_is_refused, defBody s__law_is_refused, defScope s__law_is_refused, [], []⟩
def d__law_odd : He.DefD := ⟨("_law_odd", none), "_law_odd", "_law_odd", defArgs s__law_odd, defBody s__law_odd, defScope s__law_odd, [], []⟩
def d__law_no_part : He.DefD := ⟨("_law_no_part", none), "_law_no_part", "_law_no_part", defArgs s__law_no_part, defBody s__law_no_part, defScope s__law_no_part, [], []⟩
def d__law_no_list : He.DefD := ⟨("_law_no_list", none), "_law_no_list", "_law_no_list", defArgs s__law_no_list, defBody s__law_no_list, defScope s__law_no_list, [], []⟩
def d__law_too_early : He.DefD := ⟨("_law_too_early", none), "_law_too_early", "_law_too_early", defArgs s__law_too_early, defBody s__law_too_early, defScope s__law_too_early, [], []⟩
def d__law_bent : He.DefD := ⟨("_law_bent", none), "_law_bent", "_law_bent", defArgs s__law_bent, defBody s__law_bent, defScope s__law_bent, [], []⟩
def d__law_right : He.DefD := ⟨("_law_right", none), "_law_right", "_law_right", defArgs s__law_right, defBody s__law_right, defScope s__law_right, [], []⟩
def d_law : He.DefD := ⟨("law", none), "law", "law", defArgs s_law, defBody s_law, defScope s_law, [], []⟩
def fn : List He.DefD := [d__wall, d_NoText_init, d_is_whole, d_is_moment, d_want_moment, d_want_below, d_moment_at, d_clock_of, d_show_moment, d_are_figures, d_number_of, d_day_of, d_read_moment, d_is_number, d_Short_moments, d_Short_pieces, d_Short_begins, d_Short_ends, d_Short_means_many, d_Short_nested, d_all_rising, d_shorts_in, d_row_moments, d_row_many, d_row_text, d_At_init, d_At_moments, d_At_pieces, d_At_begins, d_At_ends, d_At_means_many, d_At_nested, d_At_str, d_Over_init, d_Over_parts, d_Over_moments, d_Over_pieces, d_Over_begins, d_Over_ends, d_Over_means_many, d_Over_nested, d_Over_str, d_Spread_init, d_Spread_parts, d_Spread_moments, d_Spread_pieces, d_Spread_eq, d_Spread_len, d_Spread_str, d_Spread_repr, d_number_in, d_at_in, d_item_end, d_over_in, d_read_on, d_read_spread, d__law_pot, d__law_draw, d__law_moments, d__law_row_moments, d__law_wide, d__law_gap, d__law_short, d__law_row, d__law_spread, d__law_made, d__law_word_of, d__law_is_refused, d__law_odd, d__law_no_part, d__law_no_list, d__law_too_early, d__law_bent, d__law_right, d_law]
abbrev R : PySem.W.OpenRow := PySem.W.OpenLaw.row PySem.Challenge.rw_shortgoings_k23_what_is_no_short
def adr0 : List Addr := [3, 286, 523, 455, 383, 454, 285, 522, 382, 70, 82, 31, 30, 44, 57, 94, 106, 118, 130, 149, 331, 400, 471, 69, 81, 248, 255, 262, 269, 276]
def adr1 : List Addr := [283, 338, 345, 352, 359, 366, 373, 380, 407, 412, 419, 426, 433, 440, 445, 452, 478, 485, 492, 499, 506, 513, 520, 1, 21, 158, 165, 172, 179, 187]
def adr2 : List Addr := [194, 201, 206, 213, 220, 227, 234, 295, 300, 307, 312, 317, 532, 539, 546, 553, 560, 567, 574, 581, 586, 593, 600, 607, 614, 621, 628, 633, 640, 647]
def adr3 : List Addr := [654, 661, 668, 675, 680, 685, 692, 20, 43, 56, 93, 105, 117, 129, 148, 157, 164, 171, 178, 186, 180, 193, 200, 205, 212, 219, 226, 233, 294, 299]
def adr4 : List Addr := [306, 311, 316, 531, 538, 545, 552, 559, 566, 573, 580, 585, 592, 599, 606, 613, 620, 627, 632, 639, 646, 653, 660, 667, 674, 679, 684, 691, 146, 145]
def adr5 : List Addr := [247, 254, 261, 268, 275, 282, 330, 337, 344, 351, 358, 365, 372, 379, 399, 393, 406, 411, 418, 425, 432, 439, 444, 451, 470, 477, 484, 491, 498, 505]
def adr6 : List Addr := [512, 519]
def adr : List Addr := adr0 ++ adr1 ++ adr2 ++ adr3 ++ adr4 ++ adr5 ++ adr6
abbrev hk : PySem.W.Hook := hookA adr xf fn
def ob (s : PySem.W.SharedT) : He.AlD := obsA adr xf fn (HandSHeadRun.getT s)
theorem ob_eq (s : PySem.W.SharedT) : ob s = hk.obs s.abs := obsA_eq (HandSHeadRun.getT_eq s)
def ns0 : List PySem.Str := ["_wall", "GoingError", "LackError", "BookError", "NoTime", "NoPiece", "NoDays", "NoCard", "NoName", "NoRow", "NoText", "HOUR", "DAY", "HOURS", "FIGURES_clock", "COLON", "BLANK", "is_whole", "is_moment", "want_moment", "want_below", "moment_at", "clock_of", "show_moment", "are_figures", "number_of", "day_of", "read_moment", "MOST_MOMENTS", "MOST_NESTED"]
def ns1 : List PySem.Str := ["NO_PARTS", "is_number", "Short", "all_rising", "shorts_in", "row_moments", "row_many", "row_text", "At", "Over", "FIGURES_spreads", "Spread", "number_in", "at_in", "item_end", "over_in", "read_on", "read_spread", "_law_pot", "_law_draw", "_law_moments", "_law_row_moments", "_law_wide", "_law_gap", "_law_short", "_law_row", "_law_spread", "_law_made", "_law_word_of", "_law_is_refused"]
def ns2 : List PySem.Str := ["_law_odd", "_law_no_part", "_law_no_list", "_law_too_early", "_law_bent", "_law_right"]
def nss : List PySem.Str := ns0 ++ ns1 ++ ns2
theorem run_a (w : World) : HandSHeadRun.RunA R (PySem.W.view R.prog [71]) 8000 nss w := by
  intro os
  kernel_rfl
theorem run_b (w : World) : HandSHeadRun.RunB R 8000 (fun s => xf1.all fun p => p (He.frG (HandSHeadRun.getT s) adr)) w := by
  intro os
  kernel_rfl
theorem run_c (w : World) : HandSHeadRun.RunB R 8000 (fun s => xf2.all fun p => p (He.frG (HandSHeadRun.getT s) adr)) w := by
  intro os
  kernel_rfl
theorem run_d (w : World) : ∀ os : OsState, (HandSHeadRun.endR R 8000 w os).map (fun s => (fn.all fun d => d.ok (He.frG (HandSHeadRun.getT s) adr), fn.map fun d => He.fnW (He.frG (HandSHeadRun.getT s) adr) d.at_)) = some (true, fn.map He.DefD.val) := by
  intro os
  kernel_rfl
theorem run (w : World) : HandSHeadRun.RunEq R (PySem.W.view R.prog [71]) hk ob 8000 nss w := HandSHeadRun.runEq_of (run_a w) (runC_of rfl (run_b w) (run_c w) (run_d w))
theorem env_of {K : PySem.W.Frag} {h : Heap} {mg : Str → Option Value} (X : K.In h) (G : h.Ns mainGlobals mg) (c : SaysX xf fn K) : Env K mg :=
  ⟨He.glo_ok X G (c.fact 0 (f := fun K => (He.Fa.glo "_wall").ok K) rfl),
  He.glo_ok X G (c.fact 1 (f := fun K => (He.Fa.glo "is_whole").ok K) rfl),
  He.glo_ok X G (c.fact 2 (f := fun K => (He.Fa.glo "is_moment").ok K) rfl),
  He.glo_ok X G (c.fact 3 (f := fun K => (He.Fa.glo "want_moment").ok K) rfl),
  He.glo_ok X G (c.fact 4 (f := fun K => (He.Fa.glo "want_below").ok K) rfl),
  He.glo_ok X G (c.fact 5 (f := fun K => (He.Fa.glo "moment_at").ok K) rfl),
  He.glo_ok X G (c.fact 6 (f := fun K => (He.Fa.glo "clock_of").ok K) rfl),
  He.glo_ok X G (c.fact 7 (f := fun K => (He.Fa.glo "show_moment").ok K) rfl),
  He.glo_ok X G (c.fact 8 (f := fun K => (He.Fa.glo "are_figures").ok K) rfl),
  He.glo_ok X G (c.fact 9 (f := fun K => (He.Fa.glo "number_of").ok K) rfl),
  He.glo_ok X G (c.fact 10 (f := fun K => (He.Fa.glo "day_of").ok K) rfl),
  He.glo_ok X G (c.fact 11 (f := fun K => (He.Fa.glo "read_moment").ok K) rfl),
  He.glo_ok X G (c.fact 12 (f := fun K => (He.Fa.glo "is_number").ok K) rfl),
  He.glo_ok X G (c.fact 13 (f := fun K => (He.Fa.glo "all_rising").ok K) rfl),
  He.glo_ok X G (c.fact 14 (f := fun K => (He.Fa.glo "shorts_in").ok K) rfl),
  He.glo_ok X G (c.fact 15 (f := fun K => (He.Fa.glo "row_moments").ok K) rfl),
  He.glo_ok X G (c.fact 16 (f := fun K => (He.Fa.glo "row_many").ok K) rfl),
  He.glo_ok X G (c.fact 17 (f := fun K => (He.Fa.glo "row_text").ok K) rfl),
  He.glo_ok X G (c.fact 18 (f := fun K => (He.Fa.glo "number_in").ok K) rfl),
  He.glo_ok X G (c.fact 19 (f := fun K => (He.Fa.glo "at_in").ok K) rfl),
  He.glo_ok X G (c.fact 20 (f := fun K => (He.Fa.glo "item_end").ok K) rfl),
  He.glo_ok X G (c.fact 21 (f := fun K => (He.Fa.glo "over_in").ok K) rfl),
  He.glo_ok X G (c.fact 22 (f := fun K => (He.Fa.glo "read_on").ok K) rfl),
  He.glo_ok X G (c.fact 23 (f := fun K => (He.Fa.glo "read_spread").ok K) rfl),
  He.glo_ok X G (c.fact 24 (f := fun K => (He.Fa.glo "_law_pot").ok K) rfl),
  He.glo_ok X G (c.fact 25 (f := fun K => (He.Fa.glo "_law_draw").ok K) rfl),
  He.glo_ok X G (c.fact 26 (f := fun K => (He.Fa.glo "_law_moments").ok K) rfl),
  He.glo_ok X G (c.fact 27 (f := fun K => (He.Fa.glo "_law_row_moments").ok K) rfl),
  He.glo_ok X G (c.fact 28 (f := fun K => (He.Fa.glo "_law_wide").ok K) rfl),
  He.glo_ok X G (c.fact 29 (f := fun K => (He.Fa.glo "_law_gap").ok K) rfl),
  He.glo_ok X G (c.fact 30 (f := fun K => (He.Fa.glo "_law_short").ok K) rfl),
  He.glo_ok X G (c.fact 31 (f := fun K => (He.Fa.glo "_law_row").ok K) rfl),
  He.glo_ok X G (c.fact 32 (f := fun K => (He.Fa.glo "_law_spread").ok K) rfl),
  He.glo_ok X G (c.fact 33 (f := fun K => (He.Fa.glo "_law_made").ok K) rfl),
  He.glo_ok X G (c.fact 34 (f := fun K => (He.Fa.glo "_law_word_of").ok K) rfl),
  He.glo_ok X G (c.fact 35 (f := fun K => (He.Fa.glo "_law_is_refused").ok K) rfl),
  He.glo_ok X G (c.fact 36 (f := fun K => (He.Fa.glo "_law_odd").ok K) rfl),
  He.glo_ok X G (c.fact 37 (f := fun K => (He.Fa.glo "_law_no_part").ok K) rfl),
  He.glo_ok X G (c.fact 38 (f := fun K => (He.Fa.glo "_law_no_list").ok K) rfl),
  He.glo_ok X G (c.fact 39 (f := fun K => (He.Fa.glo "_law_too_early").ok K) rfl),
  He.glo_ok X G (c.fact 40 (f := fun K => (He.Fa.glo "_law_bent").ok K) rfl),
  He.glo_ok X G (c.fact 41 (f := fun K => (He.Fa.glo "_law_right").ok K) rfl),
  He.glo_ok X G (c.fact 42 (f := fun K => (He.Fa.glo "law").ok K) rfl),
  gint_of X G (c.fact 43 (f := fun K => (He.Fa.int "HOUR" (60)).ok K) rfl),
  gint_of X G (c.fact 44 (f := fun K => (He.Fa.int "DAY" (1440)).ok K) rfl),
  gint_of X G (c.fact 45 (f := fun K => (He.Fa.int "HOURS" (24)).ok K) rfl),
  gstr_of X G (c.fact 46 (f := fun K => (He.Fa.str "FIGURES_clock" "0123456789").ok K) rfl),
  gstr_of X G (c.fact 47 (f := fun K => (He.Fa.str "COLON" ":").ok K) rfl),
  gstr_of X G (c.fact 48 (f := fun K => (He.Fa.str "BLANK" " ").ok K) rfl),
  gint_of X G (c.fact 49 (f := fun K => (He.Fa.int "MOST_MOMENTS" (1440)).ok K) rfl),
  gint_of X G (c.fact 50 (f := fun K => (He.Fa.int "MOST_NESTED" (8)).ok K) rfl),
  gstr_of X G (c.fact 51 (f := fun K => (He.Fa.str "NO_PARTS" "-").ok K) rfl),
  gstr_of X G (c.fact 52 (f := fun K => (He.Fa.str "FIGURES_spreads" "0123456789").ok K) rfl),
  He.free_ok X G (c.fact 53 (f := fun K => (He.Fa.free "ValueError").ok K) rfl),
  He.free_ok X G (c.fact 54 (f := fun K => (He.Fa.free "all").ok K) rfl),
  He.free_ok X G (c.fact 55 (f := fun K => (He.Fa.free "bool").ok K) rfl),
  He.free_ok X G (c.fact 56 (f := fun K => (He.Fa.free "divmod").ok K) rfl),
  He.free_ok X G (c.fact 57 (f := fun K => (He.Fa.free "int").ok K) rfl),
  He.free_ok X G (c.fact 58 (f := fun K => (He.Fa.free "isinstance").ok K) rfl),
  He.free_ok X G (c.fact 59 (f := fun K => (He.Fa.free "len").ok K) rfl),
  He.free_ok X G (c.fact 60 (f := fun K => (He.Fa.free "list").ok K) rfl),
  He.free_ok X G (c.fact 61 (f := fun K => (He.Fa.free "max").ok K) rfl),
  He.free_ok X G (c.fact 62 (f := fun K => (He.Fa.free "min").ok K) rfl),
  He.free_ok X G (c.fact 63 (f := fun K => (He.Fa.free "range").ok K) rfl),
  He.free_ok X G (c.fact 64 (f := fun K => (He.Fa.free "str").ok K) rfl),
  He.free_ok X G (c.fact 65 (f := fun K => (He.Fa.free "sum").ok K) rfl),
  He.free_ok X G (c.fact 66 (f := fun K => (He.Fa.free "tuple").ok K) rfl),
  He.free_ok X G (c.fact 67 (f := fun K => (He.Fa.free "zip").ok K) rfl),
  He.glo_ok X G (c.fact 68 (f := fun K => (He.Fa.glo "GoingError").ok K) rfl),
  exo_of (c.fact 69 (f := exoB bmV "ValueError.__new__" "GoingError") rfl),
  He.glo_ok X G (c.fact 70 (f := fun K => (He.Fa.glo "LackError").ok K) rfl),
  exo_of (c.fact 71 (f := exoB bmL "LookupError.__new__" "LackError") rfl),
  He.glo_ok X G (c.fact 72 (f := fun K => (He.Fa.glo "BookError").ok K) rfl),
  exo_of (c.fact 73 (f := exoB bmR "RuntimeError.__new__" "BookError") rfl),
  He.glo_ok X G (c.fact 74 (f := fun K => (He.Fa.glo "NoTime").ok K) rfl),
  exo_of (c.fact 75 (f := exoB bmV "ValueError.__new__" "NoTime") rfl),
  He.glo_ok X G (c.fact 76 (f := fun K => (He.Fa.glo "NoPiece").ok K) rfl),
  exo_of (c.fact 77 (f := exoB bmV "ValueError.__new__" "NoPiece") rfl),
  He.glo_ok X G (c.fact 78 (f := fun K => (He.Fa.glo "NoDays").ok K) rfl),
  exo_of (c.fact 79 (f := exoB bmV "ValueError.__new__" "NoDays") rfl),
  He.glo_ok X G (c.fact 80 (f := fun K => (He.Fa.glo "NoCard").ok K) rfl),
  exo_of (c.fact 81 (f := exoB bmV "ValueError.__new__" "NoCard") rfl),
  He.glo_ok X G (c.fact 82 (f := fun K => (He.Fa.glo "NoName").ok K) rfl),
  exo_of (c.fact 83 (f := exoB bmV "ValueError.__new__" "NoName") rfl),
  He.glo_ok X G (c.fact 84 (f := fun K => (He.Fa.glo "NoRow").ok K) rfl),
  exo_of (c.fact 85 (f := exoB bmV "ValueError.__new__" "NoRow") rfl),
  He.glo_ok X G (c.fact 86 (f := fun K => (He.Fa.glo "NoText").ok K) rfl),
  He.glo_ok X G (c.fact 87 (f := fun K => (He.Fa.glo "Short").ok K) rfl),
  He.glo_ok X G (c.fact 88 (f := fun K => (He.Fa.glo "At").ok K) rfl),
  He.glo_ok X G (c.fact 89 (f := fun K => (He.Fa.glo "Over").ok K) rfl),
  He.glo_ok X G (c.fact 90 (f := fun K => (He.Fa.glo "Spread").ok K) rfl),
  sys_of (c.fact 91 (f := sysB) rfl),
  He.cls_ok (c.fact 92 (f := fun K => (He.Fa.cls "Short").ok K) rfl),
  insC_of (c.fact 93 (f := insB "Short") rfl),
  He.meth_ok (c.fact 94 (f := fun K => (He.Fa.meth "Short" "moments").ok K) rfl),
  He.meth_ok (c.fact 95 (f := fun K => (He.Fa.meth "Short" "pieces").ok K) rfl),
  He.meth_ok (c.fact 96 (f := fun K => (He.Fa.meth "Short" "begins").ok K) rfl),
  He.meth_ok (c.fact 97 (f := fun K => (He.Fa.meth "Short" "ends").ok K) rfl),
  He.meth_ok (c.fact 98 (f := fun K => (He.Fa.meth "Short" "means_many").ok K) rfl),
  He.meth_ok (c.fact 99 (f := fun K => (He.Fa.meth "Short" "nested").ok K) rfl),
  of_decide_eq_true (c.fact 100 (f := kitF "Short" "Short" true) rfl),
  of_decide_eq_true (c.fact 101 (f := kitF "Short" "Spread" false) rfl),
  of_decide_eq_true (c.fact 102 (f := kitFT "Short" "int" false) rfl),
  of_decide_eq_true (c.fact 103 (f := kitFT "Short" "bool" false) rfl),
  of_decide_eq_true (c.fact 104 (f := kitFT "Short" "str" false) rfl),
  of_decide_eq_true (c.fact 105 (f := kitFT "Short" "list" false) rfl),
  of_decide_eq_true (c.fact 106 (f := kitFT "Short" "tuple" false) rfl),
  of_decide_eq_true (c.fact 107 (f := kitFT "Short" "ValueError" false) rfl),
  He.cls_ok (c.fact 108 (f := fun K => (He.Fa.cls "At").ok K) rfl),
  insC_of (c.fact 109 (f := insB "At") rfl),
  He.noat_ok (c.fact 110 (f := fun K => (He.Fa.noat "At" "moment").ok K) rfl),
  He.meth_ok (c.fact 111 (f := fun K => (He.Fa.meth "At" "__init__").ok K) rfl),
  He.meth_ok (c.fact 112 (f := fun K => (He.Fa.meth "At" "moments").ok K) rfl),
  He.meth_ok (c.fact 113 (f := fun K => (He.Fa.meth "At" "pieces").ok K) rfl),
  He.meth_ok (c.fact 114 (f := fun K => (He.Fa.meth "At" "begins").ok K) rfl),
  He.meth_ok (c.fact 115 (f := fun K => (He.Fa.meth "At" "ends").ok K) rfl),
  He.meth_ok (c.fact 116 (f := fun K => (He.Fa.meth "At" "means_many").ok K) rfl),
  He.meth_ok (c.fact 117 (f := fun K => (He.Fa.meth "At" "nested").ok K) rfl),
  He.meth_ok (c.fact 118 (f := fun K => (He.Fa.meth "At" "__str__").ok K) rfl),
  He.mkr_ok (c.fact 119 (f := fun K => (He.Fa.mkr "At").ok K) rfl),
  of_decide_eq_true (c.fact 120 (f := kitF "At" "Short" true) rfl),
  of_decide_eq_true (c.fact 121 (f := kitF "At" "Spread" false) rfl),
  of_decide_eq_true (c.fact 122 (f := kitFT "At" "int" false) rfl),
  of_decide_eq_true (c.fact 123 (f := kitFT "At" "bool" false) rfl),
  of_decide_eq_true (c.fact 124 (f := kitFT "At" "str" false) rfl),
  of_decide_eq_true (c.fact 125 (f := kitFT "At" "list" false) rfl),
  of_decide_eq_true (c.fact 126 (f := kitFT "At" "tuple" false) rfl),
  of_decide_eq_true (c.fact 127 (f := kitFT "At" "ValueError" false) rfl),
  He.cls_ok (c.fact 128 (f := fun K => (He.Fa.cls "Over").ok K) rfl),
  insC_of (c.fact 129 (f := insB "Over") rfl),
  He.noat_ok (c.fact 130 (f := fun K => (He.Fa.noat "Over" "kept").ok K) rfl),
  He.noat_ok (c.fact 131 (f := fun K => (He.Fa.noat "Over" "many").ok K) rfl),
  He.noat_ok (c.fact 132 (f := fun K => (He.Fa.noat "Over" "step").ok K) rfl),
  He.meth_ok (c.fact 133 (f := fun K => (He.Fa.meth "Over" "__init__").ok K) rfl),
  He.meth_ok (c.fact 134 (f := fun K => (He.Fa.meth "Over" "parts").ok K) rfl),
  He.meth_ok (c.fact 135 (f := fun K => (He.Fa.meth "Over" "moments").ok K) rfl),
  He.meth_ok (c.fact 136 (f := fun K => (He.Fa.meth "Over" "pieces").ok K) rfl),
  He.meth_ok (c.fact 137 (f := fun K => (He.Fa.meth "Over" "begins").ok K) rfl),
  He.meth_ok (c.fact 138 (f := fun K => (He.Fa.meth "Over" "ends").ok K) rfl),
  He.meth_ok (c.fact 139 (f := fun K => (He.Fa.meth "Over" "means_many").ok K) rfl),
  He.meth_ok (c.fact 140 (f := fun K => (He.Fa.meth "Over" "nested").ok K) rfl),
  He.meth_ok (c.fact 141 (f := fun K => (He.Fa.meth "Over" "__str__").ok K) rfl),
  He.mkr_ok (c.fact 142 (f := fun K => (He.Fa.mkr "Over").ok K) rfl),
  of_decide_eq_true (c.fact 143 (f := kitF "Over" "Short" true) rfl),
  of_decide_eq_true (c.fact 144 (f := kitF "Over" "Spread" false) rfl),
  of_decide_eq_true (c.fact 145 (f := kitFT "Over" "int" false) rfl),
  of_decide_eq_true (c.fact 146 (f := kitFT "Over" "bool" false) rfl),
  of_decide_eq_true (c.fact 147 (f := kitFT "Over" "str" false) rfl),
  of_decide_eq_true (c.fact 148 (f := kitFT "Over" "list" false) rfl),
  of_decide_eq_true (c.fact 149 (f := kitFT "Over" "tuple" false) rfl),
  of_decide_eq_true (c.fact 150 (f := kitFT "Over" "ValueError" false) rfl),
  He.cls_ok (c.fact 151 (f := fun K => (He.Fa.cls "Spread").ok K) rfl),
  insC_of (c.fact 152 (f := insB "Spread") rfl),
  He.noat_ok (c.fact 153 (f := fun K => (He.Fa.noat "Spread" "kept").ok K) rfl),
  He.noat_ok (c.fact 154 (f := fun K => (He.Fa.noat "Spread" "held").ok K) rfl),
  He.meth_ok (c.fact 155 (f := fun K => (He.Fa.meth "Spread" "__init__").ok K) rfl),
  He.meth_ok (c.fact 156 (f := fun K => (He.Fa.meth "Spread" "parts").ok K) rfl),
  He.meth_ok (c.fact 157 (f := fun K => (He.Fa.meth "Spread" "moments").ok K) rfl),
  He.meth_ok (c.fact 158 (f := fun K => (He.Fa.meth "Spread" "pieces").ok K) rfl),
  He.meth_ok (c.fact 159 (f := fun K => (He.Fa.meth "Spread" "__eq__").ok K) rfl),
  He.meth_ok (c.fact 160 (f := fun K => (He.Fa.meth "Spread" "__len__").ok K) rfl),
  He.meth_ok (c.fact 161 (f := fun K => (He.Fa.meth "Spread" "__str__").ok K) rfl),
  He.meth_ok (c.fact 162 (f := fun K => (He.Fa.meth "Spread" "__repr__").ok K) rfl),
  He.mkr_ok (c.fact 163 (f := fun K => (He.Fa.mkr "Spread").ok K) rfl),
  noBase_of (c.fact 164 (f := noBaseF "Spread") rfl),
  of_decide_eq_true (c.fact 165 (f := kitF "Spread" "Short" false) rfl),
  of_decide_eq_true (c.fact 166 (f := kitF "Spread" "Spread" true) rfl),
  of_decide_eq_true (c.fact 167 (f := kitFT "Spread" "int" false) rfl),
  of_decide_eq_true (c.fact 168 (f := kitFT "Spread" "bool" false) rfl),
  of_decide_eq_true (c.fact 169 (f := kitFT "Spread" "str" false) rfl),
  of_decide_eq_true (c.fact 170 (f := kitFT "Spread" "list" false) rfl),
  of_decide_eq_true (c.fact 171 (f := kitFT "Spread" "tuple" false) rfl),
  of_decide_eq_true (c.fact 172 (f := kitFT "Spread" "ValueError" false) rfl),
  of_decide_eq_true (c.fact 173 (f := kitBF "int" "Short" false) rfl),
  of_decide_eq_true (c.fact 174 (f := kitBF "bool" "Short" false) rfl),
  of_decide_eq_true (c.fact 175 (f := kitBF "str" "Short" false) rfl),
  of_decide_eq_true (c.fact 176 (f := kitBF "NoneType" "Short" false) rfl),
  of_decide_eq_true (c.fact 177 (f := kitBF "list" "Short" false) rfl),
  of_decide_eq_true (c.fact 178 (f := kitBF "tuple" "Short" false) rfl),
  of_decide_eq_true (c.fact 179 (f := kitBF "dict" "Short" false) rfl),
  of_decide_eq_true (c.fact 180 (f := kitBF "int" "Spread" false) rfl),
  of_decide_eq_true (c.fact 181 (f := kitBF "bool" "Spread" false) rfl),
  of_decide_eq_true (c.fact 182 (f := kitBF "str" "Spread" false) rfl),
  of_decide_eq_true (c.fact 183 (f := kitBF "NoneType" "Spread" false) rfl),
  of_decide_eq_true (c.fact 184 (f := kitBF "list" "Spread" false) rfl),
  of_decide_eq_true (c.fact 185 (f := kitBF "tuple" "Spread" false) rfl),
  of_decide_eq_true (c.fact 186 (f := kitBF "dict" "Spread" false) rfl),
  of_decide_eq_true (c.fact 187 (f := exm1F "NoTime" "NoTime" true) rfl),
  of_decide_eq_true (c.fact 188 (f := exm1F "NoTime" "GoingError" true) rfl),
  excC_of (c.fact 189 (f := excCB "NoTime") rfl),
  of_decide_eq_true (c.fact 190 (f := kitF "NoTime" "GoingError" true) rfl),
  of_decide_eq_true (c.fact 191 (f := kitF "NoTime" "LackError" false) rfl),
  of_decide_eq_true (c.fact 192 (f := kitF "NoTime" "BookError" false) rfl),
  of_decide_eq_true (c.fact 193 (f := kitF "NoTime" "NoTime" true) rfl),
  of_decide_eq_true (c.fact 194 (f := kitF "NoTime" "NoPiece" false) rfl),
  of_decide_eq_true (c.fact 195 (f := kitF "NoTime" "NoDays" false) rfl),
  of_decide_eq_true (c.fact 196 (f := kitF "NoTime" "NoCard" false) rfl),
  of_decide_eq_true (c.fact 197 (f := kitF "NoTime" "NoName" false) rfl),
  of_decide_eq_true (c.fact 198 (f := kitF "NoTime" "NoRow" false) rfl),
  of_decide_eq_true (c.fact 199 (f := kitF "NoTime" "NoText" false) rfl),
  of_decide_eq_true (c.fact 200 (f := kitFT "NoTime" "ValueError" true) rfl),
  of_decide_eq_true (c.fact 201 (f := kitFT "NoTime" "LookupError" false) rfl),
  of_decide_eq_true (c.fact 202 (f := kitFT "NoTime" "RuntimeError" false) rfl),
  of_decide_eq_true (c.fact 203 (f := exm3F "NoTime" ["GoingError", "LackError", "BookError"]) rfl),
  of_decide_eq_true (c.fact 204 (f := exm1F "NoPiece" "NoTime" false) rfl),
  of_decide_eq_true (c.fact 205 (f := exm1F "NoPiece" "GoingError" true) rfl),
  excC_of (c.fact 206 (f := excCB "NoPiece") rfl),
  of_decide_eq_true (c.fact 207 (f := kitF "NoPiece" "GoingError" true) rfl),
  of_decide_eq_true (c.fact 208 (f := kitF "NoPiece" "LackError" false) rfl),
  of_decide_eq_true (c.fact 209 (f := kitF "NoPiece" "BookError" false) rfl),
  of_decide_eq_true (c.fact 210 (f := kitF "NoPiece" "NoTime" false) rfl),
  of_decide_eq_true (c.fact 211 (f := kitF "NoPiece" "NoPiece" true) rfl),
  of_decide_eq_true (c.fact 212 (f := kitF "NoPiece" "NoDays" false) rfl),
  of_decide_eq_true (c.fact 213 (f := kitF "NoPiece" "NoCard" false) rfl),
  of_decide_eq_true (c.fact 214 (f := kitF "NoPiece" "NoName" false) rfl),
  of_decide_eq_true (c.fact 215 (f := kitF "NoPiece" "NoRow" false) rfl),
  of_decide_eq_true (c.fact 216 (f := kitF "NoPiece" "NoText" false) rfl),
  of_decide_eq_true (c.fact 217 (f := kitFT "NoPiece" "ValueError" true) rfl),
  of_decide_eq_true (c.fact 218 (f := kitFT "NoPiece" "LookupError" false) rfl),
  of_decide_eq_true (c.fact 219 (f := kitFT "NoPiece" "RuntimeError" false) rfl),
  of_decide_eq_true (c.fact 220 (f := exm3F "NoPiece" ["GoingError", "LackError", "BookError"]) rfl),
  c.def_ 0 (d := d__wall) rfl,
  c.def_ 1 (d := d_NoText_init) rfl,
  c.def_ 2 (d := d_is_whole) rfl,
  c.def_ 3 (d := d_is_moment) rfl,
  c.def_ 4 (d := d_want_moment) rfl,
  c.def_ 5 (d := d_want_below) rfl,
  c.def_ 6 (d := d_moment_at) rfl,
  c.def_ 7 (d := d_clock_of) rfl,
  c.def_ 8 (d := d_show_moment) rfl,
  c.def_ 9 (d := d_are_figures) rfl,
  c.def_ 10 (d := d_number_of) rfl,
  c.def_ 11 (d := d_day_of) rfl,
  c.def_ 12 (d := d_read_moment) rfl,
  c.def_ 13 (d := d_is_number) rfl,
  c.def_ 14 (d := d_Short_moments) rfl,
  c.def_ 15 (d := d_Short_pieces) rfl,
  c.def_ 16 (d := d_Short_begins) rfl,
  c.def_ 17 (d := d_Short_ends) rfl,
  c.def_ 18 (d := d_Short_means_many) rfl,
  c.def_ 19 (d := d_Short_nested) rfl,
  c.def_ 20 (d := d_all_rising) rfl,
  c.def_ 21 (d := d_shorts_in) rfl,
  c.def_ 22 (d := d_row_moments) rfl,
  c.def_ 23 (d := d_row_many) rfl,
  c.def_ 24 (d := d_row_text) rfl,
  c.def_ 25 (d := d_At_init) rfl,
  c.def_ 26 (d := d_At_moments) rfl,
  c.def_ 27 (d := d_At_pieces) rfl,
  c.def_ 28 (d := d_At_begins) rfl,
  c.def_ 29 (d := d_At_ends) rfl,
  c.def_ 30 (d := d_At_means_many) rfl,
  c.def_ 31 (d := d_At_nested) rfl,
  c.def_ 32 (d := d_At_str) rfl,
  c.def_ 33 (d := d_Over_init) rfl,
  c.def_ 34 (d := d_Over_parts) rfl,
  c.def_ 35 (d := d_Over_moments) rfl,
  c.def_ 36 (d := d_Over_pieces) rfl,
  c.def_ 37 (d := d_Over_begins) rfl,
  c.def_ 38 (d := d_Over_ends) rfl,
  c.def_ 39 (d := d_Over_means_many) rfl,
  c.def_ 40 (d := d_Over_nested) rfl,
  c.def_ 41 (d := d_Over_str) rfl,
  c.def_ 42 (d := d_Spread_init) rfl,
  c.def_ 43 (d := d_Spread_parts) rfl,
  c.def_ 44 (d := d_Spread_moments) rfl,
  c.def_ 45 (d := d_Spread_pieces) rfl,
  c.def_ 46 (d := d_Spread_eq) rfl,
  c.def_ 47 (d := d_Spread_len) rfl,
  c.def_ 48 (d := d_Spread_str) rfl,
  c.def_ 49 (d := d_Spread_repr) rfl,
  c.def_ 50 (d := d_number_in) rfl,
  c.def_ 51 (d := d_at_in) rfl,
  c.def_ 52 (d := d_item_end) rfl,
  c.def_ 53 (d := d_over_in) rfl,
  c.def_ 54 (d := d_read_on) rfl,
  c.def_ 55 (d := d_read_spread) rfl,
  c.def_ 56 (d := d__law_pot) rfl,
  c.def_ 57 (d := d__law_draw) rfl,
  c.def_ 58 (d := d__law_moments) rfl,
  c.def_ 59 (d := d__law_row_moments) rfl,
  c.def_ 60 (d := d__law_wide) rfl,
  c.def_ 61 (d := d__law_gap) rfl,
  c.def_ 62 (d := d__law_short) rfl,
  c.def_ 63 (d := d__law_row) rfl,
  c.def_ 64 (d := d__law_spread) rfl,
  c.def_ 65 (d := d__law_made) rfl,
  c.def_ 66 (d := d__law_word_of) rfl,
  c.def_ 67 (d := d__law_is_refused) rfl,
  c.def_ 68 (d := d__law_odd) rfl,
  c.def_ 69 (d := d__law_no_part) rfl,
  c.def_ 70 (d := d__law_no_list) rfl,
  c.def_ 71 (d := d__law_too_early) rfl,
  c.def_ 72 (d := d__law_bent) rfl,
  c.def_ 73 (d := d__law_right) rfl,
  c.def_ 74 (d := d_law) rfl⟩
end Toy
open PySem PySem.W PySem.Calls PyProof.Rows
set_option maxRecDepth 100000 in
set_option maxHeartbeats 0 in
theorem PySem.Challenge.cw_shortgoings_k23_what_is_no_short_holds : PySem.Challenge.rw_shortgoings_k23_what_is_no_short.Holds := by
  w_on; o_law
  refine HandSHeadRun.head_any (r := OpenLaw.row PySem.Challenge.rw_shortgoings_k23_what_is_no_short) (q := view (OpenLaw.row PySem.Challenge.rw_shortgoings_k23_what_is_no_short).prog [71]) (H := Toy.hk) (ob := Toy.ob) (M := 8000) (loose := Toy.nss) (d := HandSHeadRun.topDef (OpenLaw.row PySem.Challenge.rw_shortgoings_k23_what_is_no_short).prog 71) (kwd := []) Toy.ob_eq
    (by kernel_rfl) (fun s => by kernel_rfl) Toy.run (by kernel_rfl) (by kernel_rfl) (by kernel_rfl) (by rfl) (by first | assumption | decide +kernel) (by decide +kernel) ⟨rfl, rfl, rfl, rfl, rfl, by decide +kernel⟩ ?hw ?hc
  case hw => w_witness2
  case hc =>
    refine L3.walk_end (l := PySem.Challenge.rw_shortgoings_k23_what_is_no_short) (n := 63) (k := 126) (x := "_law_script") rfl (by decide) (by kernel_rfl) (L3.rm_caller.mono (by decide)) ?F
    intro w mg fa h Y G hmg0
    obtain ⟨K, KX, c⟩ := Y
    have hmg : mg ("law" : PySem.Str) = some (.ref fa) := by
      have e : (HandSHeadRun.topDef (OpenLaw.row PySem.Challenge.rw_shortgoings_k23_what_is_no_short).prog 71).name = ("law" : PySem.Str) := by kernel_rfl
      rw [← e]
      exact hmg0
    have T := Toy.env_of KX G c
    have e := hmg.symm.trans T.g_law
    cases e
    obtain ⟨fd, F⟩ := T.f_law
    have b := L2.FunD.bindsA (ps := ["_law_script"]) F fun _ _ _ _ _ _ us hl => match us, hl with | [_], _ => rfl
    exact ⟨K, fd, Toy.sp_law K, KX, fun s v => b s [v] rfl, fun H a ns hl hS => ⟨a, ns, rfl, hS, hl, fun _ => rfl⟩, fun base _ _ => Toy.ok_law T F⟩
