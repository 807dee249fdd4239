import PyProof.Rows.All
import Wide.All
import OpenK.AllK
import Wide.FinOn
import PyProof.EqAt
import PyProof.EqKinds
import PyProof.TupleCall
import HandS.ForMost
import HandS.ForExc
import HandS.Defaults
import HandS.MakeKwOnly
import HandS.WideBits
import HandS.IsInst
import HandS.Flow
import HandS.Style
import HandS.Evl
import HandS.StrMore
import HandS.TupAny
import HandS.SortInts
import HandS.RaiseMore
import HandS.Zip
import HandS.Head0
import HandS.Head1
import HandS.Head2
import HandS.HeadEnd
import HandS.HeadHook1
import HandS.HeadHook2
import HandS.Walk
import PyProof.Rows.StrJoinRep
import PyProof.StrLawsLast
import HandS.Codes
import HandS.ExcIs
import KE.KTryMore
import KE.KFmtOwn
import PyProof.InstSpecial
import HandS.TryOnly
import HandS.FStr
import HandS.Conv
import HandS.SetFor
import HandS.Strs
import HandS.OwnEq
import HandS.Deep
import HandS.RaiseFrom
import HandS.SuiteRaise
import HandS.Exc
import KE.GoesMore
import HandS.HotCalls
import HandS.ExcField
import HandS.More
import HandS.SetTxt0
import KE.KExcInit
import HandS.ExcInit
import HandS.ExcValue
import KE.KDictZip
import HandS.TupMul
import PySem.Challenge.RW_shortgoings_k16_refusals_made
set_option Elab.async false
set_option linter.all false
set_option maxRecDepth 100000
set_option maxHeartbeats 4000000
namespace L3
open PySem PySem.Spec PyProof.Rows L2
structure Rm (k : Nat) (A : Around) : Prop where
  rm : Room k A
  gd : A.guards = some []
theorem Rm.mono {j k : Nat} {A : Around} (r : Rm k A) (h : j ≤ k) : Rm j A := ⟨r.rm.mono h, r.gd⟩
theorem Rm.deeper {k : Nat} {A : Around} (r : Rm (k + 1) A) (env : Env) : Rm k (A.deeper env) := ⟨r.rm.deeper env, r.gd⟩
theorem make_guards {A : Around} {C : Addr} {us : List Value} {kw : List (Str × Value)} : (A.under (.builtin "type.__call__" ⟨.ref C :: us, kw⟩)).guards = A.guards := by
  have e : Code.guards (.builtin "type.__call__" ⟨.ref C :: us, kw⟩) = [] := by
    first | rfl | simp [Code.guards, Code.isGuard, guardIds]
  show pushGuards (Code.guards (.builtin "type.__call__" ⟨.ref C :: us, kw⟩)) A.guards = A.guards
  rw [e]
  cases A.guards <;> rfl
theorem Rm.make {k : Nat} {A : Around} (r : Rm (k + 1) A) (C : Addr) (us : List Value) (kw : List (Str × Value)) : Rm k (A.under (.builtin "type.__call__" ⟨.ref C :: us, kw⟩)) :=
  ⟨r.rm.make C us kw, make_guards.trans r.gd⟩
structure Fb (P : Program) (w : World) (K : PySem.W.Frag) (mg : Str → Option Value) (base : Heap) (k : Nat) (f : Addr) (fd : FuncData) (ps : List Str) (sp : Sp) : Prop where
  len : ∀ vs H Q E, sp vs H Q E → vs.length = ps.length
  run : ∀ (A : Around) (outer : List Env) (s : Shared) (H : Hp) (args : Args) (us : List Value) (vs : List V) (Q : VK) (E : XK), Rm k A → Env0 P w K mg base A outer s H → BindsTo s fd args (ps.zip us) → Vals vs us → sp vs H Q E →
    codeAny (model P w) A (.call (.ref f) args) (CR (L2.CX P w) outer P w H s Q E) s
section
variable {P : Program} {w : World} {K : PySem.W.Frag} {mg : Str → Option Value} {base : Heap} {x qual : Str} {params : Arguments} {body : List Stmt} {scope : Scope} {dvs : List V} {kws : List (Str × V)} {f : Addr} {fd : FuncData} {k : Nat} {ps N : List Str} {sp : Sp}
theorem fb_of (F : FunD K x qual params body scope dvs kws f fd) (S : FnScope N ps scope) (len : ∀ vs H Q E, sp vs H Q E → vs.length = ps.length)
    (hbody : ∀ (cdv : Value) (A : Around) (outer : List Env) (s : Shared) (H : Hp) (vs : List V) (Q : VK) (E : XK), Rm k (A.deeper (envOfC qual scope s.heap.objs.size f cdv)) → sp vs H Q E →
      ∃ t, PSs (cxOf (L2.CX P w) P w K mg base N qual scope f cdv A outer s H E) body t ∧ t { nx := fun _ H' => Q .non H', rt := Q } (start N vs) H) : Fb P w K mg base (k + 1) f fd ps sp := by
  obtain ⟨oc, od, dV, kV, doc, pm, an, cdv, ct, osl, rfl, lk, hcd, _, _⟩ := F.ex
  refine ⟨len, fun A outer s H args us vs Q E hr e0 hb r hsp => ?_⟩
  have hl := len _ _ _ _ hsp
  have KX : K.In s.heap := e0.mod.kin.keeps fun b o e => (e0.bs b o e).1
  have lim : s.heap.NoLimit := e0.mod.nolimit.keeps fun b o e => (e0.bs b o e).1
  have hkind : ∀ y ∈ ps.zip us, scope.names.lookup y.1 = some .local ∨ (scope.names.lookup y.1 = some .cell ∧ ((cellsFrom (s.heap.objs.size + 1) scope.names []).lookup y.1).isSome = true) := fun ⟨n, v⟩ hy => by
    rcases S.par n (List.of_mem_zip hy).1 with q | q
    · exact .inl q
    · exact .inr ⟨q, PySem.W.cellsFrom_some _ _ _ (.inl q)⟩
  refine codeAny_call_function hr.rm.depth (KX _ _ lk) rfl S.co S.gen rfl (PySem.W.codeRec_of KX hcd) (hb _ _ _ _ ?_)
  refine wpAny_newFunctionEnv_cells S.kind hkind fun env he s1 x => ?_
  subst he
  refine ⟨lim.keeps x.toInCall.keep, codeAny_func ?_⟩
  obtain ⟨t, ht, hq⟩ := hbody cdv A outer s H vs Q E (hr.deeper _) hsp
  have I : Inv (cxOf (L2.CX P w) P w K mg base N qual scope f cdv A outer s H E) [] (start N vs) H s1 := inv_start S hr.rm.hd e0 hl r x
  refine wpAny_mono (ht.run [] s1 (start N vs) H _ I hq) (fun fl s' hs => ?_) fun e s' hs => hs
  have fin : ∀ {σ' : L2.St} {H' : Hp} {v : V} {u : Value}, Inv (cxOf (L2.CX P w) P w K mg base N qual scope f cdv A outer s H E) [] σ' H' s' → RelV v u → Q v H' → CE outer P w H s Q u s' :=
    fun {σ' H' v u} J rv q => ⟨v, H', J.os, J.bare, J.base, J.hok, rv, q⟩
  cases fl with
  | ret u =>
    obtain ⟨v, σ', H', J, rv, q⟩ := hs
    exact fin J rv q
  | next =>
    obtain ⟨σ', H', J, q⟩ := hs
    exact fin (v := V.non) (u := Value.none) J rfl q
  | brk =>
    obtain ⟨_, _, _, q⟩ := hs
    exact False.elim q
  | cont =>
    obtain ⟨_, _, _, q⟩ := hs
    exact False.elim q
theorem Fb.mono {j : Nat} (F : Fb P w K mg base j f fd ps sp) (h : j ≤ k) : Fb P w K mg base k f fd ps sp := ⟨F.len, fun A outer s H args us vs Q E hr => F.run A outer s H args us vs Q E (hr.mono h)⟩
theorem Fb.imp {sp' : Sp} (F : Fb P w K mg base k f fd ps sp) (h : ∀ vs H Q E, sp' vs H Q E → sp vs H Q E) : Fb P w K mg base k f fd ps sp' :=
  ⟨fun vs H Q E q => F.len vs H Q E (h _ _ _ _ q), fun A outer s H args us vs Q E hr he hb hv hs => F.run A outer s H args us vs Q E hr he hb hv (h _ _ _ _ hs)⟩
def Fc (P : Program) (w : World) (K : PySem.W.Frag) (mg : Str → Option Value) (base : Heap) (k : Nat) (f : Addr) (ks : List Str) (sp : Sp) : Prop :=
  ∀ (A : Around) (outer : List Env) (s : Shared) (H : Hp) (us ws : List Value) (vs : List V) (Q : VK) (E : XK), Rm k A → Env0 P w K mg base A outer s H → Vals vs (us ++ ws) → ws.length = ks.length → sp vs H Q E →
    codeAny (model P w) A (.call (.ref f) ⟨us, ks.zip ws⟩) (CR (L2.CX P w) outer P w H s Q E) s
theorem Fc.mono {j : Nat} {ks : List Str} (F : Fc P w K mg base j f ks sp) (h : j ≤ k) : Fc P w K mg base k f ks sp := fun A outer s H us ws vs Q E hr => F A outer s H us ws vs Q E (hr.mono h)
theorem Fc.imp {sp' : Sp} {ks : List Str} (F : Fc P w K mg base k f ks sp) (h : ∀ vs H Q E, sp' vs H Q E → sp vs H Q E) : Fc P w K mg base k f ks sp' :=
  fun A outer s H us ws vs Q E hr he hv hl hs => F A outer s H us ws vs Q E hr he hv hl (h _ _ _ _ hs)
/-- every parameter is given by place -/
theorem Fb.all (F : Fb P w K mg base k f fd ps sp) (hb : Binds K fd ps []) : Fc P w K mg base k f [] sp := fun A outer s H us ws vs Q E hr e0 r hl h => by
  cases ws with
  | cons w ws => cases hl
  | nil =>
    rw [List.append_nil] at r
    have KX : K.In s.heap := e0.mod.kin.keeps fun b o e => (e0.bs b o e).1
    have l2 : us.length = ps.length := by rw [← r.length]; exact F.len _ _ _ _ h
    have b := hb s us KX (by rw [List.append_nil]; exact l2)
    rw [List.append_nil] at b
    exact F.run A outer s H ⟨us, []⟩ us vs Q E hr e0 b r h
/-- all parameters given, some by name, no defaults -/
theorem Fb.names (D : FunD K x qual params body scope [] kws f fd) (F : Fb P w K mg base k f fd ps sp) (n : Nat) (ks : List Str) (g : {α : Type} → List α → List α)
    (hrel : ∀ {vs : List V} {us : List Value}, Vals vs us → Vals (g vs) (g us))
    (h : ∀ (kV doc pm : Value) (an : Option Addr) (cdv ct : Value) (us ws : List Value), us.length = n → ws.length = ks.length →
      bindArgs (PySem.W.fnOf x qual params body scope .none kV doc pm an cdv ct) ⟨us, ks.zip ws⟩ = pure (ps.zip (g (us ++ ws)))) :
    Fc P w K mg base k f ks (fun vs H Q E => vs.length = n + ks.length ∧ sp (g vs) H Q E) := by
  obtain ⟨oc, od, dV, kV, doc, pm, an, cdv, ct, osl, rfl, lk, hcd, hD, hK⟩ := D.ex
  rcases hD with ⟨_, rfl⟩ | ⟨e, _⟩
  · intro A outer s H us ws vs Q E hr e0 r hl hsp
    have l2 : us.length = n := by
      have e := r.length
      rw [hsp.1, List.length_append, hl] at e
      omega
    exact F.run A outer s H ⟨us, ks.zip ws⟩ (g (us ++ ws)) (g vs) Q E hr e0 (.of_eq (h kV doc pm an cdv ct us ws l2 hl)) (hrel r) hsp.2
  · exact absurd rfl e
end
def tFc (sp : Sp) (W : WX) (t : TA) : TE := fun σ H Q => t σ H fun vs H1 => sp vs H1 Q (WE W σ)
section
variable {X : Cx} {k : Nat} {f C : Addr} {ks : List Str} {sp : Sp} {W : WX} {x m : Str} {p pos apos : Pos} {e o : Expr} {es : List Expr} {kws : List Keyword} {ta : TE} {t tk : TA}
theorem run_fc {pins : List (Addr × Obj)} {σ : L2.St} {H : Hp} {s : Shared} {Q : VK} {us ws : List Value} {vs : List V} (F : Fc X.prog X.w X.K X.mg X.base k f ks sp) (hr : Rm k X.A) (hx : Takes X W)
    (I : Inv X pins σ H s) (r : Vals vs (us ++ ws)) (hl : ws.length = ks.length) (h : sp vs H Q (WE W σ)) : wpAny (model X.prog X.w) X.A (call (.ref f) us (ks.zip ws)) (EP X pins σ Q) X.xe s := by
  refine wpAny_call (codeAny_mono (F X.A X.stack s H us ws vs Q (WE W σ) hr I.env0 r hl h) fun r s' hq => ?_)
  cases r with
  | error e => exact passAt hx σ pins H s e s' I hq
  | ok fl =>
    cases fl with
    | ret u => exact I.after hq
    | next => exact False.elim hq
    | brk => exact False.elim hq
    | cont => exact False.elim hq
/-- f(e, ..) -/
theorem c_call (F : Fc X.prog X.w X.K X.mg X.base k f [] sp) (hr : Rm k X.A) (hm : X.mg x = some (.ref f)) (hk : PySem.W.keepIn X.K (.ref f) = true) (hx : Takes X W)
    (ha : PA X (e :: es) t) (hg : Gl X x := by rfl) (hdb : (x == ("__debug__" : Str)) = false := by decide) (he : starEach (e :: es) X.env = (false, eval e X.env) :: starEach es X.env := by rfl) (hpl : (backTo pos (starEach es X.env)).any (·.1) = false := by rfl) :
    PE X (.Call (.Name x p) (e :: es) [] pos) (tFc sp W t) := by
  refine ⟨fun pins s σ H Q I h => ?_⟩
  refine wpAny_Call_Name_kw (ld_glob I hg hm ?_ hdb)
  refine PySem.W.callWith_K (h₀ := X.base) I.ok.mod.kin hk (thn (ha.run pos pins s σ H _ I h) fun us s1 ⟨vs, H1, I1, r, q⟩ => ⟨I1.kIn, ?_⟩) he hpl
  exact run_fc (ws := []) F hr hx I1 (by rw [List.append_nil]; exact r) rfl q
end
@[irreducible] def rRepr (K : PySem.W.Frag) : List V → Hp → VK → Prop := fun xs H Q => ∃ (a : Addr) (d : PyData), xs = [.ref a] ∧ Dp K H (.ref a) d ∧ d.hasDict = false ∧ d.showable = true ∧ d.depth ≤ 60 ∧ d.shown.length ≤ sizeLine ∧ Q (.str d.shown) H
theorem call_repr {X : Cx} {k : Nat} (hr : Rm k X.A) : CallR X (.builtin "repr") (rRepr X.K) := by
  intro pins s σ H xs us Q I r h
  unfold rRepr at h
  obtain ⟨a, d, rfl, hd, hnd, hs, hdp, hsz, q⟩ := h
  cases r with
  | cons r1 r2 =>
    cases r2
    obtain ⟨as, rd⟩ := Dp.reads I d (.ref a) _ hd r1
    obtain rfl : _ = Value.ref a := r1
    refine repr_of_reads' rd hs (PyData.noDict_hsm hnd) hr.gd (by have := hr.rm.un; omega) (fun _ _ e => e) (fun h' u tk hk => ?_) hsz
    exact ⟨.str d.shown, H, I.kept hk, ⟨u, rfl⟩, q⟩
theorem rm_caller : Rm 230 callerA := ⟨⟨rfl, by decide, by decide⟩, rfl⟩
section
variable {P : Program} {w : World} {K : PySem.W.Frag} {mg mb : Str → Option Value} {k : Nat} {fa a : Addr} {fd : FuncData} {x : Str} {sp : Sp} {s₁ : Shared} {vs : List Value} {ns : List Int}
/-- the law's call over one abstract heap, in which at most the script is tracked -/
theorem law_core (H : Hp) (KX : K.In s₁.heap) (hns : s₁.heap.Ns mainGlobals mg) (hb : s₁.heap.Ns builtinsNs mb) (hbb : ∀ x : Str, x ≠ "__name__" → mb x = bootBuiltins x) (hlim : s₁.heap.NoLimit) (hg : s₁.gens = #[])
    (ha : s₁.heap.get? a = some { cls := .type "list", data := .seq vs.toArray }) (hr : Rm k callerA)
    (F : ∀ base : Heap, K.In base → base.Ns mainGlobals mg → Fb P w K mg base k fa fd [x] sp) (hbind : ∀ (s : Shared) (u : Value), BindsTo s fd ⟨[u], []⟩ [(x, u)])
    (hO : Only H) (hsp : sp [.ref a] H (fun v _ => v = .bl true) fun _ _ _ => False) (hok : HOk P w H s₁.heap) (hA : ∀ b, H b ≠ none → b = a) (hK : H a ≠ none → K.lookup a = none) :
    codeAny (model P w) callerA (.call (.ref fa) ⟨[.ref a], []⟩) (fun r s' => r = .ok (.ret (.bool true)) ∧ OldK s₁.heap s'.heap ∧ s'.os = s₁.os ∧ AllBare s'.gens) s₁ := by
  have isA : ∀ {b : Addr} {u : HO}, H b = some u → b = a := fun {b u} q => hA b (fun z => nomatch (q.symm.trans z))
  have free : ∀ {b : Addr} {o : Obj} {es : Array DictEntry} {ep : Nat}, s₁.heap.get? b = some o → o.data = .dict es ep → H b = none := fun {b o es ep} e d => by
    cases q : H b with
    | none => rfl
    | some u =>
      have eb := isA q
      subst eb
      rw [ha] at e
      cases e
      cases (show Data.seq vs.toArray _ = Data.dict es ep from d)
  have nsK : ∀ {b : Addr} {m : Str → Option Value}, s₁.heap.Ns b m → (hidT s₁.heap H).Ns b m := fun {b m} ⟨o, es, ep, e, d, r⟩ => ⟨o, es, ep, hidT_get e (free e d), d, r⟩
  have inK : K.In (hidT s₁.heap H) := fun b o e => hidT_get (KX b o e) (by
    cases q : H b with
    | none => rfl
    | some u =>
      have eb := isA q
      subst eb
      rw [hK (fun z => nomatch (q.symm.trans z))] at e
      cases e)
  have hM : Mod K mg (hidT s₁.heap H) := ⟨inK, nsK hns, ⟨mb, nsK hb, hbb⟩, let ⟨mc, h1, h2⟩ := hlim; ⟨mc, nsK h1, h2⟩⟩
  have e0 : Env0 P w K mg (hidT s₁.heap H) callerA [] s₁ H := ⟨rfl, hM, fun b o e => of_hidT e, Nat.le_of_eq (hidT_size _ _), trivial, (fun b z => nomatch (show b ∈ ([] : List Addr) from z)), hok, .of_eq hg⟩
  refine codeAny_mono ((F _ inK (nsK hns)).run callerA [] s₁ H ⟨[.ref a], []⟩ [.ref a] [.ref a] _ _ hr e0 (hbind s₁ (.ref a)) (.cons rfl .nil) hsp) fun r s' h => ?_
  cases r with
  | error e =>
    obtain ⟨_, _, _, _, _, _, _, _, _, _, _, _, z⟩ := h
    exact z.elim
  | ok fl =>
    cases fl with
    | next => exact h.elim
    | brk => exact h.elim
    | cont => exact h.elim
    | ret u =>
      obtain ⟨v, H', os, bare, un, hok2, rv, rfl⟩ := h
      obtain rfl : u = Value.bool true := rv
      refine ⟨rfl, OldK.of_keep fun b o e => ?_, os, bare⟩
      cases q : H b with
      | none => exact un.keep b o e q (fun z => nomatch (show b ∈ ([] : List Addr) from z)) (fun z => nomatch z)
      | some u =>
        rcases hO b with z | ⟨ob, xs, z⟩
        · exact nomatch (q.symm.trans z)
        · have e1 := (hok b _ z).1
          have e2 := (hok2 b _ (un.frzs b ob _ z)).1
          rw [e] at e1
          cases e1
          exact e2
theorem law_end (KX : K.In s₁.heap) (hns : s₁.heap.Ns mainGlobals mg) (hb : s₁.heap.Ns builtinsNs mb) (hbb : ∀ x : Str, x ≠ "__name__" → mb x = bootBuiltins x) (hlim : s₁.heap.NoLimit) (hg : s₁.gens = #[])
    (ha : s₁.heap.get? a = some { cls := .type "list", data := .seq vs.toArray }) (hi : IntsAre vs ns) (hl : ns.length ≤ sizeLine) (hr : Rm k callerA)
    (F : ∀ base : Heap, K.In base → base.Ns mainGlobals mg → Fb P w K mg base k fa fd [x] sp) (hbind : ∀ (s : Shared) (u : Value), BindsTo s fd ⟨[u], []⟩ [(x, u)])
    (hsp : ∀ H : Hp, SqL K H a (ns.map V.int) → sp [.ref a] H (fun v _ => v = .bl true) fun _ _ _ => False) :
    codeAny (model P w) callerA (.call (.ref fa) ⟨[.ref a], []⟩) (fun r s' => r = .ok (.ret (.bool true)) ∧ OldK s₁.heap s'.heap ∧ s'.os = s₁.os ∧ AllBare s'.gens) s₁ := by
  have rv := vals_ints hi
  cases hk : K.lookup a with
  | some o =>
    have e := KX a o hk
    rw [ha] at e
    cases e
    have sq : SqL K (fun _ => none) a (ns.map V.int) := .inr ⟨_, vs.toArray, _, hk, rfl, rfl, rfl, by rw [List.size_toArray, hi.length]; exact hl, by simpa using rv⟩
    exact law_core (fun _ => none) KX hns hb hbb hlim hg ha hr F hbind (fun _ => .inl rfl) (hsp _ sq) (fun b u z => nomatch (show (none : Option HO) = some u from z)) (fun b z => absurd rfl z) fun z => absurd rfl z
  | none =>
    have h1 : ∀ b, b ≠ a → (upd (fun _ => none) a (.frz { cls := .type "list", data := .seq vs.toArray } (.lst (ns.map V.int)))) b = none := fun b n => upd_ne n
    refine law_core (upd (fun _ => none) a (.frz { cls := .type "list", data := .seq vs.toArray } (.lst (ns.map V.int)))) KX hns hb hbb hlim hg ha hr F hbind (fun b => ?_) (hsp _ (.inl (.inr ⟨_, upd_same⟩))) (fun b u z => ?_) (fun b z => ?_) fun _ => hk
    · by_cases n : b = a
      · subst n
        exact .inr ⟨_, _, upd_same⟩
      · exact .inl (h1 b n)
    · by_cases n : b = a
      · subst n
        rw [upd_same] at z
        cases z
        exact ⟨ha, by rw [List.length_map]; exact hl, vs, _, rv, ha⟩
      · rw [h1 b n] at z
        cases z
    · by_cases n : b = a
      · exact n
      · exact absurd (h1 b n) z
end
theorem walk_end {l : PySem.W.OpenLaw} {n k : Nat} {q : Program} {loose : List Str} {XP : (Str → Option Value) → Heap → Prop} {YP : World → Heap → Prop} {d : DefRec} {x : Str}
    (hn : l.most = some n) (hn2 : n ≤ sizeLine) (hdf : d.params.defaults = []) (hr : Rm k callerA)
    (F : ∀ (w : World) (mg : Str → Option Value) (fa : Addr) (h : Heap), YP w h → h.Ns mainGlobals mg → mg d.name = some (.ref fa) →
      ∃ (K : PySem.W.Frag) (fd : FuncData) (sp : Sp), K.In h ∧ (∀ (s : Shared) (u : Value), BindsTo s fd ⟨[u], []⟩ [(x, u)]) ∧
        (∀ (H : Hp) (a : Addr) (ns : List Int), ns.length ≤ n → SqL K H a (ns.map V.int) → sp [.ref a] H (fun v _ => v = .bl true) fun _ _ _ => False) ∧
        ∀ base : Heap, K.In base → base.Ns mainGlobals mg → Fb l.prog w K mg base k fa fd [x] sp) :
    PySem.W.WalkO q loose XP YP l.row.toRowW d [] (fun f vs => PySem.call f vs) := by
  refine Att.attach_call hn hdf fun w s₀ s₁ mg mb fa o pm cd doc a vs ns G Y ho hd hcd hmg hobj hints hlen hg => ?_
  obtain ⟨K, fd, sp, KX, hb, hsp, hF⟩ := F w mg fa _ Y G.T.g hmg
  exact law_end KX G.T.g G.T.b G.T.builtins G.T.nolimit hg hobj hints (Nat.le_trans hlen hn2) hr hF hb (fun H hS => hsp H a ns hlen hS)
end L3
set_option Elab.async false
set_option linter.all false
set_option maxRecDepth 100000
set_option maxHeartbeats 4000000
namespace L3
open PySem PySem.Spec PyProof.Rows L2
abbrev Fx := PySem.W.Frag → Bool
def obsX (xf : List Fx) (fn : List He.DefD) (K : PySem.W.Frag) : He.AlD := ((xf.all fun p => p K) && fn.all fun d => d.ok K, fn.map fun d => He.fnW K d.at_)
def SaysX (xf : List Fx) (fn : List He.DefD) (K : PySem.W.Frag) : Prop := obsX xf fn K = He.valD fn
section
variable {xf : List Fx} {fn : List He.DefD} {K : PySem.W.Frag}
theorem SaysX.fact (c : SaysX xf fn K) (i : Nat) {f : Fx} (h : xf[i]? = some f := by rfl) : f K = true := by
  have c1 := (He.ba (show ((xf.all fun f => f K) && fn.all fun d => d.ok K) = true from congrArg (fun z : He.AlD => z.1) c)).1
  exact List.all_eq_true.mp c1 f (List.mem_of_getElem? h)
theorem SaysX.def_ (c : SaysX xf fn K) (i : Nat) {d : He.DefD} (h : fn[i]? = some d := by rfl) : ∃ fd, FunD K d.name d.qual d.params d.body d.scope (d.dvs K) (d.kws K) (He.fAd K d.at_) fd := by
  have c2 := (He.ba (show ((xf.all fun f => f K) && fn.all fun d => d.ok K) = true from congrArg (fun z : He.AlD => z.1) c)).2
  have e : fn.map (fun d => He.fnW K d.at_) = fn.map He.DefD.val := congrArg (fun z : He.AlD => z.2) c
  have e2 : (fn.map fun d => He.fnW K d.at_)[i]? = (fn.map He.DefD.val)[i]? := by rw [e]
  rw [List.getElem?_map, List.getElem?_map, h] at e2
  exact He.DefD.funD (Option.some.inj e2) (List.all_eq_true.mp c2 d (List.mem_of_getElem? h))
end
structure Exo (K : PySem.W.Frag) (C : Addr) (bmB : List Value) (newId : String) : Prop where
  x : PySem.W.excIn K C bmB newId = true
  kp : PySem.W.keepIn K (.ref C) = true
  sub : PySem.W.subIn K (.ref C) (.type "BaseException") = some true
  ty : PySem.W.typeIn K (.ref C) = some (.type "type")
abbrev bmV : List Value := [.type "ValueError", .type "Exception", .type "BaseException", .type "object"]
abbrev bmL : List Value := [.type "LookupError", .type "Exception", .type "BaseException", .type "object"]
abbrev bmR : List Value := [.type "RuntimeError", .type "Exception", .type "BaseException", .type "object"]
def exoB (bmB : List Value) (newId : String) (x : Str) : Fx := fun K => PySem.W.excIn K (He.ga K x) bmB newId && (PySem.W.keepIn K (.ref (He.ga K x)) && (decide (PySem.W.subIn K (.ref (He.ga K x)) (.type "BaseException") = some true) && decide (PySem.W.typeIn K (.ref (He.ga K x)) = some (.type "type"))))
theorem exo_of {bmB : List Value} {newId : String} {x : Str} {K : PySem.W.Frag} (h : exoB bmB newId x K = true) : Exo K (He.ga K x) bmB newId := by
  obtain ⟨h1, h⟩ := He.ba h
  obtain ⟨h2, h⟩ := He.ba h
  obtain ⟨h3, h4⟩ := He.ba h
  exact ⟨h1, h2, of_decide_eq_true h3, of_decide_eq_true h4⟩
end L3
set_option Elab.async false
set_option linter.all false
set_option maxRecDepth 100000
set_option maxHeartbeats 4000000
namespace L3
open PySem PySem.Spec PyProof.Rows L2
abbrev Ex (H H' : Hp) : Prop := Same H H'
theorem ex_new {H : Hp} {p : Addr} {o : HO} (h : H p = none) : Ex H (upd H p o) := fun a u e => by
  rw [upd_ne (ne_of_none e h)]
  exact e
/-- an object that H does not know may change -/
theorem ex_mut {H H' : Hp} {p : Addr} {o : HO} (e : Ex H H') (h : H p = none) : Ex H (upd H' p o) := fun a u ha => by
  rw [upd_ne (ne_of_none ha h)]
  exact e a u ha
theorem ex_sql {K : PySem.W.Frag} {H H' : Hp} {a : Addr} {xs : List V} (e : Ex H H') (h : SqL K H a xs) : SqL K H' a xs := Same.seq e h
theorem ex_sqt {K : PySem.W.Frag} {H H' : Hp} {a : Addr} {xs : List V} (e : Ex H H') (h : SqT K H a xs) : SqT K H' a xs := by
  rcases h with (h | ⟨o, h⟩) | h
  · exact .inl (.inl (e _ _ h))
  · exact .inl (.inr ⟨o, e _ _ h⟩)
  · exact .inr h
theorem ex_fresh {H H' : Hp} {p : Addr} (e : Ex H H') (h : H' p = none) : H p = none := Same.free e h
theorem sq_lst {K : PySem.W.Frag} {H : Hp} {a : Addr} {xs : List V} (h : H a = some (.lst xs)) : SqL K H a xs := .inl (.inl h)
theorem sq_tup {K : PySem.W.Frag} {H : Hp} {a : Addr} {xs : List V} (h : H a = some (.tup xs)) : SqT K H a xs := .inl (.inl h)
/-- a value of a known type -/
def isW : V → Bool
  | .int _ => true
  | _ => false
def Cl (K : PySem.W.Frag) (H : Hp) (x : V) : Prop := ∃ t b c, TyX K H x t ∧ PySem.W.kitOne K t (.type "int") = some b ∧ PySem.W.kitOne K t (.type "bool") = some c ∧ isW x = (b && !c)
/-- given values and defaults in the parameters' order -/
def pick {α : Type} (ix : List (Sum Nat Nat)) (us its : List α) : List α := ix.filterMap fun j => match j with
  | .inl i => us[i]?
  | .inr i => its[i]?
theorem pick_vals {vs ds : List V} {us its : List Value} (ix : List (Sum Nat Nat)) (r1 : Vals vs us) (r2 : Vals ds its) : Vals (pick ix vs ds) (pick ix us its) := by
  have one : ∀ {vs : List V} {us : List Value} (i : Nat), Vals vs us → (∃ v u, vs[i]? = some v ∧ us[i]? = some u ∧ RelV v u) ∨ (vs[i]? = none ∧ us[i]? = none) := fun {vs us} i r => by
    cases e : vs[i]? with
    | none => exact .inr ⟨rfl, r.none_of e⟩
    | some v =>
      obtain ⟨u, h1, h2⟩ := r.get e
      exact .inl ⟨v, u, rfl, h1, h2⟩
  induction ix with
  | nil => exact .nil
  | cons j ix ih =>
    unfold pick at ih ⊢
    cases j with
    | inl i =>
      rcases one i r1 with ⟨v, u, h1, h2, h3⟩ | ⟨h1, h2⟩
      · simp only [List.filterMap_cons, h1, h2]
        exact .cons h3 ih
      · simp only [List.filterMap_cons, h1, h2]
        exact ih
    | inr i =>
      rcases one i r2 with ⟨v, u, h1, h2, h3⟩ | ⟨h1, h2⟩
      · simp only [List.filterMap_cons, h1, h2]
        exact .cons h3 ih
      · simp only [List.filterMap_cons, h1, h2]
        exact ih
end L3
namespace L3
open PySem PySem.Spec PyProof.Rows L2
theorem log_of {n : Nat} (h : n < 10 ^ 200) : n.log2 < 1920 := PySem.Flt.log2_lt_of (by decide) (Nat.lt_trans h (by decide +kernel))
/-- data that repr shows, without dicts: whole numbers of at most 500 figures, texts of any signs -/
def okI (i : Int) : Bool := decide (i.natAbs < 10 ^ 200)
def okT (x : Str) : Bool := x.cps.toList.all fun c => decide (c < 16 ^ 8)
mutual
def okD : PyData → Bool
  | .none => true
  | .bool _ => true
  | .int i => okI i
  | .str x => okT x
  | .list xs => okL xs
  | .tuple xs => okL xs
  | .dict _ => false
def okL : List PyData → Bool
  | [] => true
  | x :: xs => okD x && okL xs
end
mutual
def szD : PyData → Nat
  | .none => 4
  | .bool _ => 5
  | .int _ => 1921
  | .str x => 10 * x.length + 2
  | .list xs => szL xs + 3
  | .tuple xs => szL xs + 3
  | .dict _ => 0
def szL : List PyData → Nat
  | [] => 0
  | x :: xs => szD x + 2 + szL xs
end
mutual
theorem okD_tells : ∀ d : PyData, okD d = true → d.hasDict = false ∧ d.showable = true ∧ d.shown.length ≤ szD d
  | .none, _ => ⟨rfl, rfl, Nat.le_refl _⟩
  | .bool b, _ => ⟨rfl, rfl, by cases b <;> decide⟩
  | .int i, h => by
    have h1 : i.natAbs < 10 ^ 200 := of_decide_eq_true (show decide (i.natAbs < 10 ^ 200) = true from h)
    exact ⟨rfl, decide_eq_true (log_of h1), int_text_len_1921 (log_of h1)⟩
  | .str x, h => by
    have h1 : ∀ c ∈ x.cps.toList, c < 16 ^ 8 := fun c hc => of_decide_eq_true (List.all_eq_true.mp h c hc)
    exact ⟨rfl, rfl, StrLaws.reprText_len x h1⟩
  | .list xs, h => by
    obtain ⟨h1, h2, h3⟩ := okL_tells xs h
    refine ⟨h1, h2, Nat.le_trans (listText_len_le (PyData.shownAll xs)) ?_⟩
    have e := PyData.shownAll_length xs
    show _ ≤ szL xs + 3
    omega
  | .tuple xs, h => by
    obtain ⟨h1, h2, h3⟩ := okL_tells xs h
    refine ⟨h1, h2, Nat.le_trans (tupleText_len_le (PyData.shownAll xs)) ?_⟩
    have e := PyData.shownAll_length xs
    show _ ≤ szL xs + 3
    omega
  | .dict _, h => by cases h
theorem okL_tells : ∀ xs : List PyData, okL xs = true → PyData.hasDictAll xs = false ∧ PyData.showableAll xs = true ∧ ((PyData.shownAll xs).map (·.length)).sum + 2 * xs.length ≤ szL xs
  | [], _ => ⟨rfl, rfl, Nat.le_refl _⟩
  | x :: xs, h => by
    obtain ⟨g1, g2⟩ := He.ba (show (okD x && okL xs) = true from h)
    obtain ⟨h1, h2, h3⟩ := okD_tells x g1
    obtain ⟨k1, k2, k3⟩ := okL_tells xs g2
    refine ⟨?_, ?_, ?_⟩
    · show (x.hasDict || PyData.hasDictAll xs) = false
      rw [h1, k1]
      rfl
    · show (x.showable && PyData.showableAll xs) = true
      rw [h2, k2]
      rfl
    · show (x.shown.length + ((PyData.shownAll xs).map (·.length)).sum) + 2 * (xs.length + 1) ≤ szD x + 2 + szL xs
      omega
end
/-- repr of a list, a tuple -/
theorem rr_data {K : PySem.W.Frag} {H : Hp} {a : Addr} {d : PyData} {Q : VK} (h : Dp K H (.ref a) d) (ho : okD d = true) (hz : szD d ≤ 16000000) (hd : d.depth ≤ 60) (q : Q (.str d.shown) H) : rRepr K [.ref a] H Q := by
  obtain ⟨h1, h2, h3⟩ := okD_tells d ho
  unfold rRepr
  exact ⟨a, d, rfl, h, h1, h2, hd, Nat.le_trans h3 (Nat.le_trans hz (by rw [sizeLine_eq]; decide)), q⟩
end L3
namespace L3
open PySem PySem.Spec PyProof.Rows L2
section
variable {K : PySem.W.Frag} {a : Addr} {xs : List V} {g : TG} {tt : TT} {te : TE} {vs : List Nat} {σ : L2.St} {H1 : Hp} {D : Addr} {Qd : Hp → Prop}
theorem small_len {n : Nat} (h : n ≤ 100000) : n < sizeLine := Nat.lt_of_le_of_lt h (by rw [sizeLine_eq]; decide)
abbrev Turn (g : TG) (tt : TT) (te : TE) (vs : List Nat) (σ : L2.St) (D : Addr) (x : V) (H : Hp) (N : Hp → Prop) : Prop :=
  g x (wipe σ vs) H fun σ2 H2 => wipe σ2 vs = wipe σ vs ∧ tt σ2 H2 fun b H3 => if b = true then te σ2 H3 fun y H4 => ∃ acc, H4 D = some (.lst acc) ∧ acc.length < sizeLine ∧ N (upd H4 D (.lst (acc ++ [y]))) else N H3
end
end L3
namespace L3
open PySem PySem.Spec PyProof.Rows L2
abbrev turns (most : Int) (n : Nat) : Int := if (if most < (n : Int) then most else (n : Int)) > (1 : Int) then (if most < (n : Int) then most else (n : Int)) else (1 : Int)
theorem turns_lo (most : Int) (n : Nat) (h : 0 < most ∧ most ≤ 63) : -(2 ^ 62) ≤ turns most n := by
  unfold turns
  split <;> split <;> omega
theorem turns_hi (most : Int) (n : Nat) (h : 0 < most ∧ most ≤ 63) : turns most n < 2 ^ 62 := by
  unfold turns
  split <;> split <;> omega
theorem turns_lt {i : Nat} (most : Int) (n : Nat) (h : 0 < most ∧ most ≤ 63) (hi : i < (turns most n).toNat) : i < 1000 := by
  unfold turns at hi
  split at hi <;> split at hi <;> omega
end L3
set_option Elab.async false
set_option linter.all false
set_option maxRecDepth 100000
set_option maxHeartbeats 4000000
namespace L3
open PySem PySem.Spec PyProof.Rows L2 TL
section
variable {J : It} {n : Nat} {G : Hp → Prop} {Y : Nat → Hp → V → Hp → Prop} {g : TG} {tt : TT} {te : TE} {vs : List Nat} {σ : L2.St} {H1 : Hp} {D : Addr} {Qd : Hp → Prop}
theorem range_fm_succ (fm : Nat → Option V) (i : Nat) : (List.range (i + 1)).filterMap fm = match fm i with
    | some y => (List.range i).filterMap fm ++ [y]
    | none => (List.range i).filterMap fm := by
  rw [List.range_succ, List.filterMap_append]
  cases e : fm i with
  | none => simp [e]
  | some y => simp [e]
theorem fm_len (fm : Nat → Option V) (i : Nat) : ((List.range i).filterMap fm).length ≤ i := by
  have := List.length_filterMap_le fm (List.range i)
  rwa [List.length_range] at this
theorem lc_fm (w : L2.Walk J n G Y) (fm : Nat → Option V) (I : Hp → Prop) (hI : ∀ H l, I H → I (upd H D (.lst l))) (i0 : I H1) (hn : n ≤ 100000) (hG : ∀ H, I H → G H)
    (hs : ∀ (i : Nat) (x : V) (H H' : Hp) (acc : List V) (N : Hp → Prop), i < n → I H → H D = some (.lst acc) → acc.length < sizeLine → Y i H x H' →
      (∀ H4, I H4 → H4 D = some (.lst acc) → match fm i with | some y => N (upd H4 D (.lst (acc ++ [y]))) | none => N H4) → Turn g tt te vs σ D x H' N)
    (hd : ∀ H, I H → H D = some (.lst ((List.range n).filterMap fm)) → Qd H) :
    ∃ W : Nat → Nat → Hp → Prop, (∃ m, W 0 m (upd H1 D (.lst []))) ∧ ∀ i m H, W i m H →
      (J.stop i H ∧ Qd H) ∨ (J.go i H ∧ ∃ Nx : Hp → Prop, (∀ H', Nx H' → ∃ m', m' < m ∧ W (i + 1) m' H') ∧ ∀ x H', J.yld i H x H' → Turn g tt te vs σ D x H' Nx) := by
  refine L2.lc_it w (fun i H => I H ∧ i ≤ n ∧ H D = some (.lst ((List.range i).filterMap fm))) ⟨hI _ _ i0, Nat.zero_le _, upd_same⟩ (fun i H _ p => hG H p.1) ?_ (fun H p => hd H p.1 p.2.2)
  rintro i x H H' hi ⟨p1, p2, p3⟩ y
  refine hs i x H H' _ _ hi p1 p3 (small_len (Nat.le_trans (fm_len fm i) (by omega))) y fun H4 i4 d4 => ?_
  have e := range_fm_succ fm i
  cases q : fm i with
  | none =>
    rw [q] at e
    exact ⟨i4, hi, by rw [e]; exact d4⟩
  | some y =>
    rw [q] at e
    exact ⟨hI _ _ i4, hi, by rw [upd_same, e]⟩
end
end L3
set_option Elab.async false
set_option linter.all false
set_option maxRecDepth 100000
set_option maxHeartbeats 4000000
namespace Mo
open PySem TL
def val (l : List Nat) : Nat := NumText.digitsVal l
end Mo
set_option Elab.async false
set_option linter.all false
set_option maxRecDepth 100000
set_option maxHeartbeats 4000000
namespace L3
open PySem PySem.Spec PyProof.Rows L2
theorem flying_keeps {B h h' : Heap} {l : List Env} {a : Addr} {Z : Obj → Prop} (f : HandSPX.FlyingZ B l a Z h) (k : ∀ b o, h.get? b = some o → h'.get? b = some o) : HandSPX.FlyingZ B l a Z h' := by
  obtain ⟨f1, f2, f3, oe, vs, T, oT, ts, g1, g2, g3, g4, g5, g6, g7, g8⟩ := f
  exact ⟨fun b o e => k _ _ (f1 b o e), f2, Heap.FunFrames.of_keeps (fun b o e _ => ⟨o, k _ _ e, rfl⟩) f3, oe, vs, T, oT, ts, k _ _ g1, g2, g3, g4, g5, g6, k _ _ g7, g8⟩
/-- what such a clause wishes of an exception of the body: it is caught; slot i is n's -/
def wTup (K : PySem.W.Frag) (cs : List Value) (i : Nat) (ts : Addr → Value → Option Addr → TS) (D : Ends) : WX := fun cls d σ H =>
  PySem.W.exmAny K cls cs = some true ∧ ∀ a, H a = none → ts a cls d { nx := fun σ' H' => D.nx (σ'.set i none) H', rt := D.rt, bk := fun σ' H' => D.bk (σ'.set i none) H', ct := fun σ' H' => D.ct (σ'.set i none) H' } (σ.set i (some (.ref a))) H
def excCB (x : Str) : Fx := fun K => He.eqO (PySem.W.findIn K (.ref (He.ga K x)) "__getattribute__") (some (some (.builtin "BaseException.__getattribute__"))) && (He.eqO (PySem.W.findIn K (.ref (He.ga K x)) "__getattr__") (some none) && (decide (PySem.W.subIn K (.ref (He.ga K x)) (.type "BaseException") = some true) && (PySem.W.hasDictIn K (He.ga K x) &&
  (He.eqO (PySem.W.findIn K (.ref (He.ga K x)) "__class__") (some (some (.builtin "object.__class__"))) && (He.eqO (PySem.W.specialIn K (.builtin "object.__class__") "__get__") (some (some (.builtin "getset_descriptor.__get__"))) && (decide (PySem.W.takesIn K (.builtin "object.__class__") = some true) && decide (PySem.W.mroIn K (He.ga K x) (.type "object") = some true)))))))
theorem excC_of {x : Str} {K : PySem.W.Frag} (h : excCB x K = true) : ExcC K (He.ga K x) := by
  obtain ⟨h1, h⟩ := He.ba h
  obtain ⟨h2, h⟩ := He.ba h
  obtain ⟨h3, h⟩ := He.ba h
  obtain ⟨h4, h⟩ := He.ba h
  obtain ⟨h5, h⟩ := He.ba h
  obtain ⟨h6, h⟩ := He.ba h
  obtain ⟨h7, h8⟩ := He.ba h
  exact ⟨He.eqO_ok h1, He.eqO_ok h2, of_decide_eq_true h3, h4, He.eqO_ok h5, He.eqO_ok h6, of_decide_eq_true h7, of_decide_eq_true h8⟩
def kitF (x y : Str) (b : Bool) : Fx := fun K => decide (PySem.W.kitOne K (.ref (He.ga K x)) (.ref (He.ga K y)) = some b)
def kitFT (x : Str) (y : String) (b : Bool) : Fx := fun K => decide (PySem.W.kitOne K (.ref (He.ga K x)) (.type y) = some b)
def exm3F (x : Str) (ys : List Str) : Fx := fun K => decide (PySem.W.exmAny K (.ref (He.ga K x)) (ys.map fun y => .ref (He.ga K y)) = some true)
end L3
set_option Elab.async false
set_option linter.all false
set_option maxRecDepth 100000
set_option maxHeartbeats 4000000
namespace L3
open PySem PySem.Spec PyProof.Rows L2
def keyD : Key → PyData
  | .inl i => .int i
  | .inr x => .str x
def zipK : List (Key × V) → List PyData → List (PyData × PyData)
  | (k, _) :: r, d :: ds => (keyD k, d) :: zipK r ds
  | _, _ => []
inductive Dq (K : PySem.W.Frag) (H : Hp) : V → PyData → Prop
  | non : Dq K H .non .none
  | bl (b : Bool) : Dq K H (.bl b) (.bool b)
  | int (i : Int) : Dq K H (.int i) (.int i)
  | str (x : Str) : Dq K H (.str x) (.str x)
  | lst {a : Addr} {xs : List V} {ds : List PyData} : SqL K H a xs → xs.length = ds.length → (∀ (i : Nat) (x : V) (d : PyData), xs[i]? = some x → ds[i]? = some d → Dq K H x d) → Dq K H (.ref a) (.list ds)
  | tup {a : Addr} {xs : List V} {ds : List PyData} : SqT K H a xs → xs.length = ds.length → (∀ (i : Nat) (x : V) (d : PyData), xs[i]? = some x → ds[i]? = some d → Dq K H x d) → Dq K H (.ref a) (.tuple ds)
  | dct {a : Addr} {kvs : List (Key × V)} {ds : List PyData} : H a = some (.dK kvs) → kvs.length = ds.length → (∀ (i : Nat) (k : Key) (x : V) (d : PyData), kvs[i]? = some (k, x) → ds[i]? = some d → Dq K H x d) → Dq K H (.ref a) (.dict (zipK kvs ds))
theorem Dq.mono {K : PySem.W.Frag} {H H' : Hp} {x : V} {d : PyData} (e : Ex H H') (h : Dq K H x d) : Dq K H' x d := by
  induction h with
  | non => exact .non
  | bl b => exact .bl b
  | int i => exact .int i
  | str x => exact .str x
  | lst s l _ ih => exact .lst (ex_sql e s) l ih
  | tup s l _ ih => exact .tup (ex_sqt e s) l ih
  | dct s l _ ih => exact .dct (e _ _ s) l ih
theorem all_reads {h : Heap} : ∀ (xs : List V) (ds : List PyData) (us : List Value), xs.length = ds.length → Vals xs us → (∀ (i : Nat) (x : V) (d : PyData), xs[i]? = some x → ds[i]? = some d → ∀ u, RelV x u → ∃ as, Reads h u d as ∧ sysModules ∉ as) → ∃ as, ReadsAll h us ds as ∧ sysModules ∉ as
  | [], [], _, _, r, _ => by
    cases r
    exact ⟨_, .nil, by simp⟩
  | x :: xs, d :: ds, _, l, r, h => by
    cases r with
    | cons r1 r2 =>
      obtain ⟨as, q1, n1⟩ := h 0 x d rfl rfl _ r1
      obtain ⟨bs, q2, n2⟩ := all_reads xs ds _ (by simpa using l) r2 fun i y e h1 h2 => h (i + 1) y e (by simpa using h1) (by simpa using h2)
      refine ⟨_, .cons q1 q2, fun z => ?_⟩
      rcases List.mem_append.mp z with z | z
      · exact n1 z
      · exact n2 z
theorem key_reads {h : Heap} {k : Key} {v : Value} (e : keyIs k v = true) : Reads h v (keyD k) [] := by
  rcases keyIs_shape e with ⟨i, t, rfl, rfl⟩ | ⟨x, t, rfl, rfl⟩
  · exact .int i t
  · exact .str x t
theorem kv_reads {P : Program} {w : World} {h : Heap} : ∀ (kvs : List (Key × V)) (ds : List PyData) (es : List DictEntry) (vs : List (Key × Value)), kvs.length = ds.length → KV kvs vs → Pairs (mixKind P w) es vs →
    (∀ (i : Nat) (k : Key) (x : V) (d : PyData), kvs[i]? = some (k, x) → ds[i]? = some d → ∀ u, RelV x u → ∃ as, Reads h u d as ∧ sysModules ∉ as) →
    ReadsAll h (es.map (·.key)) ((zipK kvs ds).map (·.1)) [] ∧ ∃ bs, ReadsAll h (es.map (·.val)) ((zipK kvs ds).map (·.2)) bs ∧ sysModules ∉ bs
  | [], [], es, vs, _, r, p, _ => by
    cases r
    cases p
    exact ⟨.nil, _, .nil, by simp⟩
  | (k, x) :: kvs, d :: ds, es, vs, l, r, p, h => by
    cases r with
    | cons r1 r2 =>
      cases p with
      | cons p1 p2 p3 =>
        obtain ⟨as, q1, n1⟩ := h 0 k x d rfl rfl _ r1.2
        obtain ⟨h1, bs, q2, n2⟩ := kv_reads kvs ds _ _ (by simpa using l) r2 p3 fun i k' y e h1 h2 => h (i + 1) k' y e (by simpa using h1) (by simpa using h2)
        refine ⟨ReadsAll.cons (as := []) (bs := []) (key_reads (by have e : k = _ := r1.1; subst e; exact p1)) h1, as ++ bs, ReadsAll.cons (by rw [← p2] at q1; exact q1) q2, fun z => ?_⟩
        rcases List.mem_append.mp z with z | z
        · exact n1 z
        · exact n2 z
/-- the part that is written holds sys.modules: a dict -/
def SysK (K : PySem.W.Frag) : Prop := ∃ o, K.lookup sysModules = some o ∧ o.cls = .type "dict"
theorem Dq.reads {X : Cx} {pins : List (Addr × Obj)} {σ : L2.St} {H : Hp} {s : Shared} (I : Inv X pins σ H s) (S : SysK X.K) {x : V} {d : PyData} (h : Dq X.K H x d) : ∀ u, RelV x u → ∃ as, Reads s.heap u d as ∧ sysModules ∉ as := by
  obtain ⟨o1, k1, c1⟩ := S
  have g1 := I.kIn _ _ k1
  induction h with
  | non =>
    intro u r
    cases r
    exact ⟨_, .none, by simp⟩
  | bl b =>
    intro u r
    cases r
    exact ⟨_, .bool b, by simp⟩
  | int i =>
    rintro u ⟨t, rfl⟩
    exact ⟨_, .int i t, by simp⟩
  | str x =>
    rintro u ⟨t, rfl⟩
    exact ⟨_, .str x t, by simp⟩
  | @lst a xs ds hs l _ ih =>
    intro u r
    cases r
    obtain ⟨its, rv, ⟨o, n, ho, hc, _, hd⟩, _⟩ := I.list hs
    obtain ⟨as, hr, hn⟩ := all_reads xs ds its l rv ih
    refine ⟨_, .list ho hc hd hr, fun z => ?_⟩
    rcases List.mem_cons.mp z with z | z
    · rw [← z, g1] at ho
      cases ho
      rw [c1] at hc
      injection hc with z2
      exact absurd z2 (by decide)
    · exact hn z
  | @tup a xs ds hs l _ ih =>
    intro u r
    cases r
    obtain ⟨its, rv, ⟨o, ho, hc, n, hd⟩, _⟩ := I.tuple hs
    obtain ⟨as, hr, hn⟩ := all_reads xs ds its l rv ih
    exact ⟨_, .tuple ho hc hd hr, hn⟩
  | @dct a kvs ds hs l _ ih =>
    intro u r
    cases r
    obtain ⟨_, ns, vs, rk, o, es, ep, ho, ⟨hc, _, _⟩, hd, _, hp, _⟩ := dk_of I.hok hs
    obtain ⟨h1, bs, h2, hn⟩ := kv_reads kvs ds es.toList vs l rk hp ih
    refine ⟨_, .dict ho hc hd h1 h2, fun z => ?_⟩
    rcases List.mem_cons.mp z with z | z
    · rw [← z] at ns
      simp at ns
    · exact hn (by simpa using z)
end L3
set_option Elab.async false
set_option linter.all false
set_option maxRecDepth 100000
set_option maxHeartbeats 4000000
namespace L3
open PySem PySem.Spec PyProof.Rows L2
section
variable {X : Cx} {K : PySem.W.Frag}
theorem ix_listK (K : PySem.W.Frag) (h : X.K = K := by rfl) : IxR X (rIxL K) := h ▸ ix_list
end
end L3
set_option Elab.async false
set_option linter.all false
set_option maxRecDepth 100000
set_option maxHeartbeats 4000000
namespace L3
open PySem PySem.Spec PyProof.Rows L2
section
variable {J : It} {n : Nat} {G : Hp → Prop} {Y : Nat → Hp → V → Hp → Prop} {g : TG} {tt : TT} {te : TE} {vs : List Nat} {σ : L2.St} {H1 : Hp} {D : Addr} {Qd : Hp → Prop}
theorem lc_any (w : L2.Walk J n G Y) (I : Nat → List V → Hp → Prop) (hI : ∀ i acc H l, I i acc H → I i acc (upd H D (.lst l))) (i0 : I 0 [] H1) (hn : n ≤ 100000) (hl : ∀ i acc H, I i acc H → acc.length ≤ i) (hG : ∀ i acc H, I i acc H → G H)
    (hs : ∀ (i : Nat) (x : V) (H H' : Hp) (acc : List V) (N : Hp → Prop), i < n → I i acc H → H D = some (.lst acc) → acc.length < sizeLine → Y i H x H' →
      (∀ y H4, H4 D = some (.lst acc) → I (i + 1) (acc ++ [y]) H4 → N (upd H4 D (.lst (acc ++ [y])))) → (∀ H4, H4 D = some (.lst acc) → I (i + 1) acc H4 → N H4) → Turn g tt te vs σ D x H' N)
    (hd : ∀ acc H, I n acc H → H D = some (.lst acc) → Qd H) :
    ∃ W : Nat → Nat → Hp → Prop, (∃ m, W 0 m (upd H1 D (.lst []))) ∧ ∀ i m H, W i m H →
      (J.stop i H ∧ Qd H) ∨ (J.go i H ∧ ∃ Nx : Hp → Prop, (∀ H', Nx H' → ∃ m', m' < m ∧ W (i + 1) m' H') ∧ ∀ x H', J.yld i H x H' → Turn g tt te vs σ D x H' Nx) := by
  refine L2.lc_it w (fun i H => i ≤ n ∧ ∃ acc, I i acc H ∧ H D = some (.lst acc)) ⟨Nat.zero_le _, [], hI _ _ _ _ i0, upd_same⟩ (fun i H _ p => ?_) ?_ (fun H p => ?_)
  · obtain ⟨_, acc, p, _⟩ := p
    exact hG i acc H p
  · rintro i x H H' hi ⟨p1, acc, p2, p3⟩ y
    have := hl _ _ _ p2
    refine hs i x H H' acc _ hi p2 p3 (small_len (by omega)) y (fun y H4 d4 i4 => ⟨hi, _, hI _ _ _ _ i4, upd_same⟩) fun H4 d4 i4 => ⟨hi, _, i4, d4⟩
  · obtain ⟨_, acc, p, d⟩ := p
    exact hd acc H p d
end
def tTryTup (K : PySem.W.Frag) (cs : List Value) (i : Nat) (ts : Addr → Value → Option Addr → TS) (tb : WX → TS) : TS := fun D σ H => tb (wTup K cs i ts D) D σ H
end L3
set_option Elab.async false
set_option linter.all false
set_option maxRecDepth 100000
set_option maxHeartbeats 4000000
namespace L3
open PySem PySem.Spec PyProof.Rows L2
end L3
set_option Elab.async false
set_option linter.all false
set_option maxRecDepth 100000
set_option maxHeartbeats 4000000
namespace L3
open PySem PySem.Spec PyProof.Rows L2
end L3
set_option Elab.async false
set_option linter.all false
set_option maxRecDepth 100000
set_option maxHeartbeats 4000000
namespace L3
open PySem PySem.Spec PyProof.Rows L2
end L3
set_option Elab.async false
set_option linter.all false
set_option maxRecDepth 100000
set_option maxHeartbeats 4000000
namespace L3
open PySem PySem.Spec PyProof.Rows L2
/-- what stands elsewhere than at f stays -/
def Oth (f : Addr) (H H' : Hp) : Prop := ∀ b o, b ≠ f → H b = some o → H' b = some o
theorem Oth.refl (f : Addr) (H : Hp) : Oth f H H := fun _ _ _ e => e
theorem Oth.trans {f : Addr} {H H1 H2 : Hp} (a : Oth f H H1) (b : Oth f H1 H2) : Oth f H H2 := fun c o h e => b c o h (a c o h e)
theorem Oth.ex {f : Addr} {H0 H H1 : Hp} (x : Ex H0 H) (n : H0 f = none) (a : Oth f H H1) : Ex H0 H1 := fun b o e => a b o (ne_of_none e n) (x b o e)
end L3
set_option Elab.async false
set_option linter.all false
set_option maxRecDepth 100000
set_option maxHeartbeats 4000000
namespace L3
open PySem PySem.Spec PyProof.Rows L2
theorem tyOf_mono {K : PySem.W.Frag} {H H' : Hp} {x : V} {t : Value} (e : Ex H H') (h : TyOf K H x t) : TyOf K H' x t := by
  cases h with
  | non => exact .non
  | bl x => exact .bl x
  | int i => exact .int i
  | str x => exact .str x
  | flt x => exact .flt x
  | lst h => exact .lst (e _ _ h)
  | frz h => exact .frz (e _ _ h)
  | tup h => exact .tup (e _ _ h)
  | dK h => exact .dK (e _ _ h)
  | dT h => exact .dT (e _ _ h)
  | ins h cl ha hn htk hm => exact .ins (e _ _ h) cl ha hn htk hm
theorem tyX_mono {K : PySem.W.Frag} {H H' : Hp} {x : V} {t : Value} (e : Ex H H') (h : TyX K H x t) : TyX K H' x t := by
  cases h with
  | base h => exact .base (tyOf_mono e h)
  | byt b => exact .byt b
  | set h => exact .set (e _ _ h)
  | kList h c => exact .kList h c
  | kTuple h c => exact .kTuple h c
  | kDict h c => exact .kDict h c
  | fTuple h => exact .fTuple (e _ _ h)
  | fDict h => exact .fDict (e _ _ h)
theorem Cl.mono {K : PySem.W.Frag} {H H' : Hp} {x : V} (c : Cl K H x) (e : Ex H H') : Cl K H' x := let ⟨t, b, d, h1, h2⟩ := c; ⟨t, b, d, tyX_mono e h1, h2⟩
end L3
set_option Elab.async false
set_option linter.all false
set_option maxRecDepth 100000
set_option maxHeartbeats 4000000
namespace L3
open PySem PySem.Spec PyProof.Rows L2 PySem.SeqAt PySem.Calls
end L3
set_option Elab.async false
set_option linter.all false
set_option maxRecDepth 100000
set_option maxHeartbeats 4000000
namespace L3
open PySem PySem.Spec PyProof.Rows L2 PySem.SeqAt PySem.Calls
end L3
set_option Elab.async false
set_option linter.all false
set_option maxRecDepth 100000
set_option maxHeartbeats 4000000
namespace L3
open PySem PySem.Spec PyProof.Rows L2 PySem.SeqAt PySem.Calls
section
variable {X : Cx} {e : Expr} {t1 t2 : TE}
def tOrE (t1 t2 : TE) : TE := fun σ H Q => t1 σ H Q ∨ t2 σ H Q
/-- one reading or the other -/
theorem pe_orE (h1 : PE X e t1) (h2 : PE X e t2) : PE X e (tOrE t1 t2) := ⟨fun pins s σ H Q I h => h.elim (h1.run pins s σ H Q I) (h2.run pins s σ H Q I)⟩
end
end L3
set_option Elab.async false
set_option linter.all false
set_option maxRecDepth 100000
set_option maxHeartbeats 4000000
namespace L3
open PySem PySem.Spec PyProof.Rows L2 PySem.SeqAt PySem.Calls
end L3
set_option Elab.async false
set_option linter.all false
set_option maxRecDepth 100000
set_option maxHeartbeats 4000000
namespace L3
open PySem PySem.Spec PyProof.Rows L2
end L3
set_option Elab.async false
set_option linter.all false
set_option maxRecDepth 100000
set_option maxHeartbeats 4000000
namespace L3
open PySem PySem.Spec PyProof.Rows L2
structure FbN (P : Program) (w : World) (K : PySem.W.Frag) (mg : Str → Option Value) (base : Heap) (k : Nat) (f : Addr) (fd : FuncData) (ps : List Str) (sp : Sp) : Prop where
  len : ∀ vs H Q E, sp vs H Q E → vs.length = ps.length
  run : ∀ (A : Around) (outer : List Env) (s : Shared) (H : Hp) (args : Args) (us : List Value) (vs : List V) (Q : VK) (E : XK), Rm k A → Env0 P w K mg base A outer s H → BindsTo s fd args (ps.zip us) → Vals vs us → sp vs H Q E →
    codeAny (model P w) A (.call (.ref f) args) (CR (L2N.CX P w) outer P w H s Q E) s
section
variable {P : Program} {w : World} {K : PySem.W.Frag} {mg : Str → Option Value} {base : Heap} {x qual : Str} {params : Arguments} {body : List Stmt} {scope : Scope} {dvs : List V} {kws : List (Str × V)} {f : Addr} {fd : FuncData} {k : Nat} {ps N : List Str} {sp : Sp}
theorem fbN_of (F : FunD K x qual params body scope dvs kws f fd) (S : FnScope N ps scope) (len : ∀ vs H Q E, sp vs H Q E → vs.length = ps.length)
    (hbody : ∀ (cdv : Value) (A : Around) (outer : List Env) (s : Shared) (H : Hp) (vs : List V) (Q : VK) (E : XK), Rm k (A.deeper (envOfC qual scope s.heap.objs.size f cdv)) → sp vs H Q E →
      ∃ t, PSs (cxOf (L2N.CX P w) P w K mg base N qual scope f cdv A outer s H E) body t ∧ t { nx := fun _ H' => Q .non H', rt := Q } (start N vs) H) : FbN P w K mg base (k + 1) f fd ps sp := by
  obtain ⟨oc, od, dV, kV, doc, pm, an, cdv, ct, osl, rfl, lk, hcd, _, _⟩ := F.ex
  refine ⟨len, fun A outer s H args us vs Q E hr e0 hb r hsp => ?_⟩
  have hl := len _ _ _ _ hsp
  have KX : K.In s.heap := e0.mod.kin.keeps fun b o e => (e0.bs b o e).1
  have lim : s.heap.NoLimit := e0.mod.nolimit.keeps fun b o e => (e0.bs b o e).1
  have hkind : ∀ y ∈ ps.zip us, scope.names.lookup y.1 = some .local ∨ (scope.names.lookup y.1 = some .cell ∧ ((cellsFrom (s.heap.objs.size + 1) scope.names []).lookup y.1).isSome = true) := fun ⟨n, v⟩ hy => by
    rcases S.par n (List.of_mem_zip hy).1 with q | q
    · exact .inl q
    · exact .inr ⟨q, PySem.W.cellsFrom_some _ _ _ (.inl q)⟩
  refine codeAny_call_function hr.rm.depth (KX _ _ lk) rfl S.co S.gen rfl (PySem.W.codeRec_of KX hcd) (hb _ _ _ _ ?_)
  refine wpAny_newFunctionEnv_cells S.kind hkind fun env he s1 x => ?_
  subst he
  refine ⟨lim.keeps x.toInCall.keep, codeAny_func ?_⟩
  obtain ⟨t, ht, hq⟩ := hbody cdv A outer s H vs Q E (hr.deeper _) hsp
  have I : Inv (cxOf (L2N.CX P w) P w K mg base N qual scope f cdv A outer s H E) [] (start N vs) H s1 := inv_start S hr.rm.hd e0 hl r x
  refine wpAny_mono (ht.run [] s1 (start N vs) H _ I hq) (fun fl s' hs => ?_) fun e s' hs => hs
  have fin : ∀ {σ' : L2.St} {H' : Hp} {v : V} {u : Value}, Inv (cxOf (L2N.CX P w) P w K mg base N qual scope f cdv A outer s H E) [] σ' H' s' → RelV v u → Q v H' → CE outer P w H s Q u s' :=
    fun {σ' H' v u} J rv q => ⟨v, H', J.os, J.bare, J.base, J.hok, rv, q⟩
  cases fl with
  | ret u =>
    obtain ⟨v, σ', H', J, rv, q⟩ := hs
    exact fin J rv q
  | next =>
    obtain ⟨σ', H', J, q⟩ := hs
    exact fin (v := V.non) (u := Value.none) J rfl q
  | brk =>
    obtain ⟨_, _, _, q⟩ := hs
    exact False.elim q
  | cont =>
    obtain ⟨_, _, _, q⟩ := hs
    exact False.elim q
theorem FbN.mono {j : Nat} (F : FbN P w K mg base j f fd ps sp) (h : j ≤ k) : FbN P w K mg base k f fd ps sp := ⟨F.len, fun A outer s H args us vs Q E hr => F.run A outer s H args us vs Q E (hr.mono h)⟩
theorem FbN.imp {sp' : Sp} (F : FbN P w K mg base k f fd ps sp) (h : ∀ vs H Q E, sp' vs H Q E → sp vs H Q E) : FbN P w K mg base k f fd ps sp' :=
  ⟨fun vs H Q E q => F.len vs H Q E (h _ _ _ _ q), fun A outer s H args us vs Q E hr he hb hv hs => F.run A outer s H args us vs Q E hr he hb hv (h _ _ _ _ hs)⟩
def FcN (P : Program) (w : World) (K : PySem.W.Frag) (mg : Str → Option Value) (base : Heap) (k : Nat) (f : Addr) (ks : List Str) (sp : Sp) : Prop :=
  ∀ (A : Around) (outer : List Env) (s : Shared) (H : Hp) (us ws : List Value) (vs : List V) (Q : VK) (E : XK), Rm k A → Env0 P w K mg base A outer s H → Vals vs (us ++ ws) → ws.length = ks.length → sp vs H Q E →
    codeAny (model P w) A (.call (.ref f) ⟨us, ks.zip ws⟩) (CR (L2N.CX P w) outer P w H s Q E) s
theorem FcN.mono {j : Nat} {ks : List Str} (F : FcN P w K mg base j f ks sp) (h : j ≤ k) : FcN P w K mg base k f ks sp := fun A outer s H us ws vs Q E hr => F A outer s H us ws vs Q E (hr.mono h)
theorem FcN.imp {sp' : Sp} {ks : List Str} (F : FcN P w K mg base k f ks sp) (h : ∀ vs H Q E, sp' vs H Q E → sp vs H Q E) : FcN P w K mg base k f ks sp' :=
  fun A outer s H us ws vs Q E hr he hv hl hs => F A outer s H us ws vs Q E hr he hv hl (h _ _ _ _ hs)
/-- every parameter is given by place -/
theorem FbN.all (F : FbN P w K mg base k f fd ps sp) (hb : Binds K fd ps []) : FcN P w K mg base k f [] sp := fun A outer s H us ws vs Q E hr e0 r hl h => by
  cases ws with
  | cons w ws => cases hl
  | nil =>
    rw [List.append_nil] at r
    have KX : K.In s.heap := e0.mod.kin.keeps fun b o e => (e0.bs b o e).1
    have l2 : us.length = ps.length := by rw [← r.length]; exact F.len _ _ _ _ h
    have b := hb s us KX (by rw [List.append_nil]; exact l2)
    rw [List.append_nil] at b
    exact F.run A outer s H ⟨us, []⟩ us vs Q E hr e0 b r h
/-- all parameters given, some by name, no defaults -/
theorem FbN.names (D : FunD K x qual params body scope [] kws f fd) (F : FbN P w K mg base k f fd ps sp) (n : Nat) (ks : List Str) (g : {α : Type} → List α → List α)
    (hrel : ∀ {vs : List V} {us : List Value}, Vals vs us → Vals (g vs) (g us))
    (h : ∀ (kV doc pm : Value) (an : Option Addr) (cdv ct : Value) (us ws : List Value), us.length = n → ws.length = ks.length →
      bindArgs (PySem.W.fnOf x qual params body scope .none kV doc pm an cdv ct) ⟨us, ks.zip ws⟩ = pure (ps.zip (g (us ++ ws)))) :
    FcN P w K mg base k f ks (fun vs H Q E => vs.length = n + ks.length ∧ sp (g vs) H Q E) := by
  obtain ⟨oc, od, dV, kV, doc, pm, an, cdv, ct, osl, rfl, lk, hcd, hD, hK⟩ := D.ex
  rcases hD with ⟨_, rfl⟩ | ⟨e, _⟩
  · intro A outer s H us ws vs Q E hr e0 r hl hsp
    have l2 : us.length = n := by
      have e := r.length
      rw [hsp.1, List.length_append, hl] at e
      omega
    exact F.run A outer s H ⟨us, ks.zip ws⟩ (g (us ++ ws)) (g vs) Q E hr e0 (.of_eq (h kV doc pm an cdv ct us ws l2 hl)) (hrel r) hsp.2
  · exact absurd rfl e
end
theorem cxN {P : Program} {w : World} {outer : List Env} {H : Hp} {s : Shared} {E : XK} {u : Value} {s' : Shared} (h : L2N.CX P w outer H s E u s') : L2.CX P w outer H s E u s' := by
  obtain ⟨a, B, H', cls, d, e, fl, r⟩ := h
  exact ⟨a, B, H', cls, d, e, L2H.flyingZ_imp (fun o z => z.zc) fl, r⟩
theorem FcN.fc {P : Program} {w : World} {K : PySem.W.Frag} {mg : Str → Option Value} {base : Heap} {k : Nat} {f : Addr} {ks : List Str} {sp : Sp} (F : FcN P w K mg base k f ks sp) : Fc P w K mg base k f ks sp :=
  fun A outer s H us ws vs Q E hr e0 r hl h => codeAny_mono (F A outer s H us ws vs Q E hr e0 r hl h) fun r s' hq => by
    cases r with
    | error e => exact cxN hq
    | ok fl =>
      cases fl with
      | ret u => exact hq
      | next => exact hq
      | brk => exact hq
      | cont => exact hq
section
variable {X : Cx} {k : Nat} {f C : Addr} {ks : List Str} {sp : Sp} {W : WX} {x m : Str} {p pos apos : Pos} {e o : Expr} {es : List Expr} {kws : List Keyword} {ta : TE} {t tk : TA}
theorem run_fcN {pins : List (Addr × Obj)} {σ : L2.St} {H : Hp} {s : Shared} {Q : VK} {us ws : List Value} {vs : List V} (F : FcN X.prog X.w X.K X.mg X.base k f ks sp) (hr : Rm k X.A) (hx : L2N.Takes X W)
    (I : Inv X pins σ H s) (r : Vals vs (us ++ ws)) (hl : ws.length = ks.length) (h : sp vs H Q (WE W σ)) : wpAny (model X.prog X.w) X.A (call (.ref f) us (ks.zip ws)) (EP X pins σ Q) X.xe s := by
  refine wpAny_call (codeAny_mono (F X.A X.stack s H us ws vs Q (WE W σ) hr I.env0 r hl h) fun r s' hq => ?_)
  cases r with
  | error e => exact L2N.passAt hx σ pins H s e s' I hq
  | ok fl =>
    cases fl with
    | ret u => exact I.after hq
    | next => exact False.elim hq
    | brk => exact False.elim hq
    | cont => exact False.elim hq
/-- f(e, ..) -/
theorem c_callN (F : FcN X.prog X.w X.K X.mg X.base k f [] sp) (hr : Rm k X.A) (hm : X.mg x = some (.ref f)) (hk : PySem.W.keepIn X.K (.ref f) = true) (hx : L2N.Takes X W)
    (ha : PA X (e :: es) t) (hg : Gl X x := by rfl) (hdb : (x == ("__debug__" : Str)) = false := by decide) (he : starEach (e :: es) X.env = (false, eval e X.env) :: starEach es X.env := by rfl) (hpl : (backTo pos (starEach es X.env)).any (·.1) = false := by rfl) :
    PE X (.Call (.Name x p) (e :: es) [] pos) (tFc sp W t) := by
  refine ⟨fun pins s σ H Q I h => ?_⟩
  refine wpAny_Call_Name_kw (ld_glob I hg hm ?_ hdb)
  refine PySem.W.callWith_K (h₀ := X.base) I.ok.mod.kin hk (thn (ha.run pos pins s σ H _ I h) fun us s1 ⟨vs, H1, I1, r, q⟩ => ⟨I1.kIn, ?_⟩) he hpl
  exact run_fcN (ws := []) F hr hx I1 (by rw [List.append_nil]; exact r) rfl q
end
end L3
namespace L3
open PySem PySem.Spec PyProof.Rows L2 L2H HotX
/-- a name's object is changed: n is unbound -/
theorem Inv.gone {X : Cx} {pins : List (Addr × Obj)} {σ : L2.St} {H : Hp} {s : Shared} {h' : Heap} {i : Nat} {n : Str} {m : Str → Option Value} {v : Option Value} (I : Inv X pins σ H s) (hN : X.N.Nodup) (hi : X.N[i]? = some n)
    (hlk : ∀ (i : Nat) (x : Str) (v : V), X.N[i]? = some x → σ[i]? = some (some v) → Vis X.env.scope x → ∃ u, RelV v u ∧ Look X.env s.heap m x u)
    (hn' : h'.Ns X.env.locals (fun x => if x = n then v else m x)) (hs : Heap.SameBut X.env.locals s.heap h') : Inv X pins (σ.set i none) H { s with heap := h' } := by
  have neL : ∀ b o, X.s_0.heap.get? b = some o → b ≠ X.env.locals := fun b o e => Nat.ne_of_lt (Nat.lt_of_lt_of_le (Heap.lt_size e) I.ok.above)
  refine ⟨I.ok, I.os, I.bare, ⟨fun b o e n hb hx => ?_, fun b o e n hb hx => ?_, I.base.free, fun b o e hx => ?_, I.base.tups, I.base.frzs, I.base.tbls⟩, ⟨_, hn', fun j y v' e1 e2 e3 => ?_⟩, fun y c e => ?_, I.free, I.freeC, fun p hp => ?_, fun b ob e => ?_, by simpa using I.len⟩
  · exact (hs.2 b (neL b o e)).trans (I.base.keep b o e n hb hx)
  · obtain ⟨sl, e1⟩ := I.base.slot b o e n hb hx
    exact ⟨sl, (hs.2 b (neL b o e)).trans e1⟩
  · obtain ⟨o', e1⟩ := I.base.there b o e hx
    exact ⟨o', (hs.2 b (neL b o e)).trans e1⟩
  · by_cases hj : j = i
    · subst hj
      by_cases hlt : j < σ.length
      · rw [List.getElem?_set_self hlt] at e2; cases e2
      · rw [List.getElem?_eq_none (by simpa using hlt)] at e2; cases e2
    · rw [List.getElem?_set_ne (Ne.symm hj)] at e2
      obtain ⟨u', r', q⟩ := hlk j y v' e1 e2 e3
      refine ⟨u', r', ?_⟩
      rcases q with ⟨k, e⟩ | ⟨k, c, e, z⟩
      · have ny : y ≠ n := fun e => hj (nodup_ix hN e1 (e ▸ hi))
        exact .inl ⟨k, (if_neg ny).trans e⟩
      · exact .inr ⟨k, c, e, z.sameBut hs (I.cne y c e)⟩
  · obtain ⟨w', z⟩ := I.cell y c e
    exact ⟨w', z.sameBut hs (I.cne y c e)⟩
  · obtain ⟨e, n, ne, nf, d⟩ := I.pin p hp
    exact ⟨(hs.2 p.1 ne).trans e, n, ne, nf, d⟩
  · refine (I.hok b ob e).stay (fun c w' hc q => (hs.2 c ?_).trans q) (fun _ q => q) fun _ _ q => q
    intro z
    subst z
    rcases hc with hc | hc
    · rw [← hc, I.free] at e; cases e
    · rw [I.free] at hc; cases hc
end L3
set_option Elab.async false
set_option linter.all false
set_option maxRecDepth 100000
set_option maxHeartbeats 4000000
namespace L3
open PySem PySem.Spec PyProof.Rows L2
end L3
set_option Elab.async false
set_option linter.all false
set_option maxRecDepth 100000
set_option maxHeartbeats 4000000
namespace L3
open PySem PySem.Spec PyProof.Rows L2
def Stays (H H' : Hp) (x : V) : Prop := ∀ a o, x = .ref a → H a = some o → H' a = some o
theorem tyOf_at {K : PySem.W.Frag} {H H' : Hp} {x : V} {t : Value} (e : Stays H H' x) (h : TyOf K H x t) : TyOf K H' x t := by
  cases h with
  | non => exact .non
  | bl x => exact .bl x
  | int i => exact .int i
  | str x => exact .str x
  | flt x => exact .flt x
  | lst h => exact .lst (e _ _ rfl h)
  | frz h => exact .frz (e _ _ rfl h)
  | tup h => exact .tup (e _ _ rfl h)
  | dK h => exact .dK (e _ _ rfl h)
  | dT h => exact .dT (e _ _ rfl h)
  | ins h cl ha hn htk hm => exact .ins (e _ _ rfl h) cl ha hn htk hm
theorem tyX_at {K : PySem.W.Frag} {H H' : Hp} {x : V} {t : Value} (e : Stays H H' x) (h : TyX K H x t) : TyX K H' x t := by
  cases h with
  | base h => exact .base (tyOf_at e h)
  | byt b => exact .byt b
  | set h => exact .set (e _ _ rfl h)
  | kList h c => exact .kList h c
  | kTuple h c => exact .kTuple h c
  | kDict h c => exact .kDict h c
  | fTuple h => exact .fTuple (e _ _ rfl h)
  | fDict h => exact .fDict (e _ _ rfl h)
theorem Cl.at {K : PySem.W.Frag} {H H' : Hp} {x : V} (c : Cl K H x) (e : Stays H H' x) : Cl K H' x := let ⟨t, b, d, h1, h2⟩ := c; ⟨t, b, d, tyX_at e h1, h2⟩
end L3
set_option Elab.async false
set_option linter.all false
set_option maxRecDepth 100000
set_option maxHeartbeats 4000000
namespace L3
open PySem PySem.Spec PyProof.Rows L2
def obsA (as : List Addr) (xf : List Fx) (fn : List He.DefD) (g : Addr → Option Obj) : He.AlD := obsX xf fn (He.frG g as)
def hookA (as : List Addr) (xf : List Fx) (fn : List He.DefD) : PySem.W.Hook where
  α := He.AlD
  obs := fun s => obsA as xf fn s.heap.get?
  val := fun _ => He.valD fn
  says := fun _ h => ∃ K : PySem.W.Frag, K.In h ∧ SaysX xf fn K
  of := fun _ _ e => ⟨_, He.frG_in, e⟩
  keeps := fun _ _ _ ⟨K, hK, c⟩ k => ⟨K, PySem.W.Frag.In.keeps hK k, c⟩
theorem obsA_eq {as : List Addr} {xf : List Fx} {fn : List He.DefD} {g : Addr → Option Obj} {s : Shared} (h : ∀ a, g a = s.heap.get? a) : obsA as xf fn g = (hookA as xf fn).obs s := by
  have e : g = s.heap.get? := funext h
  rw [e] <;> rfl
end L3
noncomputable section
namespace HandSHeadRun
open PySem PySem.W PySem.Calls PyProof.Rows
abbrev endR (r : OpenRow) (M : Nat) (w : World) (os : OsState) : Option SharedT := endF (stepQ (denQ tabQ) r.prog w) M r.prog w os
/-- what the machine's own looks say behind the run -/
def RunA (r : OpenRow) (q : Program) (M : Nat) (loose : List PySem.Str) (w : World) : Prop :=
  ∀ os : OsState, (endR r M w os).map (fun s => (looksF r.prog (boot_heap w.params) s.abs, seenQ q loose (importedModules r.prog.main.body) (fun s => xlAt q [] s && recOk r.toRowW.records s) s.abs)) = some (true, openGood q loose)
/-- some facts of what stands behind the run -/
def RunB (r : OpenRow) (M : Nat) (fs : SharedT → Bool) (w : World) : Prop := ∀ os : OsState, (endR r M w os).map fs = some true
/-- the defs' own values -/
def RunC (r : OpenRow) (H : Hook) (ob : SharedT → H.α) (M : Nat) (w : World) : Prop := ∀ os : OsState, (endR r M w os).map ob = some (H.val w)
theorem runEq_of {r : OpenRow} {q : Program} {H : Hook} {ob : SharedT → H.α} {M : Nat} {loose : List PySem.Str} {w : World} (a : RunA r q M loose w) (c : RunC r H ob M w) : RunEq r q H ob M loose w := fun os => by
  have h1 := a os
  have h2 := c os
  show (endR r M w os).map _ = _
  cases e : endR r M w os with
  | none =>
    rw [e] at h1
    cases h1
  | some s =>
    rw [e] at h1 h2
    have g1 := Option.some.inj h1
    have g2 := Option.some.inj h2
    show some _ = some _
    rw [← g2]
    have e1 := congrArg Prod.fst g1
    have e2 := congrArg Prod.snd g1
    dsimp only at e1 e2 ⊢
    rw [e1, e2]
end HandSHeadRun
end
namespace L3
open PySem PySem.Spec PyProof.Rows L2 HandSHeadRun
/-- the facts in three parts: two of the Bools, one of the defs -/
theorem runC_of {r : PySem.W.OpenRow} {as : List Addr} {xf xf1 xf2 : List Fx} {fn : List He.DefD} {M : Nat} {w : World} (e : xf = xf1 ++ xf2)
    (a : RunB r M (fun s => xf1.all fun p => p (He.frG (getT s) as)) w) (b : RunB r M (fun s => xf2.all fun p => p (He.frG (getT s) as)) w)
    (c : ∀ os : OsState, (endR r M w os).map (fun s => (fn.all fun d => d.ok (He.frG (getT s) as), fn.map fun d => He.fnW (He.frG (getT s) as) d.at_)) = some (true, fn.map He.DefD.val)) :
    RunC r (hookA as xf fn) (fun s => obsA as xf fn (getT s)) M w := fun os => by
  have h1 := a os
  have h2 := b os
  have h3 := c os
  cases e2 : endR r M w os with
  | none =>
    rw [e2] at h1
    cases h1
  | some s =>
    rw [e2] at h1 h2 h3
    have g1 : (xf1.all fun p => p (He.frG (getT s) as)) = true := Option.some.inj h1
    have g2 : (xf2.all fun p => p (He.frG (getT s) as)) = true := Option.some.inj h2
    have g3 := Option.some.inj h3
    have e3 := congrArg Prod.fst g3
    have e4 := congrArg Prod.snd g3
    dsimp only at e3 e4
    show some (obsA as xf fn (getT s)) = some (He.valD fn)
    unfold obsA obsX He.valD
    rw [e, List.all_append, g1, g2, e3, e4]
    rfl
end L3
set_option Elab.async false
set_option linter.all false
set_option maxRecDepth 100000
set_option maxHeartbeats 4000000
namespace L3
open PySem PySem.Spec PyProof.Rows L2
end L3
namespace L3
open PySem PySem.Spec PyProof.Rows L2
/-- at a a list or a tuple of these -/
def SqS (K : PySem.W.Frag) (H : Hp) (a : Addr) (xs : List V) : Prop := SqL K H a xs ∨ SqT K H a xs
theorem SqS.at {K : PySem.W.Frag} {H H' : Hp} {a : Addr} {xs : List V} (h : SqS K H a xs) (e : Stays H H' (.ref a)) : SqS K H' a xs := by
  rcases h with ((h | ⟨o, h⟩) | h) | ((h | ⟨o, h⟩) | h)
  · exact .inl (.inl (.inl (e _ _ rfl h)))
  · exact .inl (.inl (.inr ⟨o, e _ _ rfl h⟩))
  · exact .inl (.inr h)
  · exact .inr (.inl (.inl (e _ _ rfl h)))
  · exact .inr (.inl (.inr ⟨o, e _ _ rfl h⟩))
  · exact .inr (.inr h)
theorem stays_ex {H H' : Hp} {x : V} (e : Ex H H') : Stays H H' x := fun a o _ h => e a o h
theorem SqS.mono {K : PySem.W.Frag} {H H' : Hp} {a : Addr} {xs : List V} (h : SqS K H a xs) (e : Ex H H') : SqS K H' a xs := h.at (stays_ex e)
end L3
set_option Elab.async false
set_option linter.all false
set_option maxRecDepth 100000
set_option maxHeartbeats 4000000
namespace L3
open PySem PySem.Spec PyProof.Rows L2
end L3
set_option Elab.async false
set_option linter.all false
set_option maxRecDepth 100000
set_option maxHeartbeats 4000000
namespace L3
open PySem PySem.Spec PySem.Calls PyProof.Rows
section
open PySem.W
variable {prog : Program} {w : World} {A : Around} {E : Value → Shared → Prop} {s : Shared} {K : Frag} {x D : Addr} {ox : Obj} {od : Option Obj}
theorem findObj_dataA {C : Addr} {name : Str} {a g : Value} (hc : (clsIn K C).isSome = true) (ha : findIn K (.ref C) name = some (some a)) (hg : specialIn K a "__get__" = some (some g)) (ht : takesIn K a = some true) : findObj K C od name = some (.bind g a) := by
  obtain ⟨cd, hc⟩ := Option.isSome_iff_exists.mp hc
  unfold findObj
  rw [hc, Option.bind_some, ha, Option.bind_some]
  simp [hg, ht]
/-- e.__class__, with or without fields of its own -/
theorem kin_classA {Q : Option Value → Shared → Prop} (C : L2.ExcC K D) (X : K.In s.heap) (I : W.InstAt s.heap x ox D od) (h : Q (some (.ref D)) { s with toks := s.toks + 1 }) : wpAny (model prog w) A (getAttr? (.ref x) "__class__") Q E s := by
  have hf : findObj K D od "__class__" = some (.bind (.builtin "getset_descriptor.__get__") (.builtin "object.__class__")) := findObj_dataA (by obtain ⟨cd, hc, _⟩ := any_some C.hd; rw [hc]; rfl) C.ha C.hn C.ht
  obtain ⟨hp, g, d, t, os⟩ := s
  have L0 := I.type (M := model prog w)
  have L1 := looks_findIn (M := model prog w) X C.hg
  have L2 := looks_findIn (M := model prog w) X C.hk
  have L3 := looks_find (M := model prog w) X I hf
  have sub : Looks (model prog w) hp (isInstance (.ref x) (.type "BaseException")) true := L0.andThen (looks_subIn X C.hs)
  have hx0 : (false && onTheHeap (Value.builtin "BaseException.__getattribute__")) = false := rfl
  have hx2 : (Value.builtin "BaseException.__getattribute__" == Value.builtin "object.__getattribute__") = false := by decide +kernel
  have hx1 : (onTheHeap (Value.ref D) && Value.builtin "BaseException.__getattribute__" == Value.builtin "object.__getattribute__") = false := by rw [hx2]; rfl
  unfold getAttr? getAttrBy? getAttrBy
  refine wpAny_bind (wpAny_mkText (wpAny_bind (wpAny_attempt (wpAny_holding (wpAny_bind (L0.at (wpAny_bind (L1.at ?_))))))))
  show wpAny _ _ (if (onTheHeap (Value.ref D) && Value.builtin "BaseException.__getattribute__" == Value.builtin "object.__getattribute__") = true then _ else _) _ _ _
  rw [hx1, if_neg Bool.false_ne_true]
  unfold getAttrByItsOwn hookBefore
  refine wpAny_bind ?_
  rw [if_pos (show onTheHeap (Value.ref D) = true from rfl)]
  refine L2.at ?_
  refine wpAny_bind (wpAny_attempt (wpAny_holding ?_))
  unfold callGetattribute
  rw [hx0, if_neg Bool.false_ne_true]
  unfold boundAndCalled
  rw [PySem.F.excAttr_ValueError.ga.bind (.ref x)]
  refine wpAny_bind (wpAny_pure ?_)
  show wpAny _ _ (call (.builtin "BaseException.__getattribute__") [.ref x, .str "__class__" t]) _ _ _
  refine wpAny_call (codeAny_call_builtin PySem.F.excAttr_ValueError.ga.plain PySem.F.entry_bexc_ga ?_)
  refine @check_slot (model prog w) _ _ ⟨hp, g, d, t + 1, os⟩ "BaseException.__getattribute__" "BaseException" "__getattribute__" (.ref x) [.str "__class__" t] [] _ (by decide +kernel) (by decide +kernel) sub (PySem.F.args_bexc_ga (.ref x) (.str "__class__" t)) ?_
  unfold Builtin.«object.__getattribute__»
  refine wpAny_bind (wpAny_of_eq (a := ((Value.ref x : Value), [Value.str "__class__" t])) (by first | rfl | (simp only [slotArgs]; rfl)) ?_)
  refine wpAny_bind (wpAny_pure (wpAny_bind (L0.at (wpAny_bind (L3.at ?_)))))
  show wpAny _ _ (holding [Value.builtin "object.__class__"] (call (.builtin "getset_descriptor.__get__") [.builtin "object.__class__", .ref x, .ref D]) >>= ret) _ _ _
  refine wpAny_bind (wpAny_holding (wpAny_call (class_get (s := ⟨hp, g, d, t + 1, os⟩) (ox := ox) (od := od) X I C.hm ?_)))
  refine wpAny_pure ?_
  show wpAny _ _ (handedOut (.ref D)) _ _ _
  rw [handedOut_of (v := .ref D) rfl]
  first
    | exact wpAny_pure (wpAny_pure h)
    | exact wpAny_pure h
    | exact wpAny_pure (wpAny_bind (wpAny_pure (wpAny_pure h)))
theorem kitx_excA (C : L2.ExcC K D) : KitX K (.ref x) (.ref D) (fun h => W.InstAt h x ox D od) where
  ty := fun _ _ _ I => I.type
  it := fun _ _ X _ => by
    obtain ⟨cdD, hcD, _⟩ := any_some C.hd
    unfold clsIn at hcD
    split at hcD
    · rename_i c' d' cd' sl' ho
      intro A' Q' E' s' k q
      unfold isType loadHead
      exact wpAny_bind (wpAny_loadPart (k _ _ (X _ _ ho)) (wpAny_pure q))
    · cases hcD
  ne := fun h tp dd its n sl X htp => by
    obtain ⟨cdD, hcD, _⟩ := any_some C.hd
    refine Bool.eq_false_iff.mpr fun q => ?_
    have e : D = tp := Value.ref.inj (beq_iff_eq.mp q)
    subst e
    unfold clsIn at hcD
    split at hcD
    · rename_i c' d' cd' sl' ho
      have z := (X _ _ ho).symm.trans htp
      cases z
    · cases hcD
  ca := fun X I k => kin_classA C X I k
end
open L2
/-- the exception's own fields, if it has any -/
def XdAt (H : Hp) (d : Option Addr) : Prop := d = none ∨ ∃ dd fs, d = some dd ∧ H dd = some (.xd fs)
section
variable {X : Cx} {a D : Addr} {oe : Obj} {cls : Value} {d : Option Addr} {pins : List (Addr × Obj)} {s : Shared} {σ : L2.St} {H : Hp}
theorem pin_inst (I : Inv X pins σ H s) (hp : (a, oe) ∈ X.pn) (hz : Zc (.ref D) d oe) (hf : ∃ vs, oe.data = .fields vs) (hd : XdAt H d) : ∃ od, PySem.W.InstAt s.heap a oe D od := by
  obtain ⟨hget, _⟩ := I.pin (a, oe) (List.mem_append.mpr (.inl hp))
  obtain ⟨vs, hv⟩ := hf
  obtain ⟨oc, odd, oda, osl⟩ := oe
  obtain ⟨h1, h2⟩ := hz
  dsimp only at h1 h2 hv
  subst h1 h2 hv
  rcases hd with rfl | ⟨dd, fs, rfl, hdd⟩
  · exact ⟨none, hget, rfl, rfl, trivial⟩
  · have hx : ObjOk X.prog X.w H s.heap dd (.xd fs) := I.hok dd _ hdd
    obtain ⟨mA, hns, _⟩ := hx
    obtain ⟨od, ho, _⟩ := lookIn_ns hns
    exact ⟨some od, hget, rfl, rfl, ho⟩
/-- isinstance(e, C), isinstance(e, (C, ..)), e the exception -/
def rIsP (K : PySem.W.Frag) (a : Addr) (cls : Value) (d : Option Addr) : List V → Hp → VK → Prop := fun xs H Q => ∃ (D : Addr) (c : V) (cv : Value) (b : Bool), cls = .ref D ∧ ExcC K D ∧ XdAt H d ∧ xs = [.ref a, c] ∧ ClsV c cv ∧ PySem.W.kitOne K (.ref D) cv = some b ∧ Q (.bl b) H
theorem call_isP (K : PySem.W.Frag) (hp : (a, oe) ∈ X.pn) (hz : Zc cls d oe) (hf : ∃ vs, oe.data = .fields vs) (hK : X.K = K := by rfl) : CallR X (.builtin "isinstance") (rIsP K a cls d) := by
  subst hK
  intro pins s σ H xs us Q I r h
  obtain ⟨D, c, cv, b, rfl, C, hd, rfl, k, e, q⟩ := h
  obtain ⟨u1, u2, rfl, r1, r2⟩ := vals2 r
  have e2 := k.eq r2
  subst e2
  cases (show u1 = Value.ref a from r1)
  obtain ⟨od, J⟩ := pin_inst I hp hz hf hd
  exact PySem.W.kia_one (kitx_excA C) I.kIn J e (fun z => nomatch z) fun tk => ⟨.bl b, H, I.kept (t' := tk) fun _ _ z => z, rfl, q⟩
end
abbrev SpP := Addr × Obj → Sp
structure FbP (P : Program) (w : World) (K : PySem.W.Frag) (mg : Str → Option Value) (base : Heap) (k : Nat) (f : Addr) (fd : FuncData) (ps : List Str) (sp : SpP) : Prop where
  len : ∀ p vs H Q E, sp p vs H Q E → vs.length = ps.length
  run : ∀ (A : Around) (outer : List Env) (s : Shared) (H : Hp) (args : Args) (us : List Value) (vs : List V) (Q : VK) (E : XK) (p : Addr × Obj), L2H.RoomH k A → L2H.PinOk outer H s p → Env0 P w K mg base A outer s H → BindsTo s fd args (ps.zip us) → Vals vs us → sp p vs H Q E →
    codeAny (model P w) A (.call (.ref f) args) (CR (L2.CX P w) outer P w H s Q E) s
section
variable {P : Program} {w : World} {K : PySem.W.Frag} {mg : Str → Option Value} {base : Heap} {x qual : Str} {params : Arguments} {body : List Stmt} {scope : Scope} {dvs : List V} {kws : List (Str × V)} {f : Addr} {fd : FuncData} {k : Nat} {ps N : List Str} {sp : SpP}
/-- such a def called with all parameters by place -/
def FcP (P : Program) (w : World) (K : PySem.W.Frag) (mg : Str → Option Value) (base : Heap) (k : Nat) (f : Addr) (sp : SpP) : Prop :=
  ∀ (A : Around) (outer : List Env) (s : Shared) (H : Hp) (us : List Value) (vs : List V) (Q : VK) (E : XK) (p : Addr × Obj), L2H.RoomH k A → L2H.PinOk outer H s p → Env0 P w K mg base A outer s H → Vals vs us → sp p vs H Q E →
    codeAny (model P w) A (.call (.ref f) ⟨us, []⟩) (CR (L2.CX P w) outer P w H s Q E) s
theorem FcP.mono {j : Nat} (F : FcP P w K mg base j f sp) (h : j ≤ k) : FcP P w K mg base k f sp := fun A outer s H us vs Q E p hr => F A outer s H us vs Q E p (hr.mono h)
theorem FbP.all (F : FbP P w K mg base k f fd ps sp) (hb : Binds K fd ps []) : FcP P w K mg base k f sp := fun A outer s H us vs Q E p hr hp e0 r h => by
  have KX : K.In s.heap := e0.mod.kin.keeps fun b o e => (e0.bs b o e).1
  have l2 : us.length = ps.length := by rw [← r.length]; exact F.len _ _ _ _ _ h
  have b := hb s us KX (by rw [List.append_nil]; exact l2)
  rw [List.append_nil] at b
  exact F.run A outer s H ⟨us, []⟩ us vs Q E p hr hp e0 b r h
end
theorem roomM {k : Nat} {A : Around} {v : Option Value} (r : Rm k A) : L2H.RoomH k (A.mark v) := ⟨r.rm.dp, r.rm.un⟩
/-- the caught exception handed to a def -/
def tFcP (a : Addr) (cls : Value) (d : Option Addr) (sp : SpP) (W : WX) (t : TA) : TE := fun σ H Q => t σ H fun vs H1 => ∀ oe : Obj, Zc cls d oe → (∃ vs, oe.data = .fields vs) → sp (a, oe) vs H1 Q (WE W σ)
end L3
set_option Elab.async false
set_option linter.all false
set_option maxRecDepth 100000
set_option maxHeartbeats 4000000
namespace L3
open PySem PySem.Spec PyProof.Rows L2 PySem.SeqAt PySem.Calls
end L3
set_option Elab.async false
set_option linter.all false
set_option maxRecDepth 100000
set_option maxHeartbeats 4000000
namespace L3
open PySem PySem.Spec PyProof.Rows L2 PySem.SeqAt PySem.Calls
end L3
set_option Elab.async false
set_option linter.all false
set_option maxRecDepth 100000
set_option maxHeartbeats 4000000
namespace L3
open PySem PySem.Spec PyProof.Rows L2 PySem.SeqAt PySem.Calls
end L3
set_option Elab.async false
set_option linter.all false
set_option maxRecDepth 100000
set_option maxHeartbeats 4000000
namespace L3
open PySem PySem.Spec PyProof.Rows L2 PySem.SeqAt PySem.Calls
end L3
set_option Elab.async false
set_option linter.all false
set_option maxRecDepth 100000
set_option maxHeartbeats 4000000
namespace L3
open PySem PySem.Spec PyProof.Rows L2 PySem.SeqAt PySem.Calls
end L3
set_option Elab.async false
set_option linter.all false
set_option maxRecDepth 100000
set_option maxHeartbeats 4000000
namespace L3
open PySem PySem.Spec PyProof.Rows L2 PySem.SeqAt PySem.Calls
end L3
set_option Elab.async false
set_option linter.all false
set_option maxRecDepth 100000
set_option maxHeartbeats 4000000
namespace L3
open PySem PySem.Spec PyProof.Rows L2
def leS (a b : Str) : Bool := !decide (b.cps.toList < a.cps.toList)
def srtS (xs : List Str) : List Str := xs.mergeSort leS
section
variable {P : Program} {w : World} {A : Around} {E : Value → Shared → Prop} {s : Shared}
open PySem.Froz
/-- the set of texts at a: its members, in some order -/
def SetT (P : Program) (w : World) (h : Heap) (a : Addr) (l : List Str) : Prop := ∃ D : SD, h.get? a = some (sObj "set" D) ∧ TxOk P w D l ∧ l.length < scanBound ∧ Ris D.2.2.place.toList ∧ (w.params.followText "set-order" = true ∨ D.2.2.led = true)
theorem SetT.at {h h' : Heap} {a : Addr} {l : List Str} (R : SetT P w h a l) (k : ∀ o, h.get? a = some o → h'.get? a = some o) : SetT P w h' a l := by
  obtain ⟨D, ho, r⟩ := R
  exact ⟨D, k _ ho, r⟩
end
end L3
set_option Elab.async false
set_option linter.all false
set_option maxRecDepth 100000
set_option maxHeartbeats 4000000
namespace L3
open PySem PySem.Spec PySem.Calls PyProof.Rows L2
/-- a built-in base -/
structure BaseX (bmB : List Value) (B newId initId : String) : Prop where
  F : ExcBaseFacts B newId initId bmB
  ps : ∀ self : Value, refuseLoop self "__setattr__" bmB = pure ()
  ob : bmB.contains (.type "object") = true
theorem baseV : BaseX bmV "ValueError" "ValueError.__new__" "ValueError.__init__" := ⟨PySem.F.excBase_ValueError, fun self => PySem.F.store_ValueError.passes self, by decide +kernel⟩
theorem baseL : BaseX bmL "LookupError" "LookupError.__new__" "LookupError.__init__" := ⟨PySem.F.excBase_LookupError, fun self => by kernel_rfl, by decide +kernel⟩
theorem baseR : BaseX bmR "RuntimeError" "RuntimeError.__new__" "RuntimeError.__init__" := ⟨PySem.F.excBase_RuntimeError, fun self => by kernel_rfl, by decide +kernel⟩
theorem tail_ne {bmB l : List Value} (ob : bmB.contains (.type "object") = true) (h : PySem.W.excTail bmB l = true) : l.isEmpty = false := by
  cases l with
  | nil =>
    rw [← PySem.W.excTail_contains "object" [] h] at ob
    cases ob
  | cons _ _ => rfl
section
open PySem.W Builtin Builtin.ObjectAttr
variable {prog : Program} {w : World} {A : Around} {E : Value → Shared → Prop} {R : Result → Shared → Prop} {hp : Heap} {g : Array GenState} {d : Drawn} {t : Nat} {os : OsState} {bmB : List Value} {B newId initId : String}
/-- the first field of an exception -/
theorem osa_newB {K : W.Frag} {name : Str} {tk : Tok} {v : Value} {x C : Addr} {fv : Array Value} {cd : ClassData} (BX : BaseX bmB B newId initId)
    (X : K.In hp) (hx : hp.get? x = some { cls := .ref C, data := .fields fv }) (hcd : W.clsIn K C = some cd) (hm : excTail bmB cd.mro = true) (hh : cd.hasDict = true) (ha : W.findIn K (.ref C) name = some none)
    (hq : ∀ h' tk' dx, (∀ b o, b ≠ x → hp.get? b = some o → h'.get? b = some o) → hp.objs.size ≤ dx → dx ≠ x → h'.get? x = some { cls := .ref C, dict := some dx, data := .fields fv } →
      h'.Ns1 dx (fun y => if y = name then some v else none) → R (.ok (.ret .none)) ⟨h', g, d, tk', os⟩) :
    codeAny (model prog w) A (.call (.builtin "object.__setattr__") ⟨[.ref x, .str name tk, v], []⟩) R ⟨hp, g, d, t, os⟩ := by
  have I : W.InstAt hp x { cls := .ref C, data := .fields fv } C none := ⟨hx, rfl, rfl, trivial⟩
  have SF := PySem.F.store_object
  have ne := tail_ne BX.ob hm
  have hob : cd.mro.contains (.type "object") = true := (excTail_contains "object" _ hm).trans BX.ob
  have hxs : x ≠ hp.objs.size := Nat.ne_of_lt (Heap.lt_size hx)
  have sub : W.Looks (model prog w) hp (isInstance (.ref x) (.type "object")) true := I.type.andThen (W.looks_mroIn X (by unfold W.mroIn; rw [hcd, Option.bind_some, if_neg (by rw [ne]; decide), hob]))
  refine codeAny_call_builtin SF.slot.plain SF.entry (@W.check_slot (model prog w) _ _ ⟨hp, g, d, t, os⟩ "object.__setattr__" "object" "__setattr__" (.ref x) [.str name tk, v] [] _ SF.kind SF.split sub (SF.args (.ref x) (.str name tk) v) ?_)
  have hmr : W.Looks (model prog w) hp (mroOf (.ref C)) cd.mro := (W.looks_clsIn X hcd).andThen .now
  have L3 : W.Looks (model prog w) hp (storeTaker? none) none := .now
  have hcls : W.Looks (model prog w) hp (classData C) cd := W.looks_clsIn X hcd
  rw [W.osa_eq, refuse_eq]
  refine wpAny_bind (wpAny_bind (I.type.at (wpAny_bind (hmr.at ?_))))
  rw [excTail_pass _ (BX.ps _) _ hm]
  refine wpAny_pure (wpAny_bind (I.type.at (wpAny_bind ((W.looks_findIn X ha).at (wpAny_bind (L3.at ?_))))))
  show wpAny _ _ (storeInOwnDict (.ref x) (.ref C) (.str name tk) name v false) _ _ _
  obtain ⟨nm, bs, mro, ns, qn, hd, sn, sb, ab, col, del⟩ := cd
  dsimp only at hh
  subst hh
  unfold storeInOwnDict ownDictForStores
  repeat (first | with_reducible refine PySem.HandSPX.store_in_new ?_ ?_ | with_reducible refine wpAny_loadPart_at hx ?_ | with_reducible refine hcls.at ?_ | wp_step)
  · exact ⟨_, #[], _, (Heap.get?_update_ne _ _ _ _ hxs.symm).trans (Heap.get?_push_at rfl rfl), rfl, fun e he => absurd he (by simp), fun _ => rfl⟩
  · intro h' tk' hn' hs
    have hx₁ : (hp.push { cls := .type "dict", data := .dict #[] }).get? x = some { cls := .ref C, data := .fields fv } := Heap.get?_push_of_some _ hx
    refine hq h' tk' hp.objs.size (fun b o hb ho => ?_) (Nat.le_refl _) hxs.symm ?_ hn'
    · exact (hs.2 b (Nat.ne_of_lt (Heap.lt_size ho))).trans ((Heap.get?_update_ne _ _ _ _ hb).trans (Heap.get?_push_of_some _ ho))
    · exact (hs.2 x hxs).trans (Heap.get?_update_self _ hx₁ rfl)
end
/-- what the written part says of the class -/
structure OexB (K : PySem.W.Frag) (C : Addr) (bmB : List Value) (newId : String) : Prop where
  cls : ∃ nm q N bs bm sn sub ab col dd k0 k1 k2 k3 k5, K.lookup C = some (excClassObj nm q C N bs bm true sn sub ab col dd k0 k1 k2 k3 k5 newId) ∧ PySem.W.excTail bmB bm = true
  sa : PySem.W.findIn K (.ref C) "__setattr__" = some (some (.builtin "object.__setattr__"))
  exC : PySem.W.subIn K (.ref C) (.type "BaseException") = some true
  tyC : PySem.W.typeIn K (.ref C) = some (.type "type")
  kC : PySem.W.keepIn K (.ref C) = true
def oexCls (bmB : List Value) (newId : String) (K : PySem.W.Frag) (C : Addr) : Bool := match K.lookup C with
  | some ⟨.type "type", _, .cls cd, sl⟩ => (match cd.mro, sl.toList with
    | .ref C' :: bm, [_, _, _, _, some (.builtin n), _] => C' == C && (n == newId && (!cd.hasDel && (cd.hasDict && PySem.W.excTail bmB bm)))
    | _, _ => false)
  | _ => false
def oexF (bmB : List Value) (newId : String) (x : Str) : Fx := fun K => oexCls bmB newId K (He.ga K x) && (decide (PySem.W.findIn K (.ref (He.ga K x)) "__setattr__" = some (some (.builtin "object.__setattr__"))) &&
  (decide (PySem.W.subIn K (.ref (He.ga K x)) (.type "BaseException") = some true) && (decide (PySem.W.typeIn K (.ref (He.ga K x)) = some (.type "type")) && PySem.W.keepIn K (.ref (He.ga K x)))))
theorem oex_of {bmB : List Value} {newId : String} {x : Str} {K : PySem.W.Frag} (h : oexF bmB newId x K = true) : OexB K (He.ga K x) bmB newId := by
  obtain ⟨h1, h⟩ := He.ba h
  obtain ⟨h2, h⟩ := He.ba h
  obtain ⟨h3, h⟩ := He.ba h
  obtain ⟨h4, h5⟩ := He.ba h
  refine ⟨?_, of_decide_eq_true h2, of_decide_eq_true h3, of_decide_eq_true h4, h5⟩
  generalize He.ga K x = C at h1 ⊢
  unfold oexCls at h1
  split at h1
  · rename_i dd cd sl ho
    split at h1
    · rename_i C' bm k0 k1 k2 k3 n k5 hm hs
      simp only [Bool.and_eq_true, beq_iff_eq, Bool.not_eq_true'] at h1
      obtain ⟨rfl, rfl, hdel, hdct, ht⟩ := h1
      obtain ⟨nm, bs, mro, ns, qn, hd, sn, sub, ab, col, del⟩ := cd
      dsimp only at hm hdel hdct
      subst hm hdel hdct
      have hsl : sl = #[k0, k1, k2, k3, some (.builtin n), k5] := by
        obtain ⟨l⟩ := sl
        simp only at hs
        rw [hs]
      subst hsl
      exact ⟨nm, qn, ns, bs, bm, sn, sub, ab, col, dd, k0, k1, k2, k3, k5, ho, ht⟩
    · cases h1
  · cases h1
section
variable {X : Cx} {pins : List (Addr × Obj)} {σ : L2.St} {H : Hp} {s : Shared} {a C dx : Addr} {f : Str} {y : V} {u : Value} {fs : List (Str × V)} {Q : Unit → Shared → Prop} {E : Value → Shared → Prop} {A : Around} {bmB : List Value} {B newId initId : String}
/-- self.f = y, the only one -/
theorem ost_newB (BX : BaseX bmB B newId initId) (T : OexB X.K C bmB newId) (I : Inv X pins σ H s) (e : H a = some (exo a C none)) (hno : PySem.W.findIn X.K (.ref C) f = some none) (ry : RelV y u)
    (h : ∀ dx s', H dx = none → dx ≠ a → Inv X pins σ (upd (upd H dx (exd dx [(f, y)])) a (exo a C (some dx))) s' → Q () s') : wpAny (model X.prog X.w) A (setAttr (.ref a) f u) Q E s := by
  obtain ⟨nm, q, N, bs, bm, sn, sub, ab, col, dd, k0, k1, k2, k3, k5, hC, hbm⟩ := T.cls
  have hcl : PySem.W.clsIn X.K C = some { name := nm, bases := bs, mro := .ref C :: bm, ns := N, qualname := q, hasDict := true, slotNames := sn, subclasses := sub, abstract := ab, collection := col, hasDel := false } := by unfold PySem.W.clsIn; rw [hC] <;> rfl
  obtain ⟨t1, ho⟩ := exo_at I.hok e
  obtain ⟨hp, g, d, t, os⟩ := s
  refine PySem.W.set_plain I.kIn (ox := { cls := .ref C, dict := none, data := .fields #[.ref t1, .none, .none, .none, .bool false, .none] }) (od := none) ⟨ho, rfl, rfl, trivial⟩ T.sa ?_
  refine osa_newB BX I.kIn ho hcl (show PySem.W.excTail bmB (.ref C :: bm) = true from hbm) rfl hno (fun h' tk' dx k dn dne hx hn => ?_)
  have hnd : H dx = none := I.hok.fresh dn
  have nd : ∀ {b : Addr} {o : Obj}, hp.get? b = some o → b ≠ dx := fun {b o} q => Nat.ne_of_lt (Nat.lt_of_lt_of_le (Heap.lt_size q) dn)
  have na : ∀ {b : Addr}, H b = none → b ≠ a := fun {b} n z => by
    rw [z, e] at n
    cases n
  have Un1 : Un X.fs [] H (upd (upd H dx (exd dx [(f, y)])) a (exo a C (some dx))) hp h' := {
    keep := fun b o q n _ _ => k b o (na n) q
    slot := fun b o q n _ _ => ⟨o.slots, k b o (na n) q⟩
    free := fun b o q n _ => by rw [upd_ne (na n), upd_ne (nd q)]; exact n
    there := fun b o q _ => by
      by_cases hb : b = a
      · exact ⟨_, by rw [hb]; exact hx⟩
      · exact ⟨o, k b o hb q⟩
    tups := fun b xs q => by rw [upd_ne (at_ne e q exo_tup), upd_ne (ne_of_none q hnd)]; exact q
    frzs := fun b o v q => by rw [upd_ne (at_ne e q exo_frz), upd_ne (ne_of_none q hnd)]; exact q
    tbls := fun b ps q => ⟨#[], by rw [upd_ne (at_ne e q exo_tbl), upd_ne (ne_of_none q hnd), q]; simp⟩ }
  refine h dx _ hnd dne (I.un (t' := tk') Un1 fun b o q => ?_)
  by_cases hb : b = a
  · subst hb
    rw [upd_same] at q
    cases q
    exact exo_ok hx
  · rw [upd_ne hb] at q
    by_cases hd : b = dx
    · subst hd
      rw [upd_same] at q
      cases q
      exact exd_ok hn (relO_put (fs := []) ry fun g => True.intro)
    · rw [upd_ne hd] at q
      exact (I.hok b o q).stay (fun c v hc z => k c v (by
          rcases hc with hc | hc
          · rw [hc]
            exact hb
          · exact at_ne e hc exo_own) z)
        (fun c hc => by rw [upd_ne (at_ne e hc exo_own), upd_ne (ne_of_none hc hnd)]; exact hc) (fun c xs hc => by rw [upd_ne (at_ne e hc exo_tup), upd_ne (ne_of_none hc hnd)]; exact hc)
/-- Base.__init__(self, ..): nothing of it is told -/
theorem oinit_okB {us : List Value} {Q : Value → Shared → Prop} (BX : BaseX bmB B newId initId) (T : OexB X.K C bmB newId) (I : Inv X pins σ H s) (e : H a = some (exo a C none)) (hl : us.length ≤ sizeLine) (h : ∀ s', Inv X pins σ H s' → Q .none s') :
    wpAny (model X.prog X.w) A (call (.builtin initId) (.ref a :: us)) Q E s := by
  obtain ⟨nm, q, N, bs, bm, sn, sub, ab, col, dd, k0, k1, k2, k3, k5, hC, hbm⟩ := T.cls
  obtain ⟨t1, ho⟩ := exo_at I.hok e
  obtain ⟨hp, g, d, t, os⟩ := s
  refine wpAny_call (PySem.HandSPX.init_base BX.F (fun Y => PySem.W.excTail_contains Y bm hbm) (I.kIn _ _ hC) ho hl fun h' t2 k hx => ?_)
  have J := I.write (t' := t) (x := a) (e := a) (o := exo a C none) (by rw [e]; exact True.intro) (.inl rfl) k ⟨_, hx⟩ (exo_ok hx)
  have eu : upd H a (exo a C none) = H := by
    funext b
    by_cases hb : b = a
    · rw [hb, upd_same, e]
    · rw [upd_ne hb]
  rw [eu] at J
  exact h _ J
end
/-- Base.__init__(self, ..) -/
def tBxI (K : PySem.W.Frag) (bmB : List Value) (newId : String) (ta : TA) : TE := fun σ H Q => ta σ H fun vs H1 => ∃ (a C : Addr) (ws : List V), vs = .ref a :: ws ∧ ws.length ≤ 1000 ∧ OexB K C bmB newId ∧ H1 a = some (exo a C none) ∧ Q .non H1
/-- self.f = e -/
def tBxS (K : PySem.W.Frag) (bmB : List Value) (newId : String) (f : Str) (to te : TE) : TS := fun D σ H => te σ H fun y H1 => to σ H1 fun x H2 => ∃ a C : Addr, x = .ref a ∧ OexB K C bmB newId ∧ PySem.W.findIn K (.ref C) f = some none ∧
  H2 a = some (exo a C none) ∧ ∀ dx, H2 dx = none → dx ≠ a → D.nx σ (upd (upd H2 dx (exd dx [(f, y)])) a (exo a C (some dx)))
/-- C(e, ..), C's own __init__ keeping sp -/
def tMkB (C : Addr) (sp : Sp) (W : WX) (ta : TA) : L2.St → Hp → XK → Prop := fun σ H Q => ta σ H fun vs H1 => vs.length ≤ 1000 ∧ ∀ a, H1 a = none → sp (.ref a :: vs) (upd H1 a (exo a C none))
  (fun v H2 => v = .non ∧ ∃ (d : Addr) (fs : List (Str × V)), H2 a = some (exo a C (some d)) ∧ H2 d = some (exd d fs) ∧ H1 d = none ∧ Q (.ref C) (some d) (upd (del H2 a) d (.xd fs))) (WE W σ)
/-- an own base whose __init__ is the built-in one -/
structure BxiC (K : PySem.W.Frag) (D : Addr) (initId : String) : Prop where
  ga : PySem.W.specialIn K (.ref D) "__getattribute__" = some (some (.builtin "type.__getattribute__"))
  rd : PySem.W.readsIn K D (.type "type") = true
  fc : PySem.W.findCls K (.ref D) (.type "type") "__init__" = some (.val (.builtin initId))
def bxiIs (K : PySem.W.Frag) (D : Addr) (initId : String) : Bool := match PySem.W.findCls K (.ref D) (.type "type") "__init__" with
  | some (.val v) => v == .builtin initId
  | _ => false
def bxiF (initId : String) (x : Str) : Fx := fun K => decide (PySem.W.specialIn K (.ref (He.ga K x)) "__getattribute__" = some (some (.builtin "type.__getattribute__"))) && (PySem.W.readsIn K (He.ga K x) (.type "type") && bxiIs K (He.ga K x) initId)
theorem bxi_of {initId : String} {x : Str} {K : PySem.W.Frag} (h : bxiF initId x K = true) : BxiC K (He.ga K x) initId := by
  obtain ⟨h1, h⟩ := He.ba h
  obtain ⟨h2, h3⟩ := He.ba h
  refine ⟨of_decide_eq_true h1, h2, ?_⟩
  unfold bxiIs at h3
  split at h3
  · rename_i v hv
    rw [hv, beq_iff_eq.mp h3]
  · cases h3
section
variable {X : Cx} {o e : Expr} {es : List Expr} {to te : TE} {ta : TA} {f : Str} {p p' p1 p2 pos : Pos} {bmB : List Value} {B newId initId : String}
theorem pe_bxinit {x : Str} {D : Addr} {pl : Sem Bool} (BX : BaseX bmB B newId initId) (hg : Gl X x) (hm : X.mg x = some (.ref D)) (BI : BxiC X.K D initId) (ha : PA X (e :: es) ta)
    (hh : PySem.W.handedIn (.builtin initId) = true := by rfl) (hdb : (x == ("__debug__" : Str)) = false := by decide)
    (hc : eval (.Call (.Attribute (.Name x p1) "__init__" p2) (e :: es) [] pos) X.env = (do
      let ov ← eval (.Name x p1) X.env
      standAt p2.atName
      let (f, first) ← holding [ov] (getMethod ov "__init__" pl)
      callWith pos f first (backTo pos (starEach (e :: es) X.env)) (backToKw pos (keywordEach [] X.env))) := by rfl)
    (he : starEach (e :: es) X.env = (false, eval e X.env) :: starEach es X.env := by rfl) (hpl : (backTo pos (starEach es X.env)).any (·.1) = false := by rfl) :
    PE X (.Call (.Attribute (.Name x p1) "__init__" p2) (e :: es) [] pos) (tBxI X.K bmB newId ta) := by
  refine ⟨fun pins s σ H Q I h => ?_⟩
  refine PySem.W.methodCall_KW (ld_glob I hg hm ?_ hdb) hc
  refine PySem.W.method_cls I.kIn BI.ga (PySem.W.cls_value I.kIn BI.rd BI.fc hh ?_)
  show wpAny _ _ (callWith pos (Value.builtin initId) [] (backTo pos (starEach (e :: es) X.env)) []) _ _ _
  refine PyProof.Rows.callWith_method1 (thn (ha.run pos pins _ σ H _ (I.tok _) h) fun us s1 ⟨vs, H1, I1, r1, a, C, ws, ev, hl, T, ea, q⟩ => ?_) he hpl
  subst ev
  cases r1 with
  | @cons _ u0 _ ur ra rw' =>
    obtain rfl : u0 = Value.ref a := ra
    have hlen : ur.length ≤ sizeLine := by
      rw [← Paired.length rw', sizeLine_eq]
      omega
    exact oinit_okB BX T I1 ea hlen fun s' J => ⟨.non, H1, J, rfl, q⟩
theorem ps_bxst (BX : BaseX bmB B newId initId) (ho : PE X o to) (he : PE X e te) (hs : swapsWith e (some (.Attribute o f p')) pos.line X.env = pure false := by rfl) : PS X (.Assign [.Attribute o f p'] e pos) (tBxS X.K bmB newId f to te) := by
  refine ⟨fun pins s σ H D I h => ?_⟩
  refine plainObj_wpAny_Assign_Attribute (thn (he.run pins s σ H _ I h) fun v s1 ⟨y, H1, I1, r1, q1⟩ => thn (ho.run pins s1 σ H1 _ I1 q1) fun u s2 ⟨x, H2, I2, r2, a, C, ex, T, hno, ea, q⟩ => ?_) hs
  subst ex
  obtain rfl : u = Value.ref a := r2
  exact ost_newB BX T I2 ea hno r1 fun dx s' n ne J => ⟨σ, _, J, q dx n ne⟩
end
end L3
set_option Elab.async false
set_option linter.all false
set_option maxRecDepth 100000
set_option maxHeartbeats 4000000
namespace L3
open PySem PySem.Spec PyProof.Rows L2
end L3
set_option Elab.async false
set_option linter.all false
set_option maxRecDepth 100000
set_option maxHeartbeats 4000000
namespace L3
open PySem PySem.Spec PyProof.Rows L2
end L3
set_option Elab.async false
set_option linter.all false
set_option maxRecDepth 100000
set_option maxHeartbeats 4000000
namespace L3
open PySem PySem.Spec PyProof.Rows L2 PySem.SeqAt PySem.Calls
/-- the pairs of two lists stand at ts -/
def PrsAt (xs ys : List V) (ts : List Addr) (H : Hp) : Prop := ∀ (j : Nat) (t : Addr), ts[j]? = some t → ∃ x y, xs[j]? = some x ∧ ys[j]? = some y ∧ H t = some (.tup [x, y])
theorem PrsAt.mono {xs ys : List V} {ts : List Addr} {H H' : Hp} (h : PrsAt xs ys ts H) (e : Ex H H') : PrsAt xs ys ts H' := fun j t hj => let ⟨x, y, a, b, c⟩ := h j t hj; ⟨x, y, a, b, e _ _ c⟩
/-- how a zip of two lists stands, its last pair held or not -/
def ZlSt (a b z TI TO i1 i2 : Addr) (i : Nat) (H : Hp) (h : Heap) : Prop :=
  IsPair h TI (.ref i1) (.ref i2) ∧ h.IsListIter i1 a i ∧ h.IsListIter i2 b i ∧ (∃ x y, IsPair h TO x y) ∧ (IsZip h z TI TO .none ∨ ∃ T f xs, IsZipHeld h z TI TO T f ∧ H T = some (.tup xs))
section
variable {X : Cx} {pins : List (Addr × Obj)} {σ : L2.St} {a b z TI TO i1 i2 S : Addr}
theorem ZlSt.at {i : Nat} {H H' : Hp} {h h' : Heap} (s : ZlSt a b z TI TO i1 i2 i H h) (k : ∀ c ∈ [z, TI, TO, i1, i2], ∀ o, h.get? c = some o → h'.get? c = some o) (e : ∀ T xs, H T = some (.tup xs) → H' T = some (.tup xs)) : ZlSt a b z TI TO i1 i2 i H' h' := by
  obtain ⟨p, l1, l2, ⟨x, y, t⟩, r⟩ := s
  refine ⟨k TI (by simp) _ p, l1.at fun o q => k i1 (by simp) o q, l2.at fun o q => k i2 (by simp) o q, ⟨x, y, k TO (by simp) _ t⟩, ?_⟩
  rcases r with r | ⟨T, f, xs, r, t⟩
  · exact .inl (k z (by simp) _ r)
  · exact .inr ⟨T, f, xs, k z (by simp) _ r, e _ _ t⟩
end
end L3
set_option Elab.async false
set_option linter.all false
set_option maxRecDepth 100000
set_option maxHeartbeats 4000000
namespace L3
open PySem PySem.Spec PyProof.Rows L2
end L3
namespace PySem
open Calls AutoSeq1
end PySem
namespace L3
open PySem PySem.Spec PyProof.Rows L2
end L3
set_option Elab.async false
set_option linter.all false
set_option maxRecDepth 100000
set_option maxHeartbeats 4000000
namespace L3
open PySem PySem.Spec PyProof.Rows L2
end L3
set_option Elab.async false
set_option linter.all false
set_option maxRecDepth 100000
set_option maxHeartbeats 4000000
noncomputable section
namespace HandSHeadRun
open PySem PySem.W PySem.Calls PyProof.Rows
end HandSHeadRun
end
set_option Elab.async false
set_option linter.all false
set_option maxRecDepth 100000
set_option maxHeartbeats 4000000
namespace L3
open PySem PySem.Spec PyProof.Rows L2
end L3
set_option Elab.async false
set_option linter.all false
set_option maxRecDepth 100000
set_option maxHeartbeats 4000000
namespace L3
open PySem PySem.Spec PyProof.Rows L2
open PySem.AutoSeq1 (wpAny_loadPart')
end L3
set_option Elab.async false
set_option linter.all false
set_option maxRecDepth 100000
set_option maxHeartbeats 4000000
namespace L3
open PySem PySem.Spec PySem.Calls PySem.HandSPX
section
variable {prog : Program} {w : World} {A : Around} {E : Value → Shared → Prop} {R : Result → Shared → Prop} {h : Heap} {g : Array GenState} {d : Drawn} {t : Nat} {os : OsState}
variable {nm q : Str} {C N : Addr} {bs bm bmB : List Value} {hdct : Bool} {sn : List Str} {sub : List Value} {ab : Bool} {col : Option Bool} {dd : Option Addr} {k0 k1 k2 k3 k5 : Option Value} {B newId initId : String}
theorem new_ownK (F : ExcBaseFacts B newId initId bmB) (hT : ∀ X : String, bm.contains (.type X) = bmB.contains (.type X)) {rest : List Value} {kw : List (Str × Value)}
    (hC : h.get? C = some (excClassObj nm q C N bs bm hdct sn sub ab col dd k0 k1 k2 k3 k5 newId))
    (hq : R (.ok (.ret (.ref (h.objs.size + 1)))) ⟨(h.push { cls := .type "tuple", data := .seq rest.toArray }).push
      { cls := .ref C, data := .fields #[.ref h.objs.size, .none, .none, .none, .bool false, .none] }, g, d, t, os⟩) (hrest : rest.length ≤ sizeLine) :
    codeAny (model prog w) A (.builtin newId ⟨.ref C :: rest, kw⟩) R ⟨h, g, d, t, os⟩ := by
  have hends := F.ends
  have hcB : (Value.ref C :: bm).contains (.type B) = true := by rw [List.contains_cons, hT, F.hasB, Bool.or_true]
  have hcA : (Value.ref C :: bm).contains (.type "AttributeError") = false := by rw [List.contains_cons, hT, F.noAttr]; rfl
  have hcN : (Value.ref C :: bm).contains (.type "NameError") = false := by rw [List.contains_cons, hT, F.noName]; rfl
  refine codeAny_builtinAt F.entry ?_
  unfold Builtin.«BaseException.__new__»
  refine wpAt_bind ?_
  show wpAt _ _ _ (stack >>= _) _ _ _
  refine wpAt_bind (wpAt_stack fun p below => wpAt_of_wpAny ?_)
  wp_walk
  refine wpAt_of_wpAny ?_
  rw [F.owner]
  repeat (first | with_reducible refine wpAny_madeHere_exc F.canon hC ?_ | with_reducible refine wpAny_loadPart_at hC ?_ | (with_reducible refine wpAny_isSubtype_exc hC ?_; first | rw [hcB] | rw [hcA] | rw [hcN]) | wp_step)
  show R _ _
  rw [Heap.size_push]
  exact hq
theorem check_new_ownK (F : ExcBaseFacts B newId initId bmB) (hT : ∀ X : String, bm.contains (.type X) = bmB.contains (.type X)) {rest : List Value} {kw : List (Str × Value)} {Q : Unit → Shared → Prop} {M : Model}
    (hC : h.get? C = some (excClassObj nm q C N bs bm hdct sn sub ab col dd k0 k1 k2 k3 k5 newId)) (hq : Q () ⟨h, g, d, t, os⟩) : wpAny M A (checkBuiltinCall newId ⟨.ref C :: rest, kw⟩) Q E ⟨h, g, d, t, os⟩ := by
  have hcont : (Value.ref C :: bm).contains (.type B) = true := by rw [List.contains_cons, hT, F.hasB, Bool.or_true]
  have hstar := F.noStar
  simp only [checkBuiltinCall, F.newKind, F.newSplit, F.newRow]
  repeat (first | refine wpAny_loadPart_at hC ?_ | (refine wpAny_isSubtype_exc hC ?_; rw [hcont]) | refine wpAny_staticBase_exc hC ?_ | refine wpAny_madeBy_exc hC ?_ | simp only [bne_self_eq_false, Bool.false_eq_true, if_false] | wp_step)
  exact hq
theorem type_call_ownK (F : ExcBaseFacts B newId initId bmB) (hT : ∀ X : String, bm.contains (.type X) = bmB.contains (.type X)) {rest : List Value} {kw : List (Str × Value)} {fI : Addr} {Q : Fin → Shared → Prop}
    (hC : h.get? C = some (excClassObj nm q C N bs bm hdct sn sub ab col dd k0 k1 k2 k3 k5 newId))
    (hi : W.Looks (model prog w) h (typeLookup (.ref C) "__init__") (some (.ref fI))) (hb : ∀ self, W.Looks (model prog w) h (bindSpecial (.ref fI) self) (.ref fI, [self])) (hrest : rest.length ≤ sizeLine)
    (hq : codeAny (model prog w) A (.call (.ref fI) ⟨.ref (h.objs.size + 1) :: rest, kw⟩)
      (fun r s' => match r with | .ok (.ret v) => v = .none ∧ Q (.done (.ret (.ref (h.objs.size + 1)))) s' | .ok _ => False | .error e => E e s')
      ⟨(h.push (W.kdv_tup rest)).push (excO C h.objs.size), g, d, t, os⟩) :
    wpAny (model prog w) A (Builtin.«type.__call__» ⟨.ref C :: rest, kw⟩) Q E ⟨h, g, d, t, os⟩ := by
  repeat (first | with_reducible refine wpAny_loadPart_at hC ?_ | with_reducible refine wpAny_madeBy_exc hC ?_ | wp_step)
  refine codeAny_call_builtin_code (Code.quiet_builtin _ F.quiet) (check_new_ownK F hT hC ?_)
  refine new_ownK F hT hC ?_ hrest
  show wpAny _ _ _ _ _ _
  have k : ∀ b o, h.get? b = some o → ((h.push (W.kdv_tup rest)).push (excO C h.objs.size)).get? b = some o := fun b o e => Heap.get?_push_of_some _ (Heap.get?_push_of_some _ e)
  have hC₁ := k _ _ hC
  have hget : ((h.push (W.kdv_tup rest)).push (excO C h.objs.size)).get? (h.objs.size + 1) = some (excO C h.objs.size) := by heap_get
  have hcC : (Value.ref C :: bm).contains (.ref C) = true := by simp
  have i1 := hi.keeps k
  have b1 := (hb (.ref (h.objs.size + 1))).keeps k
  unfold isInstance
  repeat (first | with_reducible refine wpAny_loadPart_at hget ?_ | (with_reducible refine wpAny_isSubtype_exc hC₁ ?_; rw [hcC]) | wp_step)
  show wpAny _ _ (typeLookup (.ref C) _) _ _ _
  refine i1.at ?_
  refine wpAny_holding (wpAny_bind (b1.at ?_))
  refine wpAny_bind (wpAny_call (codeAny_mono hq fun r s' z => ?_))
  rcases r with e | (v | _ | _ | _) <;> first | exact z | exact z.elim | skip
  obtain ⟨rfl, z⟩ := z
  first
    | exact wpAny_pure (wpAny_pure z)
    | (wp_walk; exact z)
theorem call_ownK (F : ExcBaseFacts B newId initId bmB) (hT : ∀ X : String, bm.contains (.type X) = bmB.contains (.type X)) {rest : List Value} {kw : List (Str × Value)} {fI : Addr}
    (hC : h.get? C = some (excClassObj nm q C N bs bm hdct sn sub ab col dd k0 k1 k2 k3 k5 newId))
    (hi : W.Looks (model prog w) h (typeLookup (.ref C) "__init__") (some (.ref fI))) (hb : ∀ self, W.Looks (model prog w) h (bindSpecial (.ref fI) self) (.ref fI, [self])) (hrest : rest.length ≤ sizeLine)
    (hq : codeAny (model prog w) (A.under (.builtin "type.__call__" ⟨.ref C :: rest, kw⟩)) (.call (.ref fI) ⟨.ref (h.objs.size + 1) :: rest, kw⟩) (W.InitBack (h.objs.size + 1) R)
      ⟨(h.push (W.kdv_tup rest)).push (excO C h.objs.size), g, d, t, os⟩) :
    codeAny (model prog w) A (.call (.ref C) ⟨rest, kw⟩) R ⟨h, g, d, t, os⟩ := by
  have f1 := tc_lookup
  have f2 := tc_bind (.ref C)
  have hTy : (⟨h, g, d, t, os⟩ : Shared).TypeIs (.ref C) "type" := ⟨_, hC, rfl⟩
  refine codeAny_of_tree ?_
  show wpAny _ _ (callAny (.ref C) _) _ _ _
  repeat (any_goals (first | assumption | with_reducible refine wpAny_loadPart_at hC ?_ | wp_step))
  refine ⟨rfl, ?_⟩
  refine codeAny_call_builtin_at (Code.quiet_builtin _ (by decide +kernel)) entry_typeCall (wpAny_check_type_call_sub hC (type_call_ownK F hT hC hi hb hrest ?_))
  refine codeAny_mono hq fun r s' z => ?_
  rcases r with e | (v | _ | _ | _) <;> exact z
end
end L3
namespace L3
open PySem PySem.Spec PySem.Calls PyProof.Rows L2
/-- C(e, ..), C's own __init__ keeping sp, as a value -/
def tMkV (C : Addr) (sp : Sp) (W : WX) (ta : TA) : TE := fun σ H Q => ta σ H fun vs H1 => vs.length ≤ 1000 ∧ ∀ a, H1 a = none → sp (.ref a :: vs) (upd H1 a (exo a C none)) (fun v H2 => v = .non ∧ Q (.ref a) H2) (WE W σ)
/-- C(k = e, ..) -/
def tMkVK (C : Addr) (n : Nat) (sp : Sp) (W : WX) (ta : TA) : TE := fun σ H Q => ta σ H fun vs H1 => vs.length = n ∧ ∀ a, H1 a = none → sp (.ref a :: vs) (upd H1 a (exo a C none)) (fun v H2 => v = .non ∧ Q (.ref a) H2) (WE W σ)
section
variable {X : Cx} {e : Expr} {es : List Expr} {ta : TA} {te : TE} {p pos : Pos} {bmB : List Value} {B newId initId : String}
theorem pe_oexV {x : Str} {C fI : Addr} {k : Nat} {sp : Sp} {W : WX} (BX : BaseX bmB B newId initId) (T : OexB X.K C bmB newId) (hm : Meth X.K C "__init__" fI)
    (F1 : Fc X.prog X.w X.K X.mg X.base k fI [] sp) (hr : Rm (k + 1) X.A) (hx : Takes X W) (hC : X.mg x = some (.ref C)) (ha : PA X (e :: es) ta) (hg : Gl X x := by rfl)
    (hdb : (x == ("__debug__" : Str)) = false := by decide) (he : starEach (e :: es) X.env = (false, eval e X.env) :: starEach es X.env := by rfl) (hpl : (backTo pos (starEach es X.env)).any (·.1) = false := by rfl) :
    PE X (.Call (.Name x p) (e :: es) [] pos) (tMkV C sp W ta) := by
  refine ⟨fun pins s σ H Q I h => ?_⟩
  obtain ⟨nm, q, N, bs, bm, sn, sub, ab, col, dd, k0, k1, k2, k3, k5, hCl, hbm⟩ := T.cls
  refine wpAny_Call_Name_kw (ld_glob I hg hC ?_ hdb)
  refine PySem.W.callWith_K (h₀ := X.base) I.ok.mod.kin T.kC (thn (ha.run pos pins s σ H _ I h) fun us s1 ⟨vs, H1, I1, r1, hz, q1⟩ => ⟨I1.kIn, ?_⟩) he hpl
  show wpAny _ _ (call (.ref C) us) _ _ _
  obtain ⟨hp, g, dr, tk, os⟩ := s1
  have hsz : hp.objs.size ≤ hp.objs.size + 1 := Nat.le_succ _
  have hn : H1 (hp.objs.size + 1) = none := I1.hok.fresh hsz
  have hq := q1 (hp.objs.size + 1) hn
  have kk : ∀ b o, hp.get? b = some o → ((hp.push (PySem.W.kdv_tup us)).push (PySem.HandSPX.excO C hp.objs.size)).get? b = some o := fun b o e => Heap.get?_push_of_some _ (Heap.get?_push_of_some _ e)
  have hget : ((hp.push (PySem.W.kdv_tup us)).push (PySem.HandSPX.excO C hp.objs.size)).get? (hp.objs.size + 1) = some (PySem.HandSPX.excO C hp.objs.size) := by heap_get
  have I2 : Inv X pins σ (upd H1 (hp.objs.size + 1) (exo (hp.objs.size + 1) C none)) ⟨(hp.push (PySem.W.kdv_tup us)).push (PySem.HandSPX.excO C hp.objs.size), g, dr, tk, os⟩ :=
    I1.laid (t' := tk) (a := hp.objs.size + 1) (o := exo (hp.objs.size + 1) C none) (h' := (hp.push (PySem.W.kdv_tup us)).push (PySem.HandSPX.excO C hp.objs.size)) kk hsz (exo_ok hget)
  have hus : us.length ≤ sizeLine := by
    rw [← Paired.length r1, sizeLine_eq]
    omega
  refine wpAny_call (call_ownK BX.F (fun Y => PySem.W.excTail_contains Y bm hbm) (I1.kIn _ _ hCl) (PySem.W.looks_findIn I1.kIn hm.at_) (fun self => PySem.W.bind_fn I1.kIn self (beq_iff_eq.mp hm.fn)) hus
    (codeAny_mono (F1 _ X.stack _ _ (Value.ref (hp.objs.size + 1) :: us) [] (V.ref (hp.objs.size + 1) :: vs) _ (WE W σ) (hr.make C us []) (I2.env0.make C us []) (.cons rfl (by have e9 : us.append [] = us := List.append_nil us; rw [e9]; exact r1)) rfl hq) fun r s' hq' => ?_))
  cases r with
  | error er => exact passAt hx σ pins _ _ er s' I2 hq'
  | ok fl =>
    cases fl with
    | ret u =>
      obtain ⟨v, H3, J, rv, ev, q2⟩ := I2.after hq'
      subst ev
      exact ⟨rv, .ref (hp.objs.size + 1), H3, J, rfl, q2⟩
    | next => exact False.elim hq'
    | brk => exact False.elim hq'
    | cont => exact False.elim hq'
theorem pe_oexVK {x : Str} {C fI : Addr} {k : Nat} {sp : Sp} {W : WX} {ks : List Str} {kws : List Keyword} {tk : TA} (BX : BaseX bmB B newId initId) (T : OexB X.K C bmB newId) (hm : Meth X.K C "__init__" fI)
    (F1 : Fc X.prog X.w X.K X.mg X.base k fI ks sp) (hr : Rm (k + 1) X.A) (hx : Takes X W) (hC : X.mg x = some (.ref C)) (hkw : PK X kws tk) (hg : Gl X x := by rfl)
    (hall : (backToKw pos (keywordEach kws X.env)).all (·.1.isSome) = true := by rfl) (hks : (backToKw pos (keywordEach kws X.env)).filterMap (·.1) = ks := by rfl)
    (hdb : (x == ("__debug__" : Str)) = false := by decide)
    (hpl : ((backTo pos (starEach [] X.env)).any (·.1) || (backToKw pos (keywordEach kws X.env)).any (·.1.isNone)) = false := by rfl) :
    PE X (.Call (.Name x p) [] kws pos) (tMkVK C ks.length sp W tk) := by
  refine ⟨fun pins s σ H Q I h => ?_⟩
  obtain ⟨nm, q, N, bs, bm, sn, sub, ab, col, dd, k0, k1, k2, k3, k5, hCl, hbm⟩ := T.cls
  refine wpAny_Call_Name_kw (ld_glob I hg hC ?_ hdb)
  refine PySem.W.callWith_KW0 (h₀ := X.base) I.ok.mod.kin T.kC hall ?_ hpl
  refine thn (hkw.run pos pins s σ H _ I h) fun ws s1 ⟨zs, H1, I1, rz, l2, q1⟩ => ⟨I1.kIn, ?_⟩
  rw [hks]
  obtain ⟨hp, g, dr, tk, os⟩ := s1
  have hsz : hp.objs.size ≤ hp.objs.size + 1 := Nat.le_succ _
  have hn : H1 (hp.objs.size + 1) = none := I1.hok.fresh hsz
  have hq := q1 (hp.objs.size + 1) hn
  have kk : ∀ b o, hp.get? b = some o → ((hp.push (PySem.W.kdv_tup [])).push (PySem.HandSPX.excO C hp.objs.size)).get? b = some o := fun b o e => Heap.get?_push_of_some _ (Heap.get?_push_of_some _ e)
  have hget : ((hp.push (PySem.W.kdv_tup [])).push (PySem.HandSPX.excO C hp.objs.size)).get? (hp.objs.size + 1) = some (PySem.HandSPX.excO C hp.objs.size) := by heap_get
  have I2 : Inv X pins σ (upd H1 (hp.objs.size + 1) (exo (hp.objs.size + 1) C none)) ⟨(hp.push (PySem.W.kdv_tup [])).push (PySem.HandSPX.excO C hp.objs.size), g, dr, tk, os⟩ :=
    I1.laid (t' := tk) (a := hp.objs.size + 1) (o := exo (hp.objs.size + 1) C none) (h' := (hp.push (PySem.W.kdv_tup [])).push (PySem.HandSPX.excO C hp.objs.size)) kk hsz (exo_ok hget)
  refine wpAny_call (call_ownK BX.F (fun Y => PySem.W.excTail_contains Y bm hbm) (I1.kIn _ _ hCl) (PySem.W.looks_findIn I1.kIn hm.at_) (fun self => PySem.W.bind_fn I1.kIn self (beq_iff_eq.mp hm.fn)) (Nat.zero_le _)
    (codeAny_mono (F1 _ X.stack _ _ [Value.ref (hp.objs.size + 1)] ws (V.ref (hp.objs.size + 1) :: zs) _ (WE W σ) (hr.make C [] _) (I2.env0.make C [] _) (.cons rfl rz) (rz.length.symm.trans l2) hq) fun r s' hq' => ?_))
  cases r with
  | error er => exact passAt hx σ pins _ _ er s' I2 hq'
  | ok fl =>
    cases fl with
    | ret u =>
      obtain ⟨v, H3, J, rv, ev, q2⟩ := I2.after hq'
      subst ev
      exact ⟨rv, .ref (hp.objs.size + 1), H3, J, rfl, q2⟩
    | next => exact False.elim hq'
    | brk => exact False.elim hq'
    | cont => exact False.elim hq'
/-- e.f, e an own exception that is held as a value -/
def tXo (C : Addr) (f : Str) (te : TE) : TE := fun σ H Q => te σ H fun x H1 => ∃ (a d : Addr) (fs : List (Str × V)) (v : V), x = .ref a ∧ H1 a = some (exo a C (some d)) ∧ H1 d = some (exd d fs) ∧ fs.lookup f = some v ∧ Q v H1
theorem pe_xo {C : Addr} {n : Str} (T : XfC X.K C) (hno : PySem.W.findIn X.K (.ref C) n = some none) (he : PE X e te) (hb : attributeBase e n X.env (eval e X.env) = eval e X.env := by rfl) : PE X (.Attribute e n pos) (tXo C n te) := by
  refine ⟨fun pins s σ H Q I h => ?_⟩
  refine attr_of hb (thn (he.run pins s σ H _ I h) fun u s1 hh => ?_)
  obtain ⟨x, H1, I1, rx, a, d, fs, v, ex, ea, ed, l, q⟩ := hh
  subst ex
  obtain rfl : u = Value.ref a := rx
  obtain ⟨t1, ha⟩ := exo_at I1.hok ea
  obtain ⟨mA, hns, hr⟩ := exd_at I1.hok ed
  obtain ⟨od, ho, hl⟩ := lookIn_ns hns
  obtain ⟨u, hu, ru⟩ := RelO.some_of (v := v) (o := mA n) (by rw [← l]; exact hr n)
  have J : PySem.W.InstAt s1.heap a { cls := .ref C, dict := some d, data := .fields #[.ref t1, .none, .none, .none, .bool false, .none] } C (some od) := ⟨ha, rfl, rfl, ho⟩
  exact HandSPX.exc_get I1.kIn J T.ga T.gg T.exC (PySem.W.findObj_own T.hdC hno rfl (by rw [hl, hu])) (handed_of ru) ⟨v, H1, I1.tok _, ru, q⟩
/-- isinstance(e, C), e an exception without fields that is held as a value -/
def rIsX (K : PySem.W.Frag) : List V → Hp → VK → Prop := fun xs H Q => ∃ (a D : Addr) (c : V) (cv : Value) (b : Bool), H a = some (ExO (.ref D) a) ∧ ExcC K D ∧ xs = [.ref a, c] ∧ ClsV c cv ∧ PySem.W.kitOne K (.ref D) cv = some b ∧ Q (.bl b) H
theorem call_isX (K : PySem.W.Frag) (hK : X.K = K := by rfl) : CallR X (.builtin "isinstance") (rIsX K) := by
  subst hK
  intro pins s σ H xs us Q I r h
  obtain ⟨a, D, c, cv, b, ha, C, rfl, k, e, q⟩ := h
  obtain ⟨u1, u2, rfl, r1, r2⟩ := vals2 r
  have e2 := k.eq r2
  subst e2
  cases (show u1 = Value.ref a from r1)
  obtain ⟨⟨oe, vs, hget, hz, hd, _⟩, _, _⟩ := I.hok a _ ha
  obtain ⟨oc, odd, oda, osl⟩ := oe
  obtain ⟨h1, h2⟩ := hz
  dsimp only at h1 h2 hd
  subst h1 h2 hd
  have J : PySem.W.InstAt s.heap a _ D none := ⟨hget, rfl, rfl, trivial⟩
  exact PySem.W.kia_one (kitx_excA C) I.kIn J e (fun z => nomatch z) fun tk => ⟨.bl b, H, I.kept (t' := tk) fun _ _ z => z, rfl, q⟩
end
end L3
set_option Elab.async false
set_option linter.all false
set_option maxRecDepth 100000
set_option maxHeartbeats 4000000
namespace L3
open PySem PySem.Spec PyProof.Rows L2
end L3
set_option Elab.async false
set_option linter.all false
set_option maxRecDepth 100000
set_option maxHeartbeats 4000000
namespace L3
open PySem PySem.Spec PyProof.Rows L2
end L3
set_option Elab.async false
set_option linter.all false
set_option maxRecDepth 100000
set_option maxHeartbeats 4000000
namespace L3
open PySem PySem.Spec PyProof.Rows L2
end L3
set_option Elab.async false
set_option linter.all false
set_option maxRecDepth 100000
set_option maxHeartbeats 4000000
namespace L3
open PySem PySem.Spec PyProof.Rows L2
/-- the block's context, the caught exception kept -/
abbrev blkH (X : Cx) (s : Shared) (H : Hp) (scope : Scope) (cenv : Env) (fp : List Addr) : Cx := { X.blk s H scope cenv fp with pn := X.pn }
section
variable {X : Cx} {pins : List (Addr × Obj)} {σ : L2.St} {H : Hp} {s : Shared}
theorem okH {s : Shared} {H : Hp} {scope : Scope} {cenv : Env} {fp : List Addr} (o : (X.blk s H scope cenv fp).Ok) : (blkH X s H scope cenv fp).Ok :=
  ⟨o.mod, o.kind, o.glob, o.blt, o.above, o.inj, o.has, o.cab, o.hd, o.frames, o.stk, o.exf, o.bs, o.bsz, o.noex, o.exfs, o.funs, o.frf⟩
theorem block_startH {scope : Scope} {own : List (Str × Nat)} {fp : List Addr} (I : Inv X pins σ H s) (ok : BlkOk X.N X.env.scope scope own) (hN : X.N.Nodup) (hfp : ∀ b ∈ fp, FpOk X pins H b ∧ b < s.heap.objs.size) :
    Inv (blkH X s H scope (compEnvC scope (cellsFrom (s.heap.objs.size + 1) scope.names (cloFrom X.env.cells scope.names [])) s.heap.objs.size X.env) fp) [] (wipe σ (own.map (·.2))) H { s with heap := pushCells (s.heap.push { cls := .type "dict", data := .dict #[] }) scope.names } := by
  have J := block_start I ok hN hfp
  refine ⟨okH J.ok, J.os, J.bare, J.base, J.loc, J.cell, J.free, J.freeC, fun p hp => ?_, J.hok, J.len⟩
  have hp : p ∈ X.pn ++ ([] : List (Addr × Obj)) := hp
  rw [List.append_nil] at hp
  obtain ⟨p1, p2, p3, p4, p5⟩ := I.pin p (List.mem_append_left _ hp)
  refine ⟨pushCells_keeps _ _ _ _ (Heap.get?_push_of_some _ p1), p2, ?_, fun hm => (List.mem_cons.mp (I.stkSub p.1 hm)).elim p3 p4, p5⟩
  exact Nat.ne_of_lt (Heap.lt_size p1)
theorem lc_coreH {Q : VK} {elt tg iter : Expr} {ifs : List Expr} {scope : Scope} {own : List (Str × Nat)} {pos pos' : Pos} {wi : TI} {g : TG} {tt : TT} {te : TE} {use : Option (Value → Sem Unit)} {Qf : Value → Shared → Prop}
    (hc : L2H.HotC X) (hN : X.N.Nodup) (I : Inv X pins σ H s) (hi : L2H.PIH X tg iter wi) (ok : BlkOk X.N X.env.scope scope own)
    (hg : ∀ (s : Shared) (H : Hp) (C : Addr) (cl : List (Str × Addr)) (fp : List Addr), PG (blkH X s H scope (compEnvC scope cl C X.env) fp) tg g) (ht : ∀ (s : Shared) (H : Hp) (C : Addr) (cl : List (Str × Addr)) (fp : List Addr), PTs (blkH X s H scope (compEnvC scope cl C X.env) fp) ifs tt)
    (he : ∀ (s : Shared) (H : Hp) (C : Addr) (cl : List (Str × Addr)) (fp : List Addr), PE (blkH X s H scope (compEnvC scope cl C X.env) fp) elt te) (hs : ∀ x, foldedSetIterable iter X.env x = pure x)
    (h : tLc wi g tt te (own.map (·.2)) σ H Q)
    (hRR : ∀ D C s' m H', Inv X pins σ H' s' → Q (.ref D) H' → s'.heap.Ns C m → FpOk X pins H' C → compPost (model X.prog X.w) X.A X.xe use Qf (.ref D) C (.ok .next) s') :
    wpAny (model X.prog X.w) X.A (comprehension (.ListComp elt [⟨tg, iter, ifs, 0⟩] scope pos) scope X.env pos' (newList []) false (eval iter X.env) use) Qf X.xe s := by
  have hfree : ∀ y ∈ scope.names, y.2 = .free → ∃ c, X.env.cells.lookup y.1 = some c := fun y hy e => by
    rcases ok.free y hy e with k | k
    · exact I.ok.has _ (.inl k)
    · exact I.ok.has _ (.inr k)
  refine wpAny_comprehension_free (use := use) rfl hs (closure_ok hfree) ok.kind (fun y hy e => by rw [ok.uniq y hy, e])
    (thn (hi.run pins s σ H _ I h) fun xv s1 hx => thn hx fun itv s2 h2 => ?_)
  obtain ⟨it, fp, tn, J, H2, e, I2, T, st2, f2, q⟩ := h2
  subst e
  refine wpAny_newObj_type (newEnv_comp ?_) (by show 0 ≤ sizeLine; decide)
  generalize hD : s2.heap.objs.size = D
  have hDn : H2 D = none := I2.hok.fresh (Nat.le_of_eq hD)
  obtain ⟨W, ⟨m0, w0⟩, turn⟩ := q D hDn
  generalize hs3 : ({ s2 with heap := s2.heap.push { cls := .type "list", data := .seq ([] : List Value).toArray } } : Shared) = s3
  have I3 : Inv X pins σ (upd H2 D (.lst [])) s3 := by
    rw [← hs3]
    refine I2.laid (t' := s2.toks) (fun b o e => Heap.get?_push_of_some _ e) (Nat.le_of_eq hD) ⟨Nat.zero_le _, [], 0, .nil, ?_⟩
    rw [← hD]
    exact Heap.get?_push_size _ rfl
  have h3 : s3.heap = s2.heap.push { cls := .type "list", data := .seq ([] : List Value).toArray } := by rw [← hs3]
  have sz : ∀ b ∈ fp, b < s2.heap.objs.size := fun b hb => by
    obtain ⟨o, e, _⟩ := T.obj _ _ st2 b hb
    exact Heap.lt_size e
  have f3 : ∀ b ∈ fp, FpOk X pins (upd H2 D (.lst [])) b ∧ b < s3.heap.objs.size := fun b hb => by
    have hlt := sz b hb
    refine ⟨⟨?_, (f2 b hb).2⟩, by rw [h3, Heap.size_push]; exact Nat.lt_succ_of_lt hlt⟩
    rw [upd_ne (by rw [← hD]; exact Nat.ne_of_lt hlt)]
    exact (f2 b hb).1
  have st3 : tn 0 s3.heap := T.keep _ _ _ st2 fun b _ o e => by rw [h3]; exact Heap.get?_push_of_some _ e
  have I4 := block_startH I3 ok hN f3
  have pg := hg s3 (upd H2 D (.lst [])) s3.heap.objs.size (cellsFrom (s3.heap.objs.size + 1) scope.names (cloFrom X.env.cells scope.names [])) fp
  have pt := ht s3 (upd H2 D (.lst [])) s3.heap.objs.size (cellsFrom (s3.heap.objs.size + 1) scope.names (cloFrom X.env.cells scope.names [])) fp
  have pe := he s3 (upd H2 D (.lst [])) s3.heap.objs.size (cellsFrom (s3.heap.objs.size + 1) scope.names (cloFrom X.env.cells scope.names [])) fp
  show codeAny _ _ (.compStart (.ListComp elt [⟨tg, iter, ifs, 0⟩] scope pos) 0 (.ref it) (.ref D) (compEnvC scope (cellsFrom (s3.heap.objs.size + 1) scope.names (cloFrom X.env.cells scope.names [])) s3.heap.objs.size X.env)) (compPost (model X.prog X.w) X.A X.xe use Qf (.ref D) s3.heap.objs.size) { s3 with heap := pushCells (s3.heap.push { cls := .type "dict", data := .dict #[] }) scope.names }
  have nfp : ∀ b ∈ fp, (upd H2 D (.lst [])) b = none := fun b hb => (f3 b hb).1.1
  generalize hce : compEnvC scope (cellsFrom (s3.heap.objs.size + 1) scope.names (cloFrom X.env.cells scope.names [])) s3.heap.objs.size X.env = ce at I4 pg pt pe ⊢
  have cL : ce.locals = s3.heap.objs.size := by subst hce; rfl
  generalize hH3 : upd H2 D (.lst []) = H3 at I3 I4 pg pt pe w0 nfp f3
  generalize hs4 : ({ s3 with heap := pushCells (s3.heap.push { cls := .type "dict", data := .dict #[] }) scope.names } : Shared) = s4 at I4 ⊢
  have st4 : tn 0 s4.heap := T.keep _ _ _ st3 fun b _ o e => by rw [← hs4]; exact pushCells_keeps _ _ _ _ (Heap.get?_push_of_some _ e)
  have hcB : L2H.HotC (blkH X s3 H3 scope ce fp) := hc
  have stat : ∀ {σ' : L2.St} {H' : Hp} {s' : Shared}, Inv (blkH X s3 H3 scope ce fp) [] σ' H' s' → (∀ b ∈ fp, H' b = none) → ∀ b ∈ fp, FpOk (blkH X s3 H3 scope ce fp) [] H' b := fun {σ' H' s'} I' hn b hb =>
    ⟨hn b hb, (I'.ok.exf b hb).1, I'.ok.exfs b hb, .inl hb, fun x c e => (I'.ok.exf b hb).2 x c e, fun p hp => by
      have hp : p ∈ X.pn ++ ([] : List (Addr × Obj)) := hp
      rw [List.append_nil] at hp
      exact (f3 b hb).1.2.2.2.2.2 p (List.mem_append_left _ hp)⟩
  have loop : codeAny (model X.prog X.w) X.A (.compLoop (.ListComp elt [⟨tg, iter, ifs, 0⟩] scope pos) 0 (.ref it) (.ref D) ce) (compPost (model X.prog X.w) X.A X.xe use Qf (.ref D) s3.heap.objs.size) s4 := by
    refine compLoop_any (fun n s' => ∃ i H', Inv (blkH X s3 H3 scope ce fp) [] (wipe σ (own.map (·.2))) H' s' ∧ tn i s'.heap ∧ (∀ b ∈ fp, H' b = none) ∧ W i n H') ?_ m0 ⟨0, H3, I4, st4, nfp, w0⟩
    rintro n s5 ⟨i, H5, I5, st5, n5, w5⟩
    rcases turn i n H5 w5 with ⟨stop, qq⟩ | ⟨go, Nx, hNx, step⟩
    · have td := T.done (blkH X s3 H3 scope ce fp) rfl rfl rfl hcB i [] s5 _ H5 (fun _ _ => False) I5 (stat I5 n5) st5 stop
      refine thnF td fun r s6 ⟨hr, I6⟩ => ?_
      subst hr
      have I7 : Inv X pins σ H5 s6 := I3.call' (ch := fp) I6.os I6.base I6.hok I6.bare fun b hb => ⟨(f3 b hb).1.2.2.2.1, (f3 b hb).1.2.1, (f3 b hb).1.2.2.2.2.1, (f3 b hb).1.2.2.2.2.2⟩
      have nC : H5 s3.heap.objs.size = none := by
        have z : H5 ce.locals = none := I6.free
        rw [cL] at z
        exact z
      obtain ⟨m, hn, _⟩ := I6.loc
      have hn : s6.heap.Ns ce.locals m := hn
      rw [cL] at hn
      exact hRR D s3.heap.objs.size s6 m H5 I7 qq hn (I3.fpOk (Nat.le_refl _) nC)
    · have ti := T.item (blkH X s3 H3 scope ce fp) rfl rfl rfl hcB i [] s5 _ H5 (fun _ _ => False) I5 (stat I5 n5) st5 go
      refine thnF ti fun r s6 ⟨u, hr, h6⟩ => ?_
      subst hr
      refine thnF h6 fun _ s7 ⟨x, H7, I7, r7, y7, st7, n7⟩ => ?_
      have I7' := I7.pinned (stat I7 n7) (T.obj _ _ st7)
      refine thnF (pg.run _ s7 _ H7 x u _ I7' r7 (step x H7 y7)) fun _ s8 ⟨σ8, H8, I8, hw8, q8⟩ => ?_
      refine thnF (pt.run _ s8 σ8 H8 _ I8 q8) fun b s9 ⟨H9, I9, q9⟩ => ?_
      have fin : ∀ {s' : Shared} {H' : Hp}, Inv (blkH X s3 H3 scope ce fp) ([] ++ pinsAt fp s7.heap) σ8 H' s' → Nx H' → ∃ m, m < n ∧ ∃ i H', Inv (blkH X s3 H3 scope ce fp) [] (wipe σ (own.map (·.2))) H' s' ∧ tn i s'.heap ∧ (∀ b ∈ fp, H' b = none) ∧ W i m H' := fun {s' H'} I' nx => by
        obtain ⟨m', hm, w'⟩ := hNx H' nx
        have pin' : ∀ b ∈ fp, ∀ o, s7.heap.get? b = some o → s'.heap.get? b = some o ∧ H' b = none := fun b hb o e =>
          let z := I'.pin (b, o) (List.mem_append_right _ (List.mem_append_right _ (mem_pinsAt hb e)))
          ⟨z.1, z.2.1⟩
        have hl : (wipe σ (own.map (·.2))).length = σ8.length := by rw [← hw8, wipe_length]
        refine ⟨m', hm, i + 1, H', (I'.unpinned (pins := [])).weak hl (fun j v e => ?_), T.keep _ _ _ st7 fun b hb o e => (pin' b hb o e).1, fun b hb => ?_, w'⟩
        · rw [← hw8] at e
          exact (wipe_some e).1
        · obtain ⟨o, e, _⟩ := T.obj _ _ st7 b hb
          exact (pin' b hb o e).2
      cases b with
      | false =>
        simp only [Bool.false_eq_true, if_false] at q9 ⊢
        exact fin I9 q9
      | true =>
        simp only [if_true] at q9 ⊢
        refine thnF (pe.run _ s9 σ8 H9 _ I9 q9) fun z s10 ⟨yv, H10, I10, r10, acc, hD10, hz10, nx⟩ => ?_
        exact app_ok (X := blkH X s3 H3 scope ce fp) I10 hD10 hz10 r10 fun s11 I11 => fin I11 nx
  exact codeAny_compStart_list loop (T.self X.A 0 _ _ _ st4 loop)
/-- [elt for target in range(..) if ..] with an exception caught -/
theorem pe_lcH {elt tg iter : Expr} {ifs : List Expr} {scope : Scope} {own : List (Str × Nat)} {pos : Pos} {wi : TI} {g : TG} {tt : TT} {te : TE} (hc : L2H.HotC X) (hN : X.N.Nodup) (hi : L2H.PIH X tg iter wi) (ok : BlkOk X.N X.env.scope scope own)
    (hg : ∀ (s : Shared) (H : Hp) (C : Addr) (cl : List (Str × Addr)) (fp : List Addr), PG (blkH X s H scope (compEnvC scope cl C X.env) fp) tg g) (ht : ∀ (s : Shared) (H : Hp) (C : Addr) (cl : List (Str × Addr)) (fp : List Addr), PTs (blkH X s H scope (compEnvC scope cl C X.env) fp) ifs tt)
    (he : ∀ (s : Shared) (H : Hp) (C : Addr) (cl : List (Str × Addr)) (fp : List Addr), PE (blkH X s H scope (compEnvC scope cl C X.env) fp) elt te) (hs : ∀ x, foldedSetIterable iter X.env x = pure x := by intro _; rfl) :
    PE X (.ListComp elt [⟨tg, iter, ifs, 0⟩] scope pos) (tLc wi g tt te (own.map (·.2))) := by
  refine ⟨fun pins s σ H Q I h => ?_⟩
  rw [eval_ListComp]
  refine lc_coreH hc hN I hi ok hg ht he hs h fun D C s' m H' I' q hn f => ⟨m, hn, fun h'' sb => ?_⟩
  obtain ⟨f0, f1, f2, f3, f4, f5⟩ := f
  exact ⟨.ref D, H', I'.turned (t' := s'.toks) (fun b o hb e => (sb.2 b hb).trans e) f0 f1 f3 f4 f5, rfl, q⟩
end
structure FbQ (P : Program) (w : World) (K : PySem.W.Frag) (mg : Str → Option Value) (base : Heap) (k : Nat) (f : Addr) (fd : FuncData) (ps : List Str) (sp : SpP) : Prop where
  len : ∀ p vs H Q E, sp p vs H Q E → vs.length = ps.length
  run : ∀ (A : Around) (outer : List Env) (s : Shared) (H : Hp) (args : Args) (us : List Value) (vs : List V) (Q : VK) (E : XK) (p : Addr × Obj), L2H.RoomH k A → L2H.Hot1 A p → L2H.PinOk outer H s p → Env0 P w K mg base A outer s H → BindsTo s fd args (ps.zip us) → Vals vs us → sp p vs H Q E →
    codeAny (model P w) A (.call (.ref f) args) (CR (L2.CX P w) outer P w H s Q E) s
section
variable {P : Program} {w : World} {K : PySem.W.Frag} {mg : Str → Option Value} {base : Heap} {x qual : Str} {params : Arguments} {body : List Stmt} {scope : Scope} {dvs : List V} {kws : List (Str × V)} {f : Addr} {fd : FuncData} {k : Nat} {ps N : List Str} {sp : SpP}
theorem fbQ_of (F : FunD K x qual params body scope dvs kws f fd) (S : FnScope N ps scope) (len : ∀ p vs H Q E, sp p vs H Q E → vs.length = ps.length)
    (hbody : ∀ (cdv : Value) (A : Around) (outer : List Env) (s : Shared) (H : Hp) (vs : List V) (Q : VK) (E : XK) (p : Addr × Obj), L2H.Hot1 A p → L2H.RoomH k (A.deeper (envOfC qual scope s.heap.objs.size f cdv)) → sp p vs H Q E →
      ∃ t, PSs (L2H.cxH (L2.CX P w) P w K mg base N qual scope f cdv A outer s H E p) body t ∧ t { nx := fun _ H' => Q .non H', rt := Q } (L2.start N vs) H) : FbQ P w K mg base (k + 1) f fd ps sp := by
  obtain ⟨oc, od, dV, kV, doc, pm, an, cdv, ct, osl, rfl, lk, hcd, _, _⟩ := F.ex
  refine ⟨len, fun A outer s H args us vs Q E p hr hot hpin e0 hb r hsp => ?_⟩
  have hl := len _ _ _ _ _ hsp
  have KX : K.In s.heap := e0.mod.kin.keeps fun b o e => (e0.bs b o e).1
  have lim : s.heap.NoLimit := e0.mod.nolimit.keeps fun b o e => (e0.bs b o e).1
  have hkind : ∀ y ∈ ps.zip us, scope.names.lookup y.1 = some .local ∨ (scope.names.lookup y.1 = some .cell ∧ ((cellsFrom (s.heap.objs.size + 1) scope.names []).lookup y.1).isSome = true) := fun ⟨n, v⟩ hy => by
    rcases S.par n (List.of_mem_zip hy).1 with q | q
    · exact .inl q
    · exact .inr ⟨q, PySem.W.cellsFrom_some _ _ _ (.inl q)⟩
  refine codeAny_call_function hr.depth (KX _ _ lk) rfl S.co S.gen rfl (PySem.W.codeRec_of KX hcd) (hb _ _ _ _ ?_)
  refine wpAny_newFunctionEnv_cells S.kind hkind fun env he s1 x => ?_
  subst he
  refine ⟨lim.keeps x.toInCall.keep, codeAny_func ?_⟩
  obtain ⟨t, ht, hq⟩ := hbody cdv A outer s H vs Q E p hot (hr.deeper _) hsp
  have I : Inv (L2H.cxH (L2.CX P w) P w K mg base N qual scope f cdv A outer s H E p) [] (L2.start N vs) H s1 := L2H.inv_startH S hpin e0 hl r x
  refine wpAny_mono (ht.run [] s1 (L2.start N vs) H _ I hq) (fun fl s' hs => ?_) fun e s' hs => hs
  have fin : ∀ {σ' : L2.St} {H' : Hp} {v : V} {u : Value}, Inv (L2H.cxH (L2.CX P w) P w K mg base N qual scope f cdv A outer s H E p) [] σ' H' s' → RelV v u → Q v H' → CE outer P w H s Q u s' :=
    fun {σ' H' v u} J rv q => ⟨v, H', J.os, J.bare, J.base, J.hok, rv, q⟩
  cases fl with
  | ret u =>
    obtain ⟨v, σ', H', J, rv, q⟩ := hs
    exact fin J rv q
  | next =>
    obtain ⟨σ', H', J, q⟩ := hs
    exact fin (v := V.non) (u := Value.none) J rfl q
  | brk =>
    obtain ⟨_, _, _, q⟩ := hs
    exact False.elim q
  | cont =>
    obtain ⟨_, _, _, q⟩ := hs
    exact False.elim q
/-- such a def called with all parameters by place -/
def FcQ (P : Program) (w : World) (K : PySem.W.Frag) (mg : Str → Option Value) (base : Heap) (k : Nat) (f : Addr) (sp : SpP) : Prop :=
  ∀ (A : Around) (outer : List Env) (s : Shared) (H : Hp) (us : List Value) (vs : List V) (Q : VK) (E : XK) (p : Addr × Obj), L2H.RoomH k A → L2H.Hot1 A p → L2H.PinOk outer H s p → Env0 P w K mg base A outer s H → Vals vs us → sp p vs H Q E →
    codeAny (model P w) A (.call (.ref f) ⟨us, []⟩) (CR (L2.CX P w) outer P w H s Q E) s
theorem FcQ.mono {j : Nat} (F : FcQ P w K mg base j f sp) (h : j ≤ k) : FcQ P w K mg base k f sp := fun A outer s H us vs Q E p hr => F A outer s H us vs Q E p (hr.mono h)
theorem FbQ.all (F : FbQ P w K mg base k f fd ps sp) (hb : Binds K fd ps []) : FcQ P w K mg base k f sp := fun A outer s H us vs Q E p hr hot hp e0 r h => by
  have KX : K.In s.heap := e0.mod.kin.keeps fun b o e => (e0.bs b o e).1
  have l2 : us.length = ps.length := by rw [← r.length]; exact F.len _ _ _ _ _ h
  have b := hb s us KX (by rw [List.append_nil]; exact l2)
  rw [List.append_nil] at b
  exact F.run A outer s H ⟨us, []⟩ us vs Q E p hr hot hp e0 b r h
end
section
variable {X : Cx} {k : Nat} {f : Addr} {sp : SpP} {W : WX} {x : Str} {p pos : Pos} {e : Expr} {es : List Expr} {t : TA} {a : Addr} {oe : Obj} {cls : Value} {d : Option Addr}
theorem c_callQ (F : FcQ X.prog X.w X.K X.mg X.base k f sp) (hr : L2H.RoomH k X.A) (hp : (a, oe) ∈ X.pn) (hz : L2N.Zn cls d oe) (hf : ∃ vs, oe.data = .fields vs) (hm : X.mg x = some (.ref f)) (hk : PySem.W.keepIn X.K (.ref f) = true) (hx : Takes X W)
    (ha : PA X (e :: es) t) (hh : X.A.handled = some (.ref a) := by rfl) (hg : Gl X x := by rfl) (hdb : (x == ("__debug__" : Str)) = false := by decide) (he : starEach (e :: es) X.env = (false, eval e X.env) :: starEach es X.env := by rfl) (hpl : (backTo pos (starEach es X.env)).any (·.1) = false := by rfl) :
    PE X (.Call (.Name x p) (e :: es) [] pos) (tFcP a cls d sp W t) := by
  refine ⟨fun pins s σ H Q I h => ?_⟩
  refine wpAny_Call_Name_kw (ld_glob I hg hm ?_ hdb)
  refine PySem.W.callWith_K (h₀ := X.base) I.ok.mod.kin hk (thn (ha.run pos pins s σ H _ I h) fun us s1 ⟨vs, H1, I1, r, q⟩ => ⟨I1.kIn, ?_⟩) he hpl
  have P1 := I1.pin (a, oe) (List.mem_append_left _ hp)
  have hpin : L2H.PinOk X.stack H1 s1 (a, oe) := ⟨P1.1, P1.2.1, fun hm => (List.mem_cons.mp (I1.stkSub a hm)).elim P1.2.2.1 P1.2.2.2.1, P1.2.2.2.2⟩
  refine wpAny_call (codeAny_mono (F X.A X.stack s1 H1 us vs Q (WE W σ) (a, oe) hr ⟨hh, let ⟨vs, e⟩ := hf; ⟨vs, e, hz.2.2 vs e⟩⟩ hpin I1.env0 r (q oe hz.zc hf)) fun r s' hq => ?_)
  cases r with
  | error e => exact passAt hx σ pins H1 s1 e s' I1 hq
  | ok fl =>
    cases fl with
    | ret u => exact I1.after hq
    | next => exact False.elim hq
    | brk => exact False.elim hq
    | cont => exact False.elim hq
end
end L3
set_option Elab.async false
set_option linter.all false
set_option maxRecDepth 100000
set_option maxHeartbeats 4000000
namespace L3
open PySem PySem.Spec PyProof.Rows L2
section
variable {X : Cx}
/-- X(e), context told -/
theorem pmk_own1N {C : Addr} {bmB : List Value} {B newId initId : String} {x : Str} {e : Expr} {ta : TE} {p pos : Pos} (F : ExcBaseFacts B newId initId bmB) (q : PySem.W.excIn X.K C bmB newId = true) (gC : X.mg x = some (.ref C)) (kC : PySem.W.keepIn X.K (.ref C) = true) (r : Raises X (.ref C)) (hg : Gl X x)
    (he : PE X e ta) (hs : starEach [e] X.env = (false, eval e X.env) :: starEach [] X.env := by rfl) (hdb : (x == ("__debug__" : Str)) = false := by decide) :
    L2N.PMk X (.Call (.Name x p) [e] [] pos) (fun σ H Q => ta σ H fun _ H1 => Q (.ref C) none H1) := by
  intro pins s σ H Q I h
  refine wpAny_Call_Name_kw (ld_glob I hg gC ?_ hdb)
  refine PySem.W.callWith_K (h₀ := X.base) I.ok.mod.kin kC ?_ hs (by rfl)
  rw [hs]
  show wpAny _ _ (spliced ((false, eval e X.env) :: backTo pos (starEach [] X.env))) _ _ s
  refine Calls.spliced_cons (thn (he.run pins s σ H _ I h) fun u s1 ⟨v, H1, I1, r1, q1⟩ => ?_)
  refine Calls.spliced_nil ⟨I1.kIn, ?_⟩
  show wpAny _ _ (call (.ref C) [u]) _ _ _
  obtain ⟨bm, N, nm, qn, bs, hdct, sn, sub, ab, col, dd, k0, k1, k2, k3, k5, mN, hC, hN, hni, T⟩ := exc_obj I1.kIn q
  refine wpAny_call_exc_subT F T hC hN hni (fun h' e hm => ?_) (by show 1 ≤ sizeLine; rw [sizeLine_eq]; omega)
  exact L2N.mk_of I1 hm r q1 (I1.hok.gone hm.new)
end
section
variable {X : Cx} {o e : Expr} {es : List Expr} {to te : TE} {ta : TA} {f : Str} {p p' p1 p2 pos : Pos} {bmB : List Value} {B newId initId : String}
/-- C(e, ..), C's own __init__ keeping sp, to be raised -/
theorem pmk_oexBN {x : Str} {C fI : Addr} {k : Nat} {sp : Sp} {W : WX} (BX : BaseX bmB B newId initId) (T : OexB X.K C bmB newId) (hm : Meth X.K C "__init__" fI)
    (F1 : Fc X.prog X.w X.K X.mg X.base k fI [] sp) (hr : Rm (k + 1) X.A) (hx : Takes X W) (hC : X.mg x = some (.ref C)) (ha : PA X (e :: es) ta) (hg : Gl X x := by rfl)
    (hdb : (x == ("__debug__" : Str)) = false := by decide) (he : starEach (e :: es) X.env = (false, eval e X.env) :: starEach es X.env := by rfl) (hpl : (backTo pos (starEach es X.env)).any (·.1) = false := by rfl) :
    L2N.PMk X (.Call (.Name x p) (e :: es) [] pos) (tMkB C sp W ta) := by
  intro pins s σ H Q I h
  obtain ⟨nm, q, N, bs, bm, sn, sub, ab, col, dd, k0, k1, k2, k3, k5, hCl, hbm⟩ := T.cls
  refine wpAny_Call_Name_kw (ld_glob I hg hC ?_ hdb)
  refine PySem.W.callWith_K (h₀ := X.base) I.ok.mod.kin T.kC (thn (ha.run pos pins s σ H _ I h) fun us s1 ⟨vs, H1, I1, r1, hz, q1⟩ => ⟨I1.kIn, ?_⟩) he hpl
  show wpAny _ _ (call (.ref C) us) _ _ _
  obtain ⟨hp, g, dr, tk, os⟩ := s1
  have hsz : hp.objs.size ≤ hp.objs.size + 1 := Nat.le_succ _
  have hn : H1 (hp.objs.size + 1) = none := I1.hok.fresh hsz
  have hq := q1 (hp.objs.size + 1) hn
  have kk : ∀ b o, hp.get? b = some o → ((hp.push (PySem.W.kdv_tup us)).push (PySem.HandSPX.excO C hp.objs.size)).get? b = some o := fun b o e => Heap.get?_push_of_some _ (Heap.get?_push_of_some _ e)
  have hget : ((hp.push (PySem.W.kdv_tup us)).push (PySem.HandSPX.excO C hp.objs.size)).get? (hp.objs.size + 1) = some (PySem.HandSPX.excO C hp.objs.size) := by heap_get
  have I2 : Inv X pins σ (upd H1 (hp.objs.size + 1) (exo (hp.objs.size + 1) C none)) ⟨(hp.push (PySem.W.kdv_tup us)).push (PySem.HandSPX.excO C hp.objs.size), g, dr, tk, os⟩ :=
    I1.laid (t' := tk) (a := hp.objs.size + 1) (o := exo (hp.objs.size + 1) C none) (h' := (hp.push (PySem.W.kdv_tup us)).push (PySem.HandSPX.excO C hp.objs.size)) kk hsz (exo_ok hget)
  have hus : us.length ≤ sizeLine := by
    rw [← Paired.length r1, sizeLine_eq]
    omega
  refine wpAny_call (PySem.HandSPX.call_own BX.F (fun Y => PySem.W.excTail_contains Y bm hbm) (I1.kIn _ _ hCl) (PySem.W.looks_findIn I1.kIn hm.at_) (fun self => PySem.W.bind_fn I1.kIn self (beq_iff_eq.mp hm.fn)) hus
    (codeAny_mono (F1 _ X.stack _ _ (Value.ref (hp.objs.size + 1) :: us) [] (V.ref (hp.objs.size + 1) :: vs) _ (WE W σ) (hr.make C us []) (I2.env0.make C us []) (.cons rfl (by have e9 : us.append [] = us := List.append_nil us; rw [e9]; exact r1)) rfl hq) fun r s' hq' => ?_))
  cases r with
  | error er => exact passAt hx σ pins _ _ er s' I2 hq'
  | ok fl =>
    cases fl with
    | ret u =>
      obtain ⟨v, H2, os2, bare2, un2, hok2, rv, ev, d, fs, ea, ed, hd1, q2⟩ := hq'
      subst ev
      obtain ⟨h2, g2, d2, t2, os'⟩ := s'
      obtain ⟨t0, G, J, kG, ge, hoe, na⟩ := mk_end0 (d2 := d2) (t2 := t2) I1 hsz kk un2 hok2 os2 bare2 ea ed hd1
      exact ⟨rv, _, _, _, ⟨G, g2, d2, t2, os'⟩, _, .ref C, some d, rfl, J, kG, ge, hoe, ⟨rfl, rfl, fun vs e => by cases e; rfl⟩, rfl, rfl, na, rfl, bare2, raises_own T.exC T.tyC, q2⟩
    | next => exact False.elim hq'
    | brk => exact False.elim hq'
    | cont => exact False.elim hq'
end
section
variable {X : Cx} {x1 x2 x3 n : Str} {c1 c2 c3 : Value} {i k3 : Nat} {body suite : List Stmt} {b₀ : Stmt} {p1 p2 p3 tp pos pos' : Pos} {tb : WX → TS} {ts : Addr → Value → Option Addr → TS}
theorem ps_try_tupN (hs : X.stack = X.env :: X.outer) (hf : X.env.frame = some X.env.locals) (hN : X.N.Nodup) (hi : X.N[i]? = some n) (hln : X.env.kindOf n = some .local)
    (m1 : X.mg x1 = some c1) (m2 : X.mg x2 = some c2) (m3 : X.mg x3 = some c3)
    (hb : ∀ (W : WX) (pn : List (Addr × Obj)) (xe : Value → Shared → Prop), L2N.Takes (X.tr pn xe) W → PassesOwn (model X.prog X.w) X.A X.env xe → PSs (X.tr pn xe) body (tb W))
    (hsu : ∀ (a : Addr) (oe : Obj) (cls : Value) (d : Option Addr) (pn : List (Addr × Obj)), L2N.Zn cls d oe → (∃ vs, oe.data = .fields vs) → PSs (X.suite a ((a, oe) :: pn)) (b₀ :: suite) (ts a cls d))
    (g1 : Gl X x1 := by rfl) (g2 : Gl X x2 := by rfl) (g3 : Gl X x3 := by rfl) (d1 : (x1 == ("__debug__" : Str)) = false := by decide) (d2 : (x2 == ("__debug__" : Str)) = false := by decide) (d3 : (x3 == ("__debug__" : Str)) = false := by decide) :
    PS X (.Try body [.ExceptHandler (some (.Tuple [.Name x1 p1, .Name x2 p2, .Name x3 p3] k3 tp)) (some n) (b₀ :: suite) pos'] [] [] pos) (fun D σ H => tb (wTup X.K [c1, c2, c3] i ts D) D σ H) := by
  refine ⟨fun pins s σ H D I h => ?_⟩
  have ok := I.ok
  have hfr : X.A.frames = some (X.env :: X.outer) := by rw [ok.frames, hs]
  refine wpAny_Try_except ?_
  refine wpAny_mono ((hb (wTup X.K [c1, c2, c3] i ts D) (X.pn ++ pins) (fun e s₁ => wpAny (model X.prog X.w) X.A (noteFrame e X.env) (fun _ s₂ => wpAny (model X.prog X.w) X.A (setFlight e none) (fun _ s₃ =>
    wpAny (model X.prog X.w) X.A (handleBy e X.env [.ExceptHandler (some (.Tuple [.Name x1 p1, .Name x2 p2, .Name x3 p3] k3 tp)) (some n) (b₀ :: suite) pos']) (SP X pins D) X.xe s₃) X.xe s₂) X.xe s₁) (fun u s' xx => ?_) PassesOwn.looking).run [] s σ H D (I.toTry _) h) (fun f s1 hsp => ?_) (fun e s1 he => he)
  · obtain ⟨a, B, sI, pins', σ', H', cls, d, rfl, J', nb, up, sky, na, os, ag, hb1, hyes⟩ := xx
    have J : Inv X pins σ' H' sI := J'.ofTry ok
    have sky' : Sky B (X.env :: X.outer) a (L2N.Zn cls d) X.env.locals s'.heap := by rw [← hs]; exact sky
    show wpAny (model X.prog X.w) X.A (noteFrame (.ref a) X.env) _ _ _
    refine L2N.Sky.land L2N.Zn.steady hfr hf sky' fun h3 fl3 up3 => ?_
    have J3 : Inv X pins σ' H' { s' with heap := h3 } := J.landed nb fl3.1 (up.trans up3) os ag
    obtain ⟨oe3, vs3, he3, hz3, hd3⟩ := fl3.there
    have nfr : a ∉ frs (X.env :: X.outer) := fun hm => by
      obtain ⟨_, o', e', hnf⟩ := fl3.2.2.1.mem hm
      rw [he3] at e'
      cases e'
      exact hnf _ hd3
    have nL : a ≠ X.env.locals := fun z => nfr (List.mem_filterMap.mpr ⟨X.env, List.mem_cons_self, by rw [hf, z]⟩)
    have nF : a ∉ X.fs := fun hm => by
      obtain ⟨e, he, q⟩ := List.mem_filterMap.mp hm
      exact nfr (List.mem_filterMap.mpr ⟨e, List.mem_cons_of_mem _ he, q⟩)
    have S3 := J3.suite he3 hd3 na nL nF
    refine wpAny_handleBy_cons (codeAny_handlers_test ?_) (by intro q; cases q)
    refine wpAny_Tuple_spliced ?_
    refine Calls.spliced_cons (ld_glob (X := X.suite a ((a, oe3) :: (X.pn ++ pins))) S3 g1 m1 ?_ d1)
    refine Calls.spliced_cons (ld_glob (X := X.suite a ((a, oe3) :: (X.pn ++ pins))) S3 g2 m2 ?_ d2)
    refine Calls.spliced_cons (ld_glob (X := X.suite a ((a, oe3) :: (X.pn ++ pins))) S3 g3 m3 ?_ d3)
    refine Calls.spliced_nil ⟨by show 3 ≤ sizeLine; rw [sizeLine_eq]; decide, ?_⟩
    have kp : ∀ b o, h3.get? b = some o → (h3.push { cls := .type "tuple", data := .seq [c1, c2, c3].toArray }).get? b = some o := fun b o e => Heap.get?_push_of_some _ e
    have LT : PySem.W.Looks (model X.prog X.w) (h3.push { cls := .type "tuple", data := .seq [c1, c2, c3].toArray }) (typeOf (.ref a)) cls := fun A Q E s k q => wpAny_typeOf_ref (k _ _ (kp _ _ he3)) (by rw [hz3.1]; exact q)
    have LM := PySem.W.exm_tup3 (M := model X.prog X.w) (J3.kIn.keeps kp) LT (Heap.get?_push_size _ rfl) hb1
    refine LM.here ?_
    refine codeAny_handlers_suite_as ?_
    refine HandSPX.lands_againZ (flying_keeps fl3 kp) fun h4 fl4 up4 => ?_
    have J4 : Inv X pins σ' H' { s' with heap := h4 } := J.landed nb fl4.1 (((up.trans up3).trans (Heap.UpToSlots.of_keeps kp)).trans up4) os ag
    obtain ⟨oe4, vs4, he4, hz4, hd4⟩ := fl4.there
    have S4 := J4.suite he4 hd4 na nL nF
    refine store_ok (X := X.suite a ((a, oe4) :: (X.pn ++ pins))) (v := .ref a) S4 hN hi (.inl hln) rfl (fun s5 S5 => ?_) (.inr hln)
    refine wpAny_mono ((hsu a oe4 cls d (X.pn ++ pins) hz4 ⟨_, hd4⟩).run [] s5 _ H' _ S5 (hyes a na)) (fun f s6 hsp => ?_) (fun _ _ z => False.elim z)
    have end_ : ∀ {σ6 : L2.St} {H6 : Hp} {Q : Shared → Prop}, Inv (X.suite a ((a, oe4) :: (X.pn ++ pins))) [] σ6 H6 s6 → (∀ s7, Inv X pins (σ6.set i none) H6 s7 → Q s7) →
        wpAny (model X.prog X.w) X.A (do bindName X.env n .none; unbindBehindTheSuite X.env n pos') (fun _ s7 => Q s7) X.xe s6 := fun {σ6 H6 Q} S6 hq => gone_ok (S6.unsuite ok) hN hi hln hq
    cases f with
    | next =>
      obtain ⟨σ6, H6, S6, q6⟩ := hsp
      exact end_ S6 fun s7 J7 => ⟨_, _, J7, q6⟩
    | brk =>
      obtain ⟨σ6, H6, S6, q6⟩ := hsp
      exact end_ S6 fun s7 J7 => ⟨_, _, J7, q6⟩
    | cont =>
      obtain ⟨σ6, H6, S6, q6⟩ := hsp
      exact end_ S6 fun s7 J7 => ⟨_, _, J7, q6⟩
    | ret u =>
      obtain ⟨v6, σ6, H6, S6, r6, q6⟩ := hsp
      exact end_ S6 fun s7 J7 => ⟨_, _, _, J7, r6, q6⟩
  · cases f with
    | next =>
      obtain ⟨σ6, H6, S6, q6⟩ := hsp
      exact wpAny_execs_nil ⟨_, _, S6.ofTry ok, q6⟩
    | brk =>
      obtain ⟨σ6, H6, S6, q6⟩ := hsp
      exact ⟨_, _, S6.ofTry ok, q6⟩
    | cont =>
      obtain ⟨σ6, H6, S6, q6⟩ := hsp
      exact ⟨_, _, S6.ofTry ok, q6⟩
    | ret u =>
      obtain ⟨v6, σ6, H6, S6, r6, q6⟩ := hsp
      exact ⟨_, _, _, S6.ofTry ok, r6, q6⟩
end
section
variable {X : Cx} {x x1 x2 x3 n : Str} {c c1 c2 c3 : Value} {i k3 : Nat} {body suite : List Stmt} {b₀ : Stmt} {np p1 p2 p3 tp pos pos' : Pos} {tb : WX → TS} {ts : Addr → Value → Option Addr → TS} {Wout : WX}
theorem ps_tryTN (hs : X.stack = X.env :: X.outer) (hf : X.env.frame = some X.env.locals) (hN : X.N.Nodup) (hi : X.N[i]? = some n) (hln : X.env.kindOf n = some .local)
    (m1 : X.mg x1 = some c1) (m2 : X.mg x2 = some c2) (m3 : X.mg x3 = some c3)
    (hb : ∀ (W : WX) (pn : List (Addr × Obj)) (xe : Value → Shared → Prop), L2N.Takes (X.tr pn xe) W → PassesOwn (model X.prog X.w) X.A X.env xe → PSs (X.tr pn xe) body (tb W))
    (hsu : ∀ (a : Addr) (oe : Obj) (cls : Value) (d : Option Addr) (pn : List (Addr × Obj)), L2N.Zn cls d oe → (∃ vs, oe.data = .fields vs) → PSs (X.suite a ((a, oe) :: pn)) (b₀ :: suite) (ts a cls d))
    (g1 : Gl X x1 := by rfl) (g2 : Gl X x2 := by rfl) (g3 : Gl X x3 := by rfl) (d1 : (x1 == ("__debug__" : Str)) = false := by decide) (d2 : (x2 == ("__debug__" : Str)) = false := by decide) (d3 : (x3 == ("__debug__" : Str)) = false := by decide) :
    PS X (.Try body [.ExceptHandler (some (.Tuple [.Name x1 p1, .Name x2 p2, .Name x3 p3] k3 tp)) (some n) (b₀ :: suite) pos'] [] [] pos) (tTryTup X.K [c1, c2, c3] i ts tb) := ps_try_tupN hs hf hN hi hln m1 m2 m3 hb hsu g1 g2 g3 d1 d2 d3
end
end L3
set_option Elab.async false
set_option linter.all false
set_option maxRecDepth 100000
set_option maxHeartbeats 4000000
namespace Toy
open PySem PySem.Spec PyProof.Rows L2 L3
def top (i : Nat) : Stmt := PySem.Challenge.pw_shortgoings_k16_refusals_made.main.body.getD i (.Pass ⟨0, 0, 0, 0⟩)
abbrev s_NoText_init : Stmt := inClass (top 10) 0
abbrev s_NoLine_init : Stmt := inClass (top 11) 0
abbrev s_NoGoing_init : Stmt := inClass (top 12) 0
abbrev s_Needed_init : Stmt := inClass (top 13) 0
abbrev s_Taken_init : Stmt := inClass (top 14) 0
abbrev s_Round_init : Stmt := inClass (top 15) 0
abbrev s__law_pot : Stmt := top 18
abbrev s__law_take : Stmt := top 19
abbrev s__law_great : Stmt := top 20
abbrev s__law_name : Stmt := top 21
abbrev s__law_kinds : Stmt := top 22
abbrev s__law_plain : Stmt := top 23
abbrev s__law_raised : Stmt := top 24
abbrev s__law_due : Stmt := top 25
abbrev s__law_stands : Stmt := top 26
abbrev s__law_two : Stmt := top 27
abbrev s__law_thing : Stmt := top 28
abbrev s_law : Stmt := top 29
def xf1 : List Fx := [fun K => (He.Fa.glo "_law_pot").ok K,
  fun K => (He.Fa.glo "_law_take").ok K,
  fun K => (He.Fa.glo "_law_great").ok K,
  fun K => (He.Fa.glo "_law_name").ok K,
  fun K => (He.Fa.glo "_law_kinds").ok K,
  fun K => (He.Fa.glo "_law_plain").ok K,
  fun K => (He.Fa.glo "_law_raised").ok K,
  fun K => (He.Fa.glo "_law_due").ok K,
  fun K => (He.Fa.glo "_law_stands").ok K,
  fun K => (He.Fa.glo "_law_two").ok K,
  fun K => (He.Fa.glo "_law_thing").ok K,
  fun K => (He.Fa.glo "law").ok K,
  fun K => (He.Fa.free "LookupError").ok K,
  fun K => (He.Fa.free "RuntimeError").ok K,
  fun K => (He.Fa.free "ValueError").ok K,
  fun K => (He.Fa.free "divmod").ok K,
  fun K => (He.Fa.free "isinstance").ok K,
  fun K => (He.Fa.free "len").ok K,
  fun K => (He.Fa.free "max").ok K,
  fun K => (He.Fa.free "min").ok K,
  fun K => (He.Fa.free "range").ok K,
  fun K => (He.Fa.free "repr").ok K,
  fun K => (He.Fa.free "tuple").ok K,
  fun K => (He.Fa.glo "GoingError").ok K,
  fun K => (He.Fa.glo "LackError").ok K,
  fun K => (He.Fa.glo "BookError").ok K,
  fun K => (He.Fa.glo "NoTime").ok K,
  exoB bmV "ValueError.__new__" "NoTime",
  fun K => (He.Fa.glo "NoPiece").ok K,
  exoB bmV "ValueError.__new__" "NoPiece",
  fun K => (He.Fa.glo "NoDays").ok K,
  exoB bmV "ValueError.__new__" "NoDays",
  fun K => (He.Fa.glo "NoCard").ok K,
  exoB bmV "ValueError.__new__" "NoCard",
  fun K => (He.Fa.glo "NoName").ok K,
  exoB bmV "ValueError.__new__" "NoName",
  fun K => (He.Fa.glo "NoRow").ok K,
  exoB bmV "ValueError.__new__" "NoRow",
  fun K => (He.Fa.glo "NoText").ok K,
  fun K => (He.Fa.glo "NoLine").ok K,
  fun K => (He.Fa.glo "NoGoing").ok K,
  fun K => (He.Fa.glo "Needed").ok K,
  fun K => (He.Fa.glo "Taken").ok K,
  fun K => (He.Fa.glo "Round").ok K,
  fun K => (He.Fa.glo "TooMuch").ok K,
  exoB bmR "RuntimeError.__new__" "TooMuch",
  bxiF "ValueError.__init__" "GoingError",
  bxiF "LookupError.__init__" "LackError",
  bxiF "RuntimeError.__init__" "BookError",
  oexF bmV "ValueError.__new__" "NoText",
  fun K => (He.Fa.meth "NoText" "__init__").ok K,
  fun K => xfB K (He.ga K "NoText"),
  fun K => (He.Fa.noat "NoText" "row").ok K,
  oexF bmL "LookupError.__new__" "NoLine",
  fun K => (He.Fa.meth "NoLine" "__init__").ok K,
  fun K => xfB K (He.ga K "NoLine"),
  fun K => (He.Fa.noat "NoLine" "name").ok K,
  oexF bmL "LookupError.__new__" "NoGoing",
  fun K => (He.Fa.meth "NoGoing" "__init__").ok K,
  fun K => xfB K (He.ga K "NoGoing"),
  fun K => (He.Fa.noat "NoGoing" "moment").ok K,
  oexF bmR "RuntimeError.__new__" "Needed",
  fun K => (He.Fa.meth "Needed" "__init__").ok K,
  fun K => xfB K (He.ga K "Needed"),
  fun K => (He.Fa.noat "Needed" "name").ok K,
  oexF bmR "RuntimeError.__new__" "Taken",
  fun K => (He.Fa.meth "Taken" "__init__").ok K,
  fun K => xfB K (He.ga K "Taken"),
  fun K => (He.Fa.noat "Taken" "moment").ok K,
  oexF bmR "RuntimeError.__new__" "Round",
  fun K => (He.Fa.meth "Round" "__init__").ok K,
  fun K => xfB K (He.ga K "Round"),
  fun K => (He.Fa.noat "Round" "chain").ok K,
  excCB "NoTime",
  kitF "NoTime" "GoingError" true,
  kitF "NoTime" "LackError" false,
  kitF "NoTime" "BookError" false,
  kitF "NoTime" "NoTime" true,
  kitF "NoTime" "NoPiece" false,
  kitF "NoTime" "NoDays" false,
  kitF "NoTime" "NoCard" false,
  kitF "NoTime" "NoName" false,
  kitF "NoTime" "NoRow" false,
  kitF "NoTime" "NoText" false,
  kitF "NoTime" "NoLine" false,
  kitF "NoTime" "NoGoing" false,
  kitF "NoTime" "Needed" false,
  kitF "NoTime" "Taken" false,
  kitF "NoTime" "Round" false,
  kitF "NoTime" "TooMuch" false,
  kitFT "NoTime" "ValueError" true,
  kitFT "NoTime" "LookupError" false,
  kitFT "NoTime" "RuntimeError" false,
  exm3F "NoTime" ["GoingError", "LackError", "BookError"],
  excCB "NoPiece",
  kitF "NoPiece" "GoingError" true,
  kitF "NoPiece" "LackError" false,
  kitF "NoPiece" "BookError" false,
  kitF "NoPiece" "NoTime" false,
  kitF "NoPiece" "NoPiece" true,
  kitF "NoPiece" "NoDays" false,
  kitF "NoPiece" "NoCard" false,
  kitF "NoPiece" "NoName" false,
  kitF "NoPiece" "NoRow" false,
  kitF "NoPiece" "NoText" false,
  kitF "NoPiece" "NoLine" false,
  kitF "NoPiece" "NoGoing" false,
  kitF "NoPiece" "Needed" false,
  kitF "NoPiece" "Taken" false,
  kitF "NoPiece" "Round" false,
  kitF "NoPiece" "TooMuch" false,
  kitFT "NoPiece" "ValueError" true,
  kitFT "NoPiece" "LookupError" false,
  kitFT "NoPiece" "RuntimeError" false,
  exm3F "NoPiece" ["GoingError", "LackError", "BookError"],
  excCB "NoDays",
  kitF "NoDays" "GoingError" true,
  kitF "NoDays" "LackError" false,
  kitF "NoDays" "BookError" false,
  kitF "NoDays" "NoTime" false,
  kitF "NoDays" "NoPiece" false,
  kitF "NoDays" "NoDays" true,
  kitF "NoDays" "NoCard" false,
  kitF "NoDays" "NoName" false,
  kitF "NoDays" "NoRow" false,
  kitF "NoDays" "NoText" false,
  kitF "NoDays" "NoLine" false,
  kitF "NoDays" "NoGoing" false,
  kitF "NoDays" "Needed" false,
  kitF "NoDays" "Taken" false,
  kitF "NoDays" "Round" false,
  kitF "NoDays" "TooMuch" false,
  kitFT "NoDays" "ValueError" true,
  kitFT "NoDays" "LookupError" false,
  kitFT "NoDays" "RuntimeError" false,
  exm3F "NoDays" ["GoingError", "LackError", "BookError"],
  excCB "NoCard",
  kitF "NoCard" "GoingError" true,
  kitF "NoCard" "LackError" false,
  kitF "NoCard" "BookError" false,
  kitF "NoCard" "NoTime" false,
  kitF "NoCard" "NoPiece" false,
  kitF "NoCard" "NoDays" false,
  kitF "NoCard" "NoCard" true,
  kitF "NoCard" "NoName" false,
  kitF "NoCard" "NoRow" false,
  kitF "NoCard" "NoText" false,
  kitF "NoCard" "NoLine" false,
  kitF "NoCard" "NoGoing" false,
  kitF "NoCard" "Needed" false,
  kitF "NoCard" "Taken" false,
  kitF "NoCard" "Round" false,
  kitF "NoCard" "TooMuch" false,
  kitFT "NoCard" "ValueError" true,
  kitFT "NoCard" "LookupError" false,
  kitFT "NoCard" "RuntimeError" false,
  exm3F "NoCard" ["GoingError", "LackError", "BookError"],
  excCB "NoName",
  kitF "NoName" "GoingError" true,
  kitF "NoName" "LackError" false,
  kitF "NoName" "BookError" false,
  kitF "NoName" "NoTime" false,
  kitF "NoName" "NoPiece" false,
  kitF "NoName" "NoDays" false,
  kitF "NoName" "NoCard" false,
  kitF "NoName" "NoName" true,
  kitF "NoName" "NoRow" false,
  kitF "NoName" "NoText" false,
  kitF "NoName" "NoLine" false,
  kitF "NoName" "NoGoing" false,
  kitF "NoName" "Needed" false,
  kitF "NoName" "Taken" false,
  kitF "NoName" "Round" false]
def xf2 : List Fx := [kitF "NoName" "TooMuch" false,
  kitFT "NoName" "ValueError" true,
  kitFT "NoName" "LookupError" false,
  kitFT "NoName" "RuntimeError" false,
  exm3F "NoName" ["GoingError", "LackError", "BookError"],
  excCB "NoRow",
  kitF "NoRow" "GoingError" true,
  kitF "NoRow" "LackError" false,
  kitF "NoRow" "BookError" false,
  kitF "NoRow" "NoTime" false,
  kitF "NoRow" "NoPiece" false,
  kitF "NoRow" "NoDays" false,
  kitF "NoRow" "NoCard" false,
  kitF "NoRow" "NoName" false,
  kitF "NoRow" "NoRow" true,
  kitF "NoRow" "NoText" false,
  kitF "NoRow" "NoLine" false,
  kitF "NoRow" "NoGoing" false,
  kitF "NoRow" "Needed" false,
  kitF "NoRow" "Taken" false,
  kitF "NoRow" "Round" false,
  kitF "NoRow" "TooMuch" false,
  kitFT "NoRow" "ValueError" true,
  kitFT "NoRow" "LookupError" false,
  kitFT "NoRow" "RuntimeError" false,
  exm3F "NoRow" ["GoingError", "LackError", "BookError"],
  excCB "TooMuch",
  kitF "TooMuch" "GoingError" false,
  kitF "TooMuch" "LackError" false,
  kitF "TooMuch" "BookError" true,
  kitF "TooMuch" "NoTime" false,
  kitF "TooMuch" "NoPiece" false,
  kitF "TooMuch" "NoDays" false,
  kitF "TooMuch" "NoCard" false,
  kitF "TooMuch" "NoName" false,
  kitF "TooMuch" "NoRow" false,
  kitF "TooMuch" "NoText" false,
  kitF "TooMuch" "NoLine" false,
  kitF "TooMuch" "NoGoing" false,
  kitF "TooMuch" "Needed" false,
  kitF "TooMuch" "Taken" false,
  kitF "TooMuch" "Round" false,
  kitF "TooMuch" "TooMuch" true,
  kitFT "TooMuch" "ValueError" false,
  kitFT "TooMuch" "LookupError" false,
  kitFT "TooMuch" "RuntimeError" true,
  exm3F "TooMuch" ["GoingError", "LackError", "BookError"],
  excCB "NoText",
  kitF "NoText" "GoingError" true,
  kitF "NoText" "LackError" false,
  kitF "NoText" "BookError" false,
  kitF "NoText" "NoTime" false,
  kitF "NoText" "NoPiece" false,
  kitF "NoText" "NoDays" false,
  kitF "NoText" "NoCard" false,
  kitF "NoText" "NoName" false,
  kitF "NoText" "NoRow" false,
  kitF "NoText" "NoText" true,
  kitF "NoText" "NoLine" false,
  kitF "NoText" "NoGoing" false,
  kitF "NoText" "Needed" false,
  kitF "NoText" "Taken" false,
  kitF "NoText" "Round" false,
  kitF "NoText" "TooMuch" false,
  kitFT "NoText" "ValueError" true,
  kitFT "NoText" "LookupError" false,
  kitFT "NoText" "RuntimeError" false,
  exm3F "NoText" ["GoingError", "LackError", "BookError"],
  excCB "NoLine",
  kitF "NoLine" "GoingError" false,
  kitF "NoLine" "LackError" true,
  kitF "NoLine" "BookError" false,
  kitF "NoLine" "NoTime" false,
  kitF "NoLine" "NoPiece" false,
  kitF "NoLine" "NoDays" false,
  kitF "NoLine" "NoCard" false,
  kitF "NoLine" "NoName" false,
  kitF "NoLine" "NoRow" false,
  kitF "NoLine" "NoText" false,
  kitF "NoLine" "NoLine" true,
  kitF "NoLine" "NoGoing" false,
  kitF "NoLine" "Needed" false,
  kitF "NoLine" "Taken" false,
  kitF "NoLine" "Round" false,
  kitF "NoLine" "TooMuch" false,
  kitFT "NoLine" "ValueError" false,
  kitFT "NoLine" "LookupError" true,
  kitFT "NoLine" "RuntimeError" false,
  exm3F "NoLine" ["GoingError", "LackError", "BookError"],
  excCB "NoGoing",
  kitF "NoGoing" "GoingError" false,
  kitF "NoGoing" "LackError" true,
  kitF "NoGoing" "BookError" false,
  kitF "NoGoing" "NoTime" false,
  kitF "NoGoing" "NoPiece" false,
  kitF "NoGoing" "NoDays" false,
  kitF "NoGoing" "NoCard" false,
  kitF "NoGoing" "NoName" false,
  kitF "NoGoing" "NoRow" false,
  kitF "NoGoing" "NoText" false,
  kitF "NoGoing" "NoLine" false,
  kitF "NoGoing" "NoGoing" true,
  kitF "NoGoing" "Needed" false,
  kitF "NoGoing" "Taken" false,
  kitF "NoGoing" "Round" false,
  kitF "NoGoing" "TooMuch" false,
  kitFT "NoGoing" "ValueError" false,
  kitFT "NoGoing" "LookupError" true,
  kitFT "NoGoing" "RuntimeError" false,
  exm3F "NoGoing" ["GoingError", "LackError", "BookError"],
  excCB "Needed",
  kitF "Needed" "GoingError" false,
  kitF "Needed" "LackError" false,
  kitF "Needed" "BookError" true,
  kitF "Needed" "NoTime" false,
  kitF "Needed" "NoPiece" false,
  kitF "Needed" "NoDays" false,
  kitF "Needed" "NoCard" false,
  kitF "Needed" "NoName" false,
  kitF "Needed" "NoRow" false,
  kitF "Needed" "NoText" false,
  kitF "Needed" "NoLine" false,
  kitF "Needed" "NoGoing" false,
  kitF "Needed" "Needed" true,
  kitF "Needed" "Taken" false,
  kitF "Needed" "Round" false,
  kitF "Needed" "TooMuch" false,
  kitFT "Needed" "ValueError" false,
  kitFT "Needed" "LookupError" false,
  kitFT "Needed" "RuntimeError" true,
  exm3F "Needed" ["GoingError", "LackError", "BookError"],
  excCB "Taken",
  kitF "Taken" "GoingError" false,
  kitF "Taken" "LackError" false,
  kitF "Taken" "BookError" true,
  kitF "Taken" "NoTime" false,
  kitF "Taken" "NoPiece" false,
  kitF "Taken" "NoDays" false,
  kitF "Taken" "NoCard" false,
  kitF "Taken" "NoName" false,
  kitF "Taken" "NoRow" false,
  kitF "Taken" "NoText" false,
  kitF "Taken" "NoLine" false,
  kitF "Taken" "NoGoing" false,
  kitF "Taken" "Needed" false,
  kitF "Taken" "Taken" true,
  kitF "Taken" "Round" false,
  kitF "Taken" "TooMuch" false,
  kitFT "Taken" "ValueError" false,
  kitFT "Taken" "LookupError" false,
  kitFT "Taken" "RuntimeError" true,
  exm3F "Taken" ["GoingError", "LackError", "BookError"],
  excCB "Round",
  kitF "Round" "GoingError" false,
  kitF "Round" "LackError" false,
  kitF "Round" "BookError" true,
  kitF "Round" "NoTime" false,
  kitF "Round" "NoPiece" false,
  kitF "Round" "NoDays" false,
  kitF "Round" "NoCard" false,
  kitF "Round" "NoName" false,
  kitF "Round" "NoRow" false,
  kitF "Round" "NoText" false,
  kitF "Round" "NoLine" false,
  kitF "Round" "NoGoing" false,
  kitF "Round" "Needed" false,
  kitF "Round" "Taken" false,
  kitF "Round" "Round" true,
  kitF "Round" "TooMuch" false,
  kitFT "Round" "ValueError" false,
  kitFT "Round" "LookupError" false,
  kitFT "Round" "RuntimeError" true,
  exm3F "Round" ["GoingError", "LackError", "BookError"]]
def xf : List Fx := xf1 ++ xf2
def d_NoText_init : He.DefD := ⟨("NoText", some "__init__"), "__init__", "NoText.__init__", defArgs s_NoText_init, defBody s_NoText_init, defScope s_NoText_init, [], []⟩
def d_NoLine_init : He.DefD := ⟨("NoLine", some "__init__"), "__init__", "NoLine.__init__", defArgs s_NoLine_init, defBody s_NoLine_init, defScope s_NoLine_init, [], []⟩
def d_NoGoing_init : He.DefD := ⟨("NoGoing", some "__init__"), "__init__", "NoGoing.__init__", defArgs s_NoGoing_init, defBody s_NoGoing_init, defScope s_NoGoing_init, [], []⟩
def d_Needed_init : He.DefD := ⟨("Needed", some "__init__"), "__init__", "Needed.__init__", defArgs s_Needed_init, defBody s_Needed_init, defScope s_Needed_init, [], []⟩
def d_Taken_init : He.DefD := ⟨("Taken", some "__init__"), "__init__", "Taken.__init__", defArgs s_Taken_init, defBody s_Taken_init, defScope s_Taken_init, [], []⟩
def d_Round_init : He.DefD := ⟨("Round", some "__init__"), "__init__", "Round.__init__", defArgs s_Round_init, defBody s_Round_init, defScope s_Round_init, [], []⟩
def d__law_pot : He.DefD := ⟨("_law_pot", none), "_law_pot", "_law_pot", defArgs s__law_pot, defBody s__law_pot, defScope s__law_pot, [], []⟩
def d__law_take : He.DefD := ⟨("_law_take", none), "_law_take", "_law_take", defArgs s__law_take, defBody s__law_take, defScope s__law_take, [], []⟩
def d__law_great : He.DefD := ⟨("_law_great", none), "_law_great", "_law_great", defArgs s__law_great, defBody s__law_great, defScope s__law_great, [], []⟩
def d__law_name : He.DefD := ⟨("_law_name", none), "_law_name", "_law_name", defArgs s__law_name, defBody s__law_name, defScope s__law_name, [], []⟩
def d__law_kinds : He.DefD := ⟨("_law_kinds", none), "_law_kinds", "_law_kinds", defArgs s__law_kinds, defBody s__law_kinds, defScope s__law_kinds, [], []⟩
def d__law_plain : He.DefD := ⟨("_law_plain", none), "_law_plain", "_law_plain", defArgs s__law_plain, defBody s__law_plain, defScope s__law_plain, [], []⟩
def d__law_raised : He.DefD := ⟨("_law_raised", none), "_law_raised", "_law_raised", defArgs s__law_raised, defBody s__law_raised, defScope s__law_raised, [], []⟩
def d__law_due : He.DefD := ⟨("_law_due", none), "_law_due", "_law_due", defArgs s__law_due, defBody s__law_due, defScope s__law_due, [], []⟩
def d__law_stands : He.DefD := ⟨("_law_stands", none), "_law_stands", "_law_stands", defArgs s__law_stands, defBody s__law_stands, defScope s__law_stands, [], []⟩
def d__law_two : He.DefD := ⟨("_law_two", none), "_law_two", "_law_two", defArgs s__law_two, defBody s__law_two, defScope s__law_two, [], []⟩
def d__law_thing : He.DefD := ⟨("_law_thing", none), "_law_thing", "_law_thing", defArgs s__law_thing, defBody s__law_thing, defScope s__law_thing, [], []⟩
def d_law : He.DefD := ⟨("law", none), "law", "law", defArgs s_law, defBody s_law, defScope s_law, [], []⟩
def fn : List He.DefD := [d_NoText_init, d_NoLine_init, d_NoGoing_init, d_Needed_init, d_Taken_init, d_Round_init, d__law_pot, d__law_take, d__law_great, d__law_name, d__law_kinds, d__law_plain, d__law_raised, d__law_due, d__law_stands, d__law_two, d__law_thing, d_law]
abbrev R : PySem.W.OpenRow := PySem.W.OpenLaw.row PySem.Challenge.rw_shortgoings_k16_refusals_made
def adr0 : List Addr := [3, 24, 50, 142, 161, 180, 199, 218, 237, 37, 63, 75, 87, 99, 111, 123, 249, 23, 49, 36, 141, 160, 179, 198, 217, 236, 2, 62, 74, 86]
def adr1 : List Addr := [98, 110, 122, 248, 139, 158, 177, 196, 215, 234, 258, 265, 272, 277, 282, 289, 296, 303, 310, 315, 320, 327, 257, 264, 271, 276, 281, 288, 295, 302]
def adr2 : List Addr := [309, 314, 319, 326, 138, 157, 176, 195, 214, 233]
def adr : List Addr := adr0 ++ adr1 ++ adr2
abbrev hk : PySem.W.Hook := hookA adr xf fn
def ob (s : PySem.W.SharedT) : He.AlD := obsA adr xf fn (HandSHeadRun.getT s)
theorem ob_eq (s : PySem.W.SharedT) : ob s = hk.obs s.abs := obsA_eq (HandSHeadRun.getT_eq s)
def ns0 : List PySem.Str := ["GoingError", "LackError", "BookError", "NoTime", "NoPiece", "NoDays", "NoCard", "NoName", "NoRow", "NoText", "NoLine", "NoGoing", "Needed", "Taken", "Round", "TooMuch", "_law_pot", "_law_take", "_law_great", "_law_name", "_law_kinds", "_law_plain", "_law_raised", "_law_due", "_law_stands", "_law_two", "_law_thing"]
def nss : List PySem.Str := ns0
theorem run_a (w : World) : HandSHeadRun.RunA R (PySem.W.view R.prog [29]) 8000 nss w := by
  intro os
  kernel_rfl
theorem run_b (w : World) : HandSHeadRun.RunB R 8000 (fun s => xf1.all fun p => p (He.frG (HandSHeadRun.getT s) adr)) w := by
  intro os
  kernel_rfl
theorem run_c (w : World) : HandSHeadRun.RunB R 8000 (fun s => xf2.all fun p => p (He.frG (HandSHeadRun.getT s) adr)) w := by
  intro os
  kernel_rfl
theorem run_d (w : World) : ∀ os : OsState, (HandSHeadRun.endR R 8000 w os).map (fun s => (fn.all fun d => d.ok (He.frG (HandSHeadRun.getT s) adr), fn.map fun d => He.fnW (He.frG (HandSHeadRun.getT s) adr) d.at_)) = some (true, fn.map He.DefD.val) := by
  intro os
  kernel_rfl
theorem run (w : World) : HandSHeadRun.RunEq R (PySem.W.view R.prog [29]) hk ob 8000 nss w := HandSHeadRun.runEq_of (run_a w) (runC_of rfl (run_b w) (run_c w) (run_d w))
theorem sc_NoText_init : FnScope ["self", "row"] ["self", "row"] (defScope s_NoText_init) := ⟨rfl, rfl, rfl, by decide +kernel, rfl, by decide +kernel, by decide +kernel⟩
theorem sc_NoLine_init : FnScope ["self", "name"] ["self", "name"] (defScope s_NoLine_init) := ⟨rfl, rfl, rfl, by decide +kernel, rfl, by decide +kernel, by decide +kernel⟩
theorem sc_NoGoing_init : FnScope ["self", "moment"] ["self", "moment"] (defScope s_NoGoing_init) := ⟨rfl, rfl, rfl, by decide +kernel, rfl, by decide +kernel, by decide +kernel⟩
theorem sc_Needed_init : FnScope ["self", "name"] ["self", "name"] (defScope s_Needed_init) := ⟨rfl, rfl, rfl, by decide +kernel, rfl, by decide +kernel, by decide +kernel⟩
theorem sc_Taken_init : FnScope ["self", "moment"] ["self", "moment"] (defScope s_Taken_init) := ⟨rfl, rfl, rfl, by decide +kernel, rfl, by decide +kernel, by decide +kernel⟩
theorem sc_Round_init : FnScope ["self", "chain"] ["self", "chain"] (defScope s_Round_init) := ⟨rfl, rfl, rfl, by decide +kernel, rfl, by decide +kernel, by decide +kernel⟩
theorem sc__law_pot : FnScope ["_law_script", "_law_k", "_law_cell"] ["_law_script", "_law_k"] (defScope s__law_pot) := ⟨rfl, rfl, rfl, by decide +kernel, rfl, by decide +kernel, by decide +kernel⟩
theorem sc__law_take : FnScope ["_law_pot_here", "_law_many", "_law_digit"] ["_law_pot_here", "_law_many"] (defScope s__law_take) := ⟨rfl, rfl, rfl, by decide +kernel, rfl, by decide +kernel, by decide +kernel⟩
theorem sc__law_great : FnScope ["_law_pot_here", "_law_bound", "_law_found", "_law_k"] ["_law_pot_here", "_law_bound"] (defScope s__law_great) := ⟨rfl, rfl, rfl, by decide +kernel, rfl, by decide +kernel, by decide +kernel⟩
theorem sc__law_name : FnScope ["_law_pot_here", "_law_letters", "_law_k"] ["_law_pot_here"] (defScope s__law_name) := ⟨rfl, rfl, rfl, by decide +kernel, rfl, by decide +kernel, by decide +kernel⟩
theorem sc__law_kinds : FnScope ["_law_e", "_law_some", "_law_k"] ["_law_e"] (defScope s__law_kinds) := ⟨rfl, rfl, rfl, by decide +kernel, rfl, by decide +kernel, by decide +kernel⟩
theorem sc__law_plain : FnScope ["_law_way", "_law_words"] ["_law_way", "_law_words"] (defScope s__law_plain) := ⟨rfl, rfl, rfl, by decide +kernel, rfl, by decide +kernel, by decide +kernel⟩
theorem sc__law_raised : FnScope ["_law_way", "_law_thing_here"] ["_law_way", "_law_thing_here"] (defScope s__law_raised) := ⟨rfl, rfl, rfl, by decide +kernel, rfl, by decide +kernel, by decide +kernel⟩
theorem sc__law_due : FnScope ["_law_way"] ["_law_way"] (defScope s__law_due) := ⟨rfl, rfl, rfl, by decide +kernel, rfl, by decide +kernel, by decide +kernel⟩
theorem sc__law_stands : FnScope ["_law_way", "_law_thing_here", "_law_found", "_law_e"] ["_law_way", "_law_thing_here"] (defScope s__law_stands) := ⟨rfl, rfl, rfl, by decide +kernel, rfl, by decide +kernel, by decide +kernel⟩
theorem sc__law_two : FnScope ["_law_way", "_law_one", "_law_other", "_law_some", "_law_e"] ["_law_way", "_law_one", "_law_other"] (defScope s__law_two) := ⟨rfl, rfl, rfl, by decide +kernel, rfl, by decide +kernel, by decide +kernel⟩
theorem sc__law_thing : FnScope ["_law_pot_here", "_law_way", "_law_k"] ["_law_pot_here", "_law_way"] (defScope s__law_thing) := ⟨rfl, rfl, rfl, by decide +kernel, rfl, by decide +kernel, by decide +kernel⟩
theorem sc_law : FnScope ["_law_script", "_law_k", "_law_pot_here", "_law_words", "_law_way", "_law_one", "_law_other"] ["_law_script"] (defScope s_law) := ⟨rfl, rfl, rfl, by decide +kernel, rfl, by decide +kernel, by decide +kernel⟩
structure Env (K : PySem.W.Frag) (mg : Str → Option Value) : Prop where
  g__law_pot : mg "_law_pot" = some (.ref (He.ga K "_law_pot"))
  g__law_take : mg "_law_take" = some (.ref (He.ga K "_law_take"))
  g__law_great : mg "_law_great" = some (.ref (He.ga K "_law_great"))
  g__law_name : mg "_law_name" = some (.ref (He.ga K "_law_name"))
  g__law_kinds : mg "_law_kinds" = some (.ref (He.ga K "_law_kinds"))
  g__law_plain : mg "_law_plain" = some (.ref (He.ga K "_law_plain"))
  g__law_raised : mg "_law_raised" = some (.ref (He.ga K "_law_raised"))
  g__law_due : mg "_law_due" = some (.ref (He.ga K "_law_due"))
  g__law_stands : mg "_law_stands" = some (.ref (He.ga K "_law_stands"))
  g__law_two : mg "_law_two" = some (.ref (He.ga K "_law_two"))
  g__law_thing : mg "_law_thing" = some (.ref (He.ga K "_law_thing"))
  g_law : mg "law" = some (.ref (He.ga K "law"))
  n_LookupError : mg "LookupError" = none
  n_RuntimeError : mg "RuntimeError" = none
  n_ValueError : mg "ValueError" = none
  n_divmod : mg "divmod" = none
  n_isinstance : mg "isinstance" = none
  n_len : mg "len" = none
  n_max : mg "max" = none
  n_min : mg "min" = none
  n_range : mg "range" = none
  n_repr : mg "repr" = none
  n_tuple : mg "tuple" = none
  g_GoingError : mg "GoingError" = some (.ref (He.ga K "GoingError"))
  g_LackError : mg "LackError" = some (.ref (He.ga K "LackError"))
  g_BookError : mg "BookError" = some (.ref (He.ga K "BookError"))
  g_NoTime : mg "NoTime" = some (.ref (He.ga K "NoTime"))
  x_NoTime : Exo K (He.ga K "NoTime") bmV "ValueError.__new__"
  g_NoPiece : mg "NoPiece" = some (.ref (He.ga K "NoPiece"))
  x_NoPiece : Exo K (He.ga K "NoPiece") bmV "ValueError.__new__"
  g_NoDays : mg "NoDays" = some (.ref (He.ga K "NoDays"))
  x_NoDays : Exo K (He.ga K "NoDays") bmV "ValueError.__new__"
  g_NoCard : mg "NoCard" = some (.ref (He.ga K "NoCard"))
  x_NoCard : Exo K (He.ga K "NoCard") bmV "ValueError.__new__"
  g_NoName : mg "NoName" = some (.ref (He.ga K "NoName"))
  x_NoName : Exo K (He.ga K "NoName") bmV "ValueError.__new__"
  g_NoRow : mg "NoRow" = some (.ref (He.ga K "NoRow"))
  x_NoRow : Exo K (He.ga K "NoRow") bmV "ValueError.__new__"
  g_NoText : mg "NoText" = some (.ref (He.ga K "NoText"))
  g_NoLine : mg "NoLine" = some (.ref (He.ga K "NoLine"))
  g_NoGoing : mg "NoGoing" = some (.ref (He.ga K "NoGoing"))
  g_Needed : mg "Needed" = some (.ref (He.ga K "Needed"))
  g_Taken : mg "Taken" = some (.ref (He.ga K "Taken"))
  g_Round : mg "Round" = some (.ref (He.ga K "Round"))
  g_TooMuch : mg "TooMuch" = some (.ref (He.ga K "TooMuch"))
  x_TooMuch : Exo K (He.ga K "TooMuch") bmR "RuntimeError.__new__"
  bx_GoingError : BxiC K (He.ga K "GoingError") "ValueError.__init__"
  bx_LackError : BxiC K (He.ga K "LackError") "LookupError.__init__"
  bx_BookError : BxiC K (He.ga K "BookError") "RuntimeError.__init__"
  ox_NoText : OexB K (He.ga K "NoText") bmV "ValueError.__new__"
  m_NoText_init : Meth K (He.ga K "NoText") "__init__" (He.ma K (He.ga K "NoText") "__init__")
  xf_NoText : XfC K (He.ga K "NoText")
  a_NoText_row : NoAttr K (He.ga K "NoText") "row"
  ox_NoLine : OexB K (He.ga K "NoLine") bmL "LookupError.__new__"
  m_NoLine_init : Meth K (He.ga K "NoLine") "__init__" (He.ma K (He.ga K "NoLine") "__init__")
  xf_NoLine : XfC K (He.ga K "NoLine")
  a_NoLine_name : NoAttr K (He.ga K "NoLine") "name"
  ox_NoGoing : OexB K (He.ga K "NoGoing") bmL "LookupError.__new__"
  m_NoGoing_init : Meth K (He.ga K "NoGoing") "__init__" (He.ma K (He.ga K "NoGoing") "__init__")
  xf_NoGoing : XfC K (He.ga K "NoGoing")
  a_NoGoing_moment : NoAttr K (He.ga K "NoGoing") "moment"
  ox_Needed : OexB K (He.ga K "Needed") bmR "RuntimeError.__new__"
  m_Needed_init : Meth K (He.ga K "Needed") "__init__" (He.ma K (He.ga K "Needed") "__init__")
  xf_Needed : XfC K (He.ga K "Needed")
  a_Needed_name : NoAttr K (He.ga K "Needed") "name"
  ox_Taken : OexB K (He.ga K "Taken") bmR "RuntimeError.__new__"
  m_Taken_init : Meth K (He.ga K "Taken") "__init__" (He.ma K (He.ga K "Taken") "__init__")
  xf_Taken : XfC K (He.ga K "Taken")
  a_Taken_moment : NoAttr K (He.ga K "Taken") "moment"
  ox_Round : OexB K (He.ga K "Round") bmR "RuntimeError.__new__"
  m_Round_init : Meth K (He.ga K "Round") "__init__" (He.ma K (He.ga K "Round") "__init__")
  xf_Round : XfC K (He.ga K "Round")
  a_Round_chain : NoAttr K (He.ga K "Round") "chain"
  xc_NoTime : ExcC K (He.ga K "NoTime")
  kit_NoTime_GoingError : PySem.W.kitOne K (.ref (He.ga K "NoTime")) (.ref (He.ga K "GoingError")) = some true
  kit_NoTime_LackError : PySem.W.kitOne K (.ref (He.ga K "NoTime")) (.ref (He.ga K "LackError")) = some false
  kit_NoTime_BookError : PySem.W.kitOne K (.ref (He.ga K "NoTime")) (.ref (He.ga K "BookError")) = some false
  kit_NoTime_NoTime : PySem.W.kitOne K (.ref (He.ga K "NoTime")) (.ref (He.ga K "NoTime")) = some true
  kit_NoTime_NoPiece : PySem.W.kitOne K (.ref (He.ga K "NoTime")) (.ref (He.ga K "NoPiece")) = some false
  kit_NoTime_NoDays : PySem.W.kitOne K (.ref (He.ga K "NoTime")) (.ref (He.ga K "NoDays")) = some false
  kit_NoTime_NoCard : PySem.W.kitOne K (.ref (He.ga K "NoTime")) (.ref (He.ga K "NoCard")) = some false
  kit_NoTime_NoName : PySem.W.kitOne K (.ref (He.ga K "NoTime")) (.ref (He.ga K "NoName")) = some false
  kit_NoTime_NoRow : PySem.W.kitOne K (.ref (He.ga K "NoTime")) (.ref (He.ga K "NoRow")) = some false
  kit_NoTime_NoText : PySem.W.kitOne K (.ref (He.ga K "NoTime")) (.ref (He.ga K "NoText")) = some false
  kit_NoTime_NoLine : PySem.W.kitOne K (.ref (He.ga K "NoTime")) (.ref (He.ga K "NoLine")) = some false
  kit_NoTime_NoGoing : PySem.W.kitOne K (.ref (He.ga K "NoTime")) (.ref (He.ga K "NoGoing")) = some false
  kit_NoTime_Needed : PySem.W.kitOne K (.ref (He.ga K "NoTime")) (.ref (He.ga K "Needed")) = some false
  kit_NoTime_Taken : PySem.W.kitOne K (.ref (He.ga K "NoTime")) (.ref (He.ga K "Taken")) = some false
  kit_NoTime_Round : PySem.W.kitOne K (.ref (He.ga K "NoTime")) (.ref (He.ga K "Round")) = some false
  kit_NoTime_TooMuch : PySem.W.kitOne K (.ref (He.ga K "NoTime")) (.ref (He.ga K "TooMuch")) = some false
  kit_NoTime_ValueError : PySem.W.kitOne K (.ref (He.ga K "NoTime")) (.type "ValueError") = some true
  kit_NoTime_LookupError : PySem.W.kitOne K (.ref (He.ga K "NoTime")) (.type "LookupError") = some false
  kit_NoTime_RuntimeError : PySem.W.kitOne K (.ref (He.ga K "NoTime")) (.type "RuntimeError") = some false
  exm_NoTime : PySem.W.exmAny K (.ref (He.ga K "NoTime")) [.ref (He.ga K "GoingError"), .ref (He.ga K "LackError"), .ref (He.ga K "BookError")] = some true
  xc_NoPiece : ExcC K (He.ga K "NoPiece")
  kit_NoPiece_GoingError : PySem.W.kitOne K (.ref (He.ga K "NoPiece")) (.ref (He.ga K "GoingError")) = some true
  kit_NoPiece_LackError : PySem.W.kitOne K (.ref (He.ga K "NoPiece")) (.ref (He.ga K "LackError")) = some false
  kit_NoPiece_BookError : PySem.W.kitOne K (.ref (He.ga K "NoPiece")) (.ref (He.ga K "BookError")) = some false
  kit_NoPiece_NoTime : PySem.W.kitOne K (.ref (He.ga K "NoPiece")) (.ref (He.ga K "NoTime")) = some false
  kit_NoPiece_NoPiece : PySem.W.kitOne K (.ref (He.ga K "NoPiece")) (.ref (He.ga K "NoPiece")) = some true
  kit_NoPiece_NoDays : PySem.W.kitOne K (.ref (He.ga K "NoPiece")) (.ref (He.ga K "NoDays")) = some false
  kit_NoPiece_NoCard : PySem.W.kitOne K (.ref (He.ga K "NoPiece")) (.ref (He.ga K "NoCard")) = some false
  kit_NoPiece_NoName : PySem.W.kitOne K (.ref (He.ga K "NoPiece")) (.ref (He.ga K "NoName")) = some false
  kit_NoPiece_NoRow : PySem.W.kitOne K (.ref (He.ga K "NoPiece")) (.ref (He.ga K "NoRow")) = some false
  kit_NoPiece_NoText : PySem.W.kitOne K (.ref (He.ga K "NoPiece")) (.ref (He.ga K "NoText")) = some false
  kit_NoPiece_NoLine : PySem.W.kitOne K (.ref (He.ga K "NoPiece")) (.ref (He.ga K "NoLine")) = some false
  kit_NoPiece_NoGoing : PySem.W.kitOne K (.ref (He.ga K "NoPiece")) (.ref (He.ga K "NoGoing")) = some false
  kit_NoPiece_Needed : PySem.W.kitOne K (.ref (He.ga K "NoPiece")) (.ref (He.ga K "Needed")) = some false
  kit_NoPiece_Taken : PySem.W.kitOne K (.ref (He.ga K "NoPiece")) (.ref (He.ga K "Taken")) = some false
  kit_NoPiece_Round : PySem.W.kitOne K (.ref (He.ga K "NoPiece")) (.ref (He.ga K "Round")) = some false
  kit_NoPiece_TooMuch : PySem.W.kitOne K (.ref (He.ga K "NoPiece")) (.ref (He.ga K "TooMuch")) = some false
  kit_NoPiece_ValueError : PySem.W.kitOne K (.ref (He.ga K "NoPiece")) (.type "ValueError") = some true
  kit_NoPiece_LookupError : PySem.W.kitOne K (.ref (He.ga K "NoPiece")) (.type "LookupError") = some false
  kit_NoPiece_RuntimeError : PySem.W.kitOne K (.ref (He.ga K "NoPiece")) (.type "RuntimeError") = some false
  exm_NoPiece : PySem.W.exmAny K (.ref (He.ga K "NoPiece")) [.ref (He.ga K "GoingError"), .ref (He.ga K "LackError"), .ref (He.ga K "BookError")] = some true
  xc_NoDays : ExcC K (He.ga K "NoDays")
  kit_NoDays_GoingError : PySem.W.kitOne K (.ref (He.ga K "NoDays")) (.ref (He.ga K "GoingError")) = some true
  kit_NoDays_LackError : PySem.W.kitOne K (.ref (He.ga K "NoDays")) (.ref (He.ga K "LackError")) = some false
  kit_NoDays_BookError : PySem.W.kitOne K (.ref (He.ga K "NoDays")) (.ref (He.ga K "BookError")) = some false
  kit_NoDays_NoTime : PySem.W.kitOne K (.ref (He.ga K "NoDays")) (.ref (He.ga K "NoTime")) = some false
  kit_NoDays_NoPiece : PySem.W.kitOne K (.ref (He.ga K "NoDays")) (.ref (He.ga K "NoPiece")) = some false
  kit_NoDays_NoDays : PySem.W.kitOne K (.ref (He.ga K "NoDays")) (.ref (He.ga K "NoDays")) = some true
  kit_NoDays_NoCard : PySem.W.kitOne K (.ref (He.ga K "NoDays")) (.ref (He.ga K "NoCard")) = some false
  kit_NoDays_NoName : PySem.W.kitOne K (.ref (He.ga K "NoDays")) (.ref (He.ga K "NoName")) = some false
  kit_NoDays_NoRow : PySem.W.kitOne K (.ref (He.ga K "NoDays")) (.ref (He.ga K "NoRow")) = some false
  kit_NoDays_NoText : PySem.W.kitOne K (.ref (He.ga K "NoDays")) (.ref (He.ga K "NoText")) = some false
  kit_NoDays_NoLine : PySem.W.kitOne K (.ref (He.ga K "NoDays")) (.ref (He.ga K "NoLine")) = some false
  kit_NoDays_NoGoing : PySem.W.kitOne K (.ref (He.ga K "NoDays")) (.ref (He.ga K "NoGoing")) = some false
  kit_NoDays_Needed : PySem.W.kitOne K (.ref (He.ga K "NoDays")) (.ref (He.ga K "Needed")) = some false
  kit_NoDays_Taken : PySem.W.kitOne K (.ref (He.ga K "NoDays")) (.ref (He.ga K "Taken")) = some false
  kit_NoDays_Round : PySem.W.kitOne K (.ref (He.ga K "NoDays")) (.ref (He.ga K "Round")) = some false
  kit_NoDays_TooMuch : PySem.W.kitOne K (.ref (He.ga K "NoDays")) (.ref (He.ga K "TooMuch")) = some false
  kit_NoDays_ValueError : PySem.W.kitOne K (.ref (He.ga K "NoDays")) (.type "ValueError") = some true
  kit_NoDays_LookupError : PySem.W.kitOne K (.ref (He.ga K "NoDays")) (.type "LookupError") = some false
  kit_NoDays_RuntimeError : PySem.W.kitOne K (.ref (He.ga K "NoDays")) (.type "RuntimeError") = some false
  exm_NoDays : PySem.W.exmAny K (.ref (He.ga K "NoDays")) [.ref (He.ga K "GoingError"), .ref (He.ga K "LackError"), .ref (He.ga K "BookError")] = some true
  xc_NoCard : ExcC K (He.ga K "NoCard")
  kit_NoCard_GoingError : PySem.W.kitOne K (.ref (He.ga K "NoCard")) (.ref (He.ga K "GoingError")) = some true
  kit_NoCard_LackError : PySem.W.kitOne K (.ref (He.ga K "NoCard")) (.ref (He.ga K "LackError")) = some false
  kit_NoCard_BookError : PySem.W.kitOne K (.ref (He.ga K "NoCard")) (.ref (He.ga K "BookError")) = some false
  kit_NoCard_NoTime : PySem.W.kitOne K (.ref (He.ga K "NoCard")) (.ref (He.ga K "NoTime")) = some false
  kit_NoCard_NoPiece : PySem.W.kitOne K (.ref (He.ga K "NoCard")) (.ref (He.ga K "NoPiece")) = some false
  kit_NoCard_NoDays : PySem.W.kitOne K (.ref (He.ga K "NoCard")) (.ref (He.ga K "NoDays")) = some false
  kit_NoCard_NoCard : PySem.W.kitOne K (.ref (He.ga K "NoCard")) (.ref (He.ga K "NoCard")) = some true
  kit_NoCard_NoName : PySem.W.kitOne K (.ref (He.ga K "NoCard")) (.ref (He.ga K "NoName")) = some false
  kit_NoCard_NoRow : PySem.W.kitOne K (.ref (He.ga K "NoCard")) (.ref (He.ga K "NoRow")) = some false
  kit_NoCard_NoText : PySem.W.kitOne K (.ref (He.ga K "NoCard")) (.ref (He.ga K "NoText")) = some false
  kit_NoCard_NoLine : PySem.W.kitOne K (.ref (He.ga K "NoCard")) (.ref (He.ga K "NoLine")) = some false
  kit_NoCard_NoGoing : PySem.W.kitOne K (.ref (He.ga K "NoCard")) (.ref (He.ga K "NoGoing")) = some false
  kit_NoCard_Needed : PySem.W.kitOne K (.ref (He.ga K "NoCard")) (.ref (He.ga K "Needed")) = some false
  kit_NoCard_Taken : PySem.W.kitOne K (.ref (He.ga K "NoCard")) (.ref (He.ga K "Taken")) = some false
  kit_NoCard_Round : PySem.W.kitOne K (.ref (He.ga K "NoCard")) (.ref (He.ga K "Round")) = some false
  kit_NoCard_TooMuch : PySem.W.kitOne K (.ref (He.ga K "NoCard")) (.ref (He.ga K "TooMuch")) = some false
  kit_NoCard_ValueError : PySem.W.kitOne K (.ref (He.ga K "NoCard")) (.type "ValueError") = some true
  kit_NoCard_LookupError : PySem.W.kitOne K (.ref (He.ga K "NoCard")) (.type "LookupError") = some false
  kit_NoCard_RuntimeError : PySem.W.kitOne K (.ref (He.ga K "NoCard")) (.type "RuntimeError") = some false
  exm_NoCard : PySem.W.exmAny K (.ref (He.ga K "NoCard")) [.ref (He.ga K "GoingError"), .ref (He.ga K "LackError"), .ref (He.ga K "BookError")] = some true
  xc_NoName : ExcC K (He.ga K "NoName")
  kit_NoName_GoingError : PySem.W.kitOne K (.ref (He.ga K "NoName")) (.ref (He.ga K "GoingError")) = some true
  kit_NoName_LackError : PySem.W.kitOne K (.ref (He.ga K "NoName")) (.ref (He.ga K "LackError")) = some false
  kit_NoName_BookError : PySem.W.kitOne K (.ref (He.ga K "NoName")) (.ref (He.ga K "BookError")) = some false
  kit_NoName_NoTime : PySem.W.kitOne K (.ref (He.ga K "NoName")) (.ref (He.ga K "NoTime")) = some false
  kit_NoName_NoPiece : PySem.W.kitOne K (.ref (He.ga K "NoName")) (.ref (He.ga K "NoPiece")) = some false
  kit_NoName_NoDays : PySem.W.kitOne K (.ref (He.ga K "NoName")) (.ref (He.ga K "NoDays")) = some false
  kit_NoName_NoCard : PySem.W.kitOne K (.ref (He.ga K "NoName")) (.ref (He.ga K "NoCard")) = some false
  kit_NoName_NoName : PySem.W.kitOne K (.ref (He.ga K "NoName")) (.ref (He.ga K "NoName")) = some true
  kit_NoName_NoRow : PySem.W.kitOne K (.ref (He.ga K "NoName")) (.ref (He.ga K "NoRow")) = some false
  kit_NoName_NoText : PySem.W.kitOne K (.ref (He.ga K "NoName")) (.ref (He.ga K "NoText")) = some false
  kit_NoName_NoLine : PySem.W.kitOne K (.ref (He.ga K "NoName")) (.ref (He.ga K "NoLine")) = some false
  kit_NoName_NoGoing : PySem.W.kitOne K (.ref (He.ga K "NoName")) (.ref (He.ga K "NoGoing")) = some false
  kit_NoName_Needed : PySem.W.kitOne K (.ref (He.ga K "NoName")) (.ref (He.ga K "Needed")) = some false
  kit_NoName_Taken : PySem.W.kitOne K (.ref (He.ga K "NoName")) (.ref (He.ga K "Taken")) = some false
  kit_NoName_Round : PySem.W.kitOne K (.ref (He.ga K "NoName")) (.ref (He.ga K "Round")) = some false
  kit_NoName_TooMuch : PySem.W.kitOne K (.ref (He.ga K "NoName")) (.ref (He.ga K "TooMuch")) = some false
  kit_NoName_ValueError : PySem.W.kitOne K (.ref (He.ga K "NoName")) (.type "ValueError") = some true
  kit_NoName_LookupError : PySem.W.kitOne K (.ref (He.ga K "NoName")) (.type "LookupError") = some false
  kit_NoName_RuntimeError : PySem.W.kitOne K (.ref (He.ga K "NoName")) (.type "RuntimeError") = some false
  exm_NoName : PySem.W.exmAny K (.ref (He.ga K "NoName")) [.ref (He.ga K "GoingError"), .ref (He.ga K "LackError"), .ref (He.ga K "BookError")] = some true
  xc_NoRow : ExcC K (He.ga K "NoRow")
  kit_NoRow_GoingError : PySem.W.kitOne K (.ref (He.ga K "NoRow")) (.ref (He.ga K "GoingError")) = some true
  kit_NoRow_LackError : PySem.W.kitOne K (.ref (He.ga K "NoRow")) (.ref (He.ga K "LackError")) = some false
  kit_NoRow_BookError : PySem.W.kitOne K (.ref (He.ga K "NoRow")) (.ref (He.ga K "BookError")) = some false
  kit_NoRow_NoTime : PySem.W.kitOne K (.ref (He.ga K "NoRow")) (.ref (He.ga K "NoTime")) = some false
  kit_NoRow_NoPiece : PySem.W.kitOne K (.ref (He.ga K "NoRow")) (.ref (He.ga K "NoPiece")) = some false
  kit_NoRow_NoDays : PySem.W.kitOne K (.ref (He.ga K "NoRow")) (.ref (He.ga K "NoDays")) = some false
  kit_NoRow_NoCard : PySem.W.kitOne K (.ref (He.ga K "NoRow")) (.ref (He.ga K "NoCard")) = some false
  kit_NoRow_NoName : PySem.W.kitOne K (.ref (He.ga K "NoRow")) (.ref (He.ga K "NoName")) = some false
  kit_NoRow_NoRow : PySem.W.kitOne K (.ref (He.ga K "NoRow")) (.ref (He.ga K "NoRow")) = some true
  kit_NoRow_NoText : PySem.W.kitOne K (.ref (He.ga K "NoRow")) (.ref (He.ga K "NoText")) = some false
  kit_NoRow_NoLine : PySem.W.kitOne K (.ref (He.ga K "NoRow")) (.ref (He.ga K "NoLine")) = some false
  kit_NoRow_NoGoing : PySem.W.kitOne K (.ref (He.ga K "NoRow")) (.ref (He.ga K "NoGoing")) = some false
  kit_NoRow_Needed : PySem.W.kitOne K (.ref (He.ga K "NoRow")) (.ref (He.ga K "Needed")) = some false
  kit_NoRow_Taken : PySem.W.kitOne K (.ref (He.ga K "NoRow")) (.ref (He.ga K "Taken")) = some false
  kit_NoRow_Round : PySem.W.kitOne K (.ref (He.ga K "NoRow")) (.ref (He.ga K "Round")) = some false
  kit_NoRow_TooMuch : PySem.W.kitOne K (.ref (He.ga K "NoRow")) (.ref (He.ga K "TooMuch")) = some false
  kit_NoRow_ValueError : PySem.W.kitOne K (.ref (He.ga K "NoRow")) (.type "ValueError") = some true
  kit_NoRow_LookupError : PySem.W.kitOne K (.ref (He.ga K "NoRow")) (.type "LookupError") = some false
  kit_NoRow_RuntimeError : PySem.W.kitOne K (.ref (He.ga K "NoRow")) (.type "RuntimeError") = some false
  exm_NoRow : PySem.W.exmAny K (.ref (He.ga K "NoRow")) [.ref (He.ga K "GoingError"), .ref (He.ga K "LackError"), .ref (He.ga K "BookError")] = some true
  xc_TooMuch : ExcC K (He.ga K "TooMuch")
  kit_TooMuch_GoingError : PySem.W.kitOne K (.ref (He.ga K "TooMuch")) (.ref (He.ga K "GoingError")) = some false
  kit_TooMuch_LackError : PySem.W.kitOne K (.ref (He.ga K "TooMuch")) (.ref (He.ga K "LackError")) = some false
  kit_TooMuch_BookError : PySem.W.kitOne K (.ref (He.ga K "TooMuch")) (.ref (He.ga K "BookError")) = some true
  kit_TooMuch_NoTime : PySem.W.kitOne K (.ref (He.ga K "TooMuch")) (.ref (He.ga K "NoTime")) = some false
  kit_TooMuch_NoPiece : PySem.W.kitOne K (.ref (He.ga K "TooMuch")) (.ref (He.ga K "NoPiece")) = some false
  kit_TooMuch_NoDays : PySem.W.kitOne K (.ref (He.ga K "TooMuch")) (.ref (He.ga K "NoDays")) = some false
  kit_TooMuch_NoCard : PySem.W.kitOne K (.ref (He.ga K "TooMuch")) (.ref (He.ga K "NoCard")) = some false
  kit_TooMuch_NoName : PySem.W.kitOne K (.ref (He.ga K "TooMuch")) (.ref (He.ga K "NoName")) = some false
  kit_TooMuch_NoRow : PySem.W.kitOne K (.ref (He.ga K "TooMuch")) (.ref (He.ga K "NoRow")) = some false
  kit_TooMuch_NoText : PySem.W.kitOne K (.ref (He.ga K "TooMuch")) (.ref (He.ga K "NoText")) = some false
  kit_TooMuch_NoLine : PySem.W.kitOne K (.ref (He.ga K "TooMuch")) (.ref (He.ga K "NoLine")) = some false
  kit_TooMuch_NoGoing : PySem.W.kitOne K (.ref (He.ga K "TooMuch")) (.ref (He.ga K "NoGoing")) = some false
  kit_TooMuch_Needed : PySem.W.kitOne K (.ref (He.ga K "TooMuch")) (.ref (He.ga K "Needed")) = some false
  kit_TooMuch_Taken : PySem.W.kitOne K (.ref (He.ga K "TooMuch")) (.ref (He.ga K "Taken")) = some false
  kit_TooMuch_Round : PySem.W.kitOne K (.ref (He.ga K "TooMuch")) (.ref (He.ga K "Round")) = some false
  kit_TooMuch_TooMuch : PySem.W.kitOne K (.ref (He.ga K "TooMuch")) (.ref (He.ga K "TooMuch")) = some true
  kit_TooMuch_ValueError : PySem.W.kitOne K (.ref (He.ga K "TooMuch")) (.type "ValueError") = some false
  kit_TooMuch_LookupError : PySem.W.kitOne K (.ref (He.ga K "TooMuch")) (.type "LookupError") = some false
  kit_TooMuch_RuntimeError : PySem.W.kitOne K (.ref (He.ga K "TooMuch")) (.type "RuntimeError") = some true
  exm_TooMuch : PySem.W.exmAny K (.ref (He.ga K "TooMuch")) [.ref (He.ga K "GoingError"), .ref (He.ga K "LackError"), .ref (He.ga K "BookError")] = some true
  xc_NoText : ExcC K (He.ga K "NoText")
  kit_NoText_GoingError : PySem.W.kitOne K (.ref (He.ga K "NoText")) (.ref (He.ga K "GoingError")) = some true
  kit_NoText_LackError : PySem.W.kitOne K (.ref (He.ga K "NoText")) (.ref (He.ga K "LackError")) = some false
  kit_NoText_BookError : PySem.W.kitOne K (.ref (He.ga K "NoText")) (.ref (He.ga K "BookError")) = some false
  kit_NoText_NoTime : PySem.W.kitOne K (.ref (He.ga K "NoText")) (.ref (He.ga K "NoTime")) = some false
  kit_NoText_NoPiece : PySem.W.kitOne K (.ref (He.ga K "NoText")) (.ref (He.ga K "NoPiece")) = some false
  kit_NoText_NoDays : PySem.W.kitOne K (.ref (He.ga K "NoText")) (.ref (He.ga K "NoDays")) = some false
  kit_NoText_NoCard : PySem.W.kitOne K (.ref (He.ga K "NoText")) (.ref (He.ga K "NoCard")) = some false
  kit_NoText_NoName : PySem.W.kitOne K (.ref (He.ga K "NoText")) (.ref (He.ga K "NoName")) = some false
  kit_NoText_NoRow : PySem.W.kitOne K (.ref (He.ga K "NoText")) (.ref (He.ga K "NoRow")) = some false
  kit_NoText_NoText : PySem.W.kitOne K (.ref (He.ga K "NoText")) (.ref (He.ga K "NoText")) = some true
  kit_NoText_NoLine : PySem.W.kitOne K (.ref (He.ga K "NoText")) (.ref (He.ga K "NoLine")) = some false
  kit_NoText_NoGoing : PySem.W.kitOne K (.ref (He.ga K "NoText")) (.ref (He.ga K "NoGoing")) = some false
  kit_NoText_Needed : PySem.W.kitOne K (.ref (He.ga K "NoText")) (.ref (He.ga K "Needed")) = some false
  kit_NoText_Taken : PySem.W.kitOne K (.ref (He.ga K "NoText")) (.ref (He.ga K "Taken")) = some false
  kit_NoText_Round : PySem.W.kitOne K (.ref (He.ga K "NoText")) (.ref (He.ga K "Round")) = some false
  kit_NoText_TooMuch : PySem.W.kitOne K (.ref (He.ga K "NoText")) (.ref (He.ga K "TooMuch")) = some false
  kit_NoText_ValueError : PySem.W.kitOne K (.ref (He.ga K "NoText")) (.type "ValueError") = some true
  kit_NoText_LookupError : PySem.W.kitOne K (.ref (He.ga K "NoText")) (.type "LookupError") = some false
  kit_NoText_RuntimeError : PySem.W.kitOne K (.ref (He.ga K "NoText")) (.type "RuntimeError") = some false
  exm_NoText : PySem.W.exmAny K (.ref (He.ga K "NoText")) [.ref (He.ga K "GoingError"), .ref (He.ga K "LackError"), .ref (He.ga K "BookError")] = some true
  xc_NoLine : ExcC K (He.ga K "NoLine")
  kit_NoLine_GoingError : PySem.W.kitOne K (.ref (He.ga K "NoLine")) (.ref (He.ga K "GoingError")) = some false
  kit_NoLine_LackError : PySem.W.kitOne K (.ref (He.ga K "NoLine")) (.ref (He.ga K "LackError")) = some true
  kit_NoLine_BookError : PySem.W.kitOne K (.ref (He.ga K "NoLine")) (.ref (He.ga K "BookError")) = some false
  kit_NoLine_NoTime : PySem.W.kitOne K (.ref (He.ga K "NoLine")) (.ref (He.ga K "NoTime")) = some false
  kit_NoLine_NoPiece : PySem.W.kitOne K (.ref (He.ga K "NoLine")) (.ref (He.ga K "NoPiece")) = some false
  kit_NoLine_NoDays : PySem.W.kitOne K (.ref (He.ga K "NoLine")) (.ref (He.ga K "NoDays")) = some false
  kit_NoLine_NoCard : PySem.W.kitOne K (.ref (He.ga K "NoLine")) (.ref (He.ga K "NoCard")) = some false
  kit_NoLine_NoName : PySem.W.kitOne K (.ref (He.ga K "NoLine")) (.ref (He.ga K "NoName")) = some false
  kit_NoLine_NoRow : PySem.W.kitOne K (.ref (He.ga K "NoLine")) (.ref (He.ga K "NoRow")) = some false
  kit_NoLine_NoText : PySem.W.kitOne K (.ref (He.ga K "NoLine")) (.ref (He.ga K "NoText")) = some false
  kit_NoLine_NoLine : PySem.W.kitOne K (.ref (He.ga K "NoLine")) (.ref (He.ga K "NoLine")) = some true
  kit_NoLine_NoGoing : PySem.W.kitOne K (.ref (He.ga K "NoLine")) (.ref (He.ga K "NoGoing")) = some false
  kit_NoLine_Needed : PySem.W.kitOne K (.ref (He.ga K "NoLine")) (.ref (He.ga K "Needed")) = some false
  kit_NoLine_Taken : PySem.W.kitOne K (.ref (He.ga K "NoLine")) (.ref (He.ga K "Taken")) = some false
  kit_NoLine_Round : PySem.W.kitOne K (.ref (He.ga K "NoLine")) (.ref (He.ga K "Round")) = some false
  kit_NoLine_TooMuch : PySem.W.kitOne K (.ref (He.ga K "NoLine")) (.ref (He.ga K "TooMuch")) = some false
  kit_NoLine_ValueError : PySem.W.kitOne K (.ref (He.ga K "NoLine")) (.type "ValueError") = some false
  kit_NoLine_LookupError : PySem.W.kitOne K (.ref (He.ga K "NoLine")) (.type "LookupError") = some true
  kit_NoLine_RuntimeError : PySem.W.kitOne K (.ref (He.ga K "NoLine")) (.type "RuntimeError") = some false
  exm_NoLine : PySem.W.exmAny K (.ref (He.ga K "NoLine")) [.ref (He.ga K "GoingError"), .ref (He.ga K "LackError"), .ref (He.ga K "BookError")] = some true
  xc_NoGoing : ExcC K (He.ga K "NoGoing")
  kit_NoGoing_GoingError : PySem.W.kitOne K (.ref (He.ga K "NoGoing")) (.ref (He.ga K "GoingError")) = some false
  kit_NoGoing_LackError : PySem.W.kitOne K (.ref (He.ga K "NoGoing")) (.ref (He.ga K "LackError")) = some true
  kit_NoGoing_BookError : PySem.W.kitOne K (.ref (He.ga K "NoGoing")) (.ref (He.ga K "BookError")) = some false
  kit_NoGoing_NoTime : PySem.W.kitOne K (.ref (He.ga K "NoGoing")) (.ref (He.ga K "NoTime")) = some false
  kit_NoGoing_NoPiece : PySem.W.kitOne K (.ref (He.ga K "NoGoing")) (.ref (He.ga K "NoPiece")) = some false
  kit_NoGoing_NoDays : PySem.W.kitOne K (.ref (He.ga K "NoGoing")) (.ref (He.ga K "NoDays")) = some false
  kit_NoGoing_NoCard : PySem.W.kitOne K (.ref (He.ga K "NoGoing")) (.ref (He.ga K "NoCard")) = some false
  kit_NoGoing_NoName : PySem.W.kitOne K (.ref (He.ga K "NoGoing")) (.ref (He.ga K "NoName")) = some false
  kit_NoGoing_NoRow : PySem.W.kitOne K (.ref (He.ga K "NoGoing")) (.ref (He.ga K "NoRow")) = some false
  kit_NoGoing_NoText : PySem.W.kitOne K (.ref (He.ga K "NoGoing")) (.ref (He.ga K "NoText")) = some false
  kit_NoGoing_NoLine : PySem.W.kitOne K (.ref (He.ga K "NoGoing")) (.ref (He.ga K "NoLine")) = some false
  kit_NoGoing_NoGoing : PySem.W.kitOne K (.ref (He.ga K "NoGoing")) (.ref (He.ga K "NoGoing")) = some true
  kit_NoGoing_Needed : PySem.W.kitOne K (.ref (He.ga K "NoGoing")) (.ref (He.ga K "Needed")) = some false
  kit_NoGoing_Taken : PySem.W.kitOne K (.ref (He.ga K "NoGoing")) (.ref (He.ga K "Taken")) = some false
  kit_NoGoing_Round : PySem.W.kitOne K (.ref (He.ga K "NoGoing")) (.ref (He.ga K "Round")) = some false
  kit_NoGoing_TooMuch : PySem.W.kitOne K (.ref (He.ga K "NoGoing")) (.ref (He.ga K "TooMuch")) = some false
  kit_NoGoing_ValueError : PySem.W.kitOne K (.ref (He.ga K "NoGoing")) (.type "ValueError") = some false
  kit_NoGoing_LookupError : PySem.W.kitOne K (.ref (He.ga K "NoGoing")) (.type "LookupError") = some true
  kit_NoGoing_RuntimeError : PySem.W.kitOne K (.ref (He.ga K "NoGoing")) (.type "RuntimeError") = some false
  exm_NoGoing : PySem.W.exmAny K (.ref (He.ga K "NoGoing")) [.ref (He.ga K "GoingError"), .ref (He.ga K "LackError"), .ref (He.ga K "BookError")] = some true
  xc_Needed : ExcC K (He.ga K "Needed")
  kit_Needed_GoingError : PySem.W.kitOne K (.ref (He.ga K "Needed")) (.ref (He.ga K "GoingError")) = some false
  kit_Needed_LackError : PySem.W.kitOne K (.ref (He.ga K "Needed")) (.ref (He.ga K "LackError")) = some false
  kit_Needed_BookError : PySem.W.kitOne K (.ref (He.ga K "Needed")) (.ref (He.ga K "BookError")) = some true
  kit_Needed_NoTime : PySem.W.kitOne K (.ref (He.ga K "Needed")) (.ref (He.ga K "NoTime")) = some false
  kit_Needed_NoPiece : PySem.W.kitOne K (.ref (He.ga K "Needed")) (.ref (He.ga K "NoPiece")) = some false
  kit_Needed_NoDays : PySem.W.kitOne K (.ref (He.ga K "Needed")) (.ref (He.ga K "NoDays")) = some false
  kit_Needed_NoCard : PySem.W.kitOne K (.ref (He.ga K "Needed")) (.ref (He.ga K "NoCard")) = some false
  kit_Needed_NoName : PySem.W.kitOne K (.ref (He.ga K "Needed")) (.ref (He.ga K "NoName")) = some false
  kit_Needed_NoRow : PySem.W.kitOne K (.ref (He.ga K "Needed")) (.ref (He.ga K "NoRow")) = some false
  kit_Needed_NoText : PySem.W.kitOne K (.ref (He.ga K "Needed")) (.ref (He.ga K "NoText")) = some false
  kit_Needed_NoLine : PySem.W.kitOne K (.ref (He.ga K "Needed")) (.ref (He.ga K "NoLine")) = some false
  kit_Needed_NoGoing : PySem.W.kitOne K (.ref (He.ga K "Needed")) (.ref (He.ga K "NoGoing")) = some false
  kit_Needed_Needed : PySem.W.kitOne K (.ref (He.ga K "Needed")) (.ref (He.ga K "Needed")) = some true
  kit_Needed_Taken : PySem.W.kitOne K (.ref (He.ga K "Needed")) (.ref (He.ga K "Taken")) = some false
  kit_Needed_Round : PySem.W.kitOne K (.ref (He.ga K "Needed")) (.ref (He.ga K "Round")) = some false
  kit_Needed_TooMuch : PySem.W.kitOne K (.ref (He.ga K "Needed")) (.ref (He.ga K "TooMuch")) = some false
  kit_Needed_ValueError : PySem.W.kitOne K (.ref (He.ga K "Needed")) (.type "ValueError") = some false
  kit_Needed_LookupError : PySem.W.kitOne K (.ref (He.ga K "Needed")) (.type "LookupError") = some false
  kit_Needed_RuntimeError : PySem.W.kitOne K (.ref (He.ga K "Needed")) (.type "RuntimeError") = some true
  exm_Needed : PySem.W.exmAny K (.ref (He.ga K "Needed")) [.ref (He.ga K "GoingError"), .ref (He.ga K "LackError"), .ref (He.ga K "BookError")] = some true
  xc_Taken : ExcC K (He.ga K "Taken")
  kit_Taken_GoingError : PySem.W.kitOne K (.ref (He.ga K "Taken")) (.ref (He.ga K "GoingError")) = some false
  kit_Taken_LackError : PySem.W.kitOne K (.ref (He.ga K "Taken")) (.ref (He.ga K "LackError")) = some false
  kit_Taken_BookError : PySem.W.kitOne K (.ref (He.ga K "Taken")) (.ref (He.ga K "BookError")) = some true
  kit_Taken_NoTime : PySem.W.kitOne K (.ref (He.ga K "Taken")) (.ref (He.ga K "NoTime")) = some false
  kit_Taken_NoPiece : PySem.W.kitOne K (.ref (He.ga K "Taken")) (.ref (He.ga K "NoPiece")) = some false
  kit_Taken_NoDays : PySem.W.kitOne K (.ref (He.ga K "Taken")) (.ref (He.ga K "NoDays")) = some false
  kit_Taken_NoCard : PySem.W.kitOne K (.ref (He.ga K "Taken")) (.ref (He.ga K "NoCard")) = some false
  kit_Taken_NoName : PySem.W.kitOne K (.ref (He.ga K "Taken")) (.ref (He.ga K "NoName")) = some false
  kit_Taken_NoRow : PySem.W.kitOne K (.ref (He.ga K "Taken")) (.ref (He.ga K "NoRow")) = some false
  kit_Taken_NoText : PySem.W.kitOne K (.ref (He.ga K "Taken")) (.ref (He.ga K "NoText")) = some false
  kit_Taken_NoLine : PySem.W.kitOne K (.ref (He.ga K "Taken")) (.ref (He.ga K "NoLine")) = some false
  kit_Taken_NoGoing : PySem.W.kitOne K (.ref (He.ga K "Taken")) (.ref (He.ga K "NoGoing")) = some false
  kit_Taken_Needed : PySem.W.kitOne K (.ref (He.ga K "Taken")) (.ref (He.ga K "Needed")) = some false
  kit_Taken_Taken : PySem.W.kitOne K (.ref (He.ga K "Taken")) (.ref (He.ga K "Taken")) = some true
  kit_Taken_Round : PySem.W.kitOne K (.ref (He.ga K "Taken")) (.ref (He.ga K "Round")) = some false
  kit_Taken_TooMuch : PySem.W.kitOne K (.ref (He.ga K "Taken")) (.ref (He.ga K "TooMuch")) = some false
  kit_Taken_ValueError : PySem.W.kitOne K (.ref (He.ga K "Taken")) (.type "ValueError") = some false
  kit_Taken_LookupError : PySem.W.kitOne K (.ref (He.ga K "Taken")) (.type "LookupError") = some false
  kit_Taken_RuntimeError : PySem.W.kitOne K (.ref (He.ga K "Taken")) (.type "RuntimeError") = some true
  exm_Taken : PySem.W.exmAny K (.ref (He.ga K "Taken")) [.ref (He.ga K "GoingError"), .ref (He.ga K "LackError"), .ref (He.ga K "BookError")] = some true
  xc_Round : ExcC K (He.ga K "Round")
  kit_Round_GoingError : PySem.W.kitOne K (.ref (He.ga K "Round")) (.ref (He.ga K "GoingError")) = some false
  kit_Round_LackError : PySem.W.kitOne K (.ref (He.ga K "Round")) (.ref (He.ga K "LackError")) = some false
  kit_Round_BookError : PySem.W.kitOne K (.ref (He.ga K "Round")) (.ref (He.ga K "BookError")) = some true
  kit_Round_NoTime : PySem.W.kitOne K (.ref (He.ga K "Round")) (.ref (He.ga K "NoTime")) = some false
  kit_Round_NoPiece : PySem.W.kitOne K (.ref (He.ga K "Round")) (.ref (He.ga K "NoPiece")) = some false
  kit_Round_NoDays : PySem.W.kitOne K (.ref (He.ga K "Round")) (.ref (He.ga K "NoDays")) = some false
  kit_Round_NoCard : PySem.W.kitOne K (.ref (He.ga K "Round")) (.ref (He.ga K "NoCard")) = some false
  kit_Round_NoName : PySem.W.kitOne K (.ref (He.ga K "Round")) (.ref (He.ga K "NoName")) = some false
  kit_Round_NoRow : PySem.W.kitOne K (.ref (He.ga K "Round")) (.ref (He.ga K "NoRow")) = some false
  kit_Round_NoText : PySem.W.kitOne K (.ref (He.ga K "Round")) (.ref (He.ga K "NoText")) = some false
  kit_Round_NoLine : PySem.W.kitOne K (.ref (He.ga K "Round")) (.ref (He.ga K "NoLine")) = some false
  kit_Round_NoGoing : PySem.W.kitOne K (.ref (He.ga K "Round")) (.ref (He.ga K "NoGoing")) = some false
  kit_Round_Needed : PySem.W.kitOne K (.ref (He.ga K "Round")) (.ref (He.ga K "Needed")) = some false
  kit_Round_Taken : PySem.W.kitOne K (.ref (He.ga K "Round")) (.ref (He.ga K "Taken")) = some false
  kit_Round_Round : PySem.W.kitOne K (.ref (He.ga K "Round")) (.ref (He.ga K "Round")) = some true
  kit_Round_TooMuch : PySem.W.kitOne K (.ref (He.ga K "Round")) (.ref (He.ga K "TooMuch")) = some false
  kit_Round_ValueError : PySem.W.kitOne K (.ref (He.ga K "Round")) (.type "ValueError") = some false
  kit_Round_LookupError : PySem.W.kitOne K (.ref (He.ga K "Round")) (.type "LookupError") = some false
  kit_Round_RuntimeError : PySem.W.kitOne K (.ref (He.ga K "Round")) (.type "RuntimeError") = some true
  exm_Round : PySem.W.exmAny K (.ref (He.ga K "Round")) [.ref (He.ga K "GoingError"), .ref (He.ga K "LackError"), .ref (He.ga K "BookError")] = some true
  f_NoText_init : ∃ fd, FunD K "__init__" "NoText.__init__" (defArgs s_NoText_init) (defBody s_NoText_init) (defScope s_NoText_init) [] [] (He.ma K (He.ga K "NoText") "__init__") fd
  f_NoLine_init : ∃ fd, FunD K "__init__" "NoLine.__init__" (defArgs s_NoLine_init) (defBody s_NoLine_init) (defScope s_NoLine_init) [] [] (He.ma K (He.ga K "NoLine") "__init__") fd
  f_NoGoing_init : ∃ fd, FunD K "__init__" "NoGoing.__init__" (defArgs s_NoGoing_init) (defBody s_NoGoing_init) (defScope s_NoGoing_init) [] [] (He.ma K (He.ga K "NoGoing") "__init__") fd
  f_Needed_init : ∃ fd, FunD K "__init__" "Needed.__init__" (defArgs s_Needed_init) (defBody s_Needed_init) (defScope s_Needed_init) [] [] (He.ma K (He.ga K "Needed") "__init__") fd
  f_Taken_init : ∃ fd, FunD K "__init__" "Taken.__init__" (defArgs s_Taken_init) (defBody s_Taken_init) (defScope s_Taken_init) [] [] (He.ma K (He.ga K "Taken") "__init__") fd
  f_Round_init : ∃ fd, FunD K "__init__" "Round.__init__" (defArgs s_Round_init) (defBody s_Round_init) (defScope s_Round_init) [] [] (He.ma K (He.ga K "Round") "__init__") fd
  f__law_pot : ∃ fd, FunD K "_law_pot" "_law_pot" (defArgs s__law_pot) (defBody s__law_pot) (defScope s__law_pot) [] [] (He.ga K "_law_pot") fd
  f__law_take : ∃ fd, FunD K "_law_take" "_law_take" (defArgs s__law_take) (defBody s__law_take) (defScope s__law_take) [] [] (He.ga K "_law_take") fd
  f__law_great : ∃ fd, FunD K "_law_great" "_law_great" (defArgs s__law_great) (defBody s__law_great) (defScope s__law_great) [] [] (He.ga K "_law_great") fd
  f__law_name : ∃ fd, FunD K "_law_name" "_law_name" (defArgs s__law_name) (defBody s__law_name) (defScope s__law_name) [] [] (He.ga K "_law_name") fd
  f__law_kinds : ∃ fd, FunD K "_law_kinds" "_law_kinds" (defArgs s__law_kinds) (defBody s__law_kinds) (defScope s__law_kinds) [] [] (He.ga K "_law_kinds") fd
  f__law_plain : ∃ fd, FunD K "_law_plain" "_law_plain" (defArgs s__law_plain) (defBody s__law_plain) (defScope s__law_plain) [] [] (He.ga K "_law_plain") fd
  f__law_raised : ∃ fd, FunD K "_law_raised" "_law_raised" (defArgs s__law_raised) (defBody s__law_raised) (defScope s__law_raised) [] [] (He.ga K "_law_raised") fd
  f__law_due : ∃ fd, FunD K "_law_due" "_law_due" (defArgs s__law_due) (defBody s__law_due) (defScope s__law_due) [] [] (He.ga K "_law_due") fd
  f__law_stands : ∃ fd, FunD K "_law_stands" "_law_stands" (defArgs s__law_stands) (defBody s__law_stands) (defScope s__law_stands) [] [] (He.ga K "_law_stands") fd
  f__law_two : ∃ fd, FunD K "_law_two" "_law_two" (defArgs s__law_two) (defBody s__law_two) (defScope s__law_two) [] [] (He.ga K "_law_two") fd
  f__law_thing : ∃ fd, FunD K "_law_thing" "_law_thing" (defArgs s__law_thing) (defBody s__law_thing) (defScope s__law_thing) [] [] (He.ga K "_law_thing") fd
  f_law : ∃ fd, FunD K "law" "law" (defArgs s_law) (defBody s_law) (defScope s_law) [] [] (He.ga K "law") fd
end Toy
namespace Toy
open PySem PySem.Spec PyProof.Rows L2 L3
theorem Env.k__law_pot {K : PySem.W.Frag} {mg : Str → Option Value} (T : Env K mg) : PySem.W.keepIn K (.ref (He.ga K "_law_pot")) = true := let ⟨_, F⟩ := T.f__law_pot; F.kp
theorem Env.k__law_take {K : PySem.W.Frag} {mg : Str → Option Value} (T : Env K mg) : PySem.W.keepIn K (.ref (He.ga K "_law_take")) = true := let ⟨_, F⟩ := T.f__law_take; F.kp
theorem Env.k__law_great {K : PySem.W.Frag} {mg : Str → Option Value} (T : Env K mg) : PySem.W.keepIn K (.ref (He.ga K "_law_great")) = true := let ⟨_, F⟩ := T.f__law_great; F.kp
theorem Env.k__law_name {K : PySem.W.Frag} {mg : Str → Option Value} (T : Env K mg) : PySem.W.keepIn K (.ref (He.ga K "_law_name")) = true := let ⟨_, F⟩ := T.f__law_name; F.kp
theorem Env.k__law_kinds {K : PySem.W.Frag} {mg : Str → Option Value} (T : Env K mg) : PySem.W.keepIn K (.ref (He.ga K "_law_kinds")) = true := let ⟨_, F⟩ := T.f__law_kinds; F.kp
theorem Env.k__law_plain {K : PySem.W.Frag} {mg : Str → Option Value} (T : Env K mg) : PySem.W.keepIn K (.ref (He.ga K "_law_plain")) = true := let ⟨_, F⟩ := T.f__law_plain; F.kp
theorem Env.k__law_raised {K : PySem.W.Frag} {mg : Str → Option Value} (T : Env K mg) : PySem.W.keepIn K (.ref (He.ga K "_law_raised")) = true := let ⟨_, F⟩ := T.f__law_raised; F.kp
theorem Env.k__law_due {K : PySem.W.Frag} {mg : Str → Option Value} (T : Env K mg) : PySem.W.keepIn K (.ref (He.ga K "_law_due")) = true := let ⟨_, F⟩ := T.f__law_due; F.kp
theorem Env.k__law_stands {K : PySem.W.Frag} {mg : Str → Option Value} (T : Env K mg) : PySem.W.keepIn K (.ref (He.ga K "_law_stands")) = true := let ⟨_, F⟩ := T.f__law_stands; F.kp
theorem Env.k__law_two {K : PySem.W.Frag} {mg : Str → Option Value} (T : Env K mg) : PySem.W.keepIn K (.ref (He.ga K "_law_two")) = true := let ⟨_, F⟩ := T.f__law_two; F.kp
theorem Env.k__law_thing {K : PySem.W.Frag} {mg : Str → Option Value} (T : Env K mg) : PySem.W.keepIn K (.ref (He.ga K "_law_thing")) = true := let ⟨_, F⟩ := T.f__law_thing; F.kp
section
def sp_NoText_init (K : PySem.W.Frag) : Sp := fun vs H Q _ => ∃ (a : Addr) (x : V), vs = [.ref a, x] ∧ H a = some (exo a (He.ga K "NoText") none) ∧ ∀ d, H d = none → d ≠ a → Q .non (upd (upd H d (exd d [("row", x)])) a (exo a (He.ga K "NoText") (some d)))
theorem fb_NoText_init {P : Program} {w : World} {K : PySem.W.Frag} {mg : Str → Option Value} {base : Heap} (T : Env K mg) : ∃ fd, FunD K "__init__" "NoText.__init__" (defArgs s_NoText_init) (defBody s_NoText_init) (defScope s_NoText_init) [] [] (He.ma K (He.ga K "NoText") "__init__") fd ∧ Fb P w K mg base 1 (He.ma K (He.ga K "NoText") "__init__") fd ["self", "row"] (sp_NoText_init K) := by
  obtain ⟨fd, F⟩ := T.f_NoText_init
  refine ⟨fd, F, fb_of F sc_NoText_init (fun vs H Q E h => ?_) (fun cdv A outer s H vs Q E hr h => ?_)⟩
  · obtain ⟨a, x, rfl, _⟩ := h
    rfl
  · obtain ⟨a, x, rfl, ha, q⟩ := h
    refine ⟨_, (pss_cons (ps_expr (pe_bxinit baseV (by rfl) T.g_GoingError T.bx_GoingError (pa_cons (pv 0) (pa_cons pe_str pa_nil))))
      (pss_one (ps_bxst baseV (pv 0) (pv 1)))), ?_⟩
    refine ⟨_, rfl, a, _, _, rfl, by show 1 ≤ 1000; decide, T.ox_NoText, ha, _, rfl, _, rfl, a, _, rfl, T.ox_NoText, T.a_NoText_row, ha, q⟩
theorem ok_NoText_init {P : Program} {w : World} {K : PySem.W.Frag} {mg : Str → Option Value} {base : Heap} (T : Env K mg) : Fc P w K mg base 1 (He.ma K (He.ga K "NoText") "__init__") [] (sp_NoText_init K ) := by
  obtain ⟨fd, D, F⟩ := fb_NoText_init T
  exact F.all (D.bindsN fun _ _ _ _ _ _ us hl => match us, hl with | [_, _], _ => rfl)
theorem ok_NoText_init_1_row {P : Program} {w : World} {K : PySem.W.Frag} {mg : Str → Option Value} {base : Heap} (T : Env K mg) : Fc P w K mg base 1 (He.ma K (He.ga K "NoText") "__init__") ["row"] (fun vs H Q E => vs.length = 1 + (["row"] : List Str).length ∧ sp_NoText_init K  (pick [.inl 0, .inl 1] vs []) H Q E) := by
  obtain ⟨fd, D, F⟩ := fb_NoText_init T
  exact Fb.names D F 1 ["row"] (fun us => pick [.inl 0, .inl 1] us []) (fun r1 => pick_vals _ r1 .nil) (fun kV doc pm an cdv ct us ws h1 h2 => match us, ws, h1, h2 with | [_], [_], _, _ => rfl)
end
section
def sp_NoLine_init (K : PySem.W.Frag) : Sp := fun vs H Q _ => ∃ (a : Addr) (x : V), vs = [.ref a, x] ∧ H a = some (exo a (He.ga K "NoLine") none) ∧ ∀ d, H d = none → d ≠ a → Q .non (upd (upd H d (exd d [("name", x)])) a (exo a (He.ga K "NoLine") (some d)))
theorem fb_NoLine_init {P : Program} {w : World} {K : PySem.W.Frag} {mg : Str → Option Value} {base : Heap} (T : Env K mg) : ∃ fd, FunD K "__init__" "NoLine.__init__" (defArgs s_NoLine_init) (defBody s_NoLine_init) (defScope s_NoLine_init) [] [] (He.ma K (He.ga K "NoLine") "__init__") fd ∧ Fb P w K mg base 1 (He.ma K (He.ga K "NoLine") "__init__") fd ["self", "name"] (sp_NoLine_init K) := by
  obtain ⟨fd, F⟩ := T.f_NoLine_init
  refine ⟨fd, F, fb_of F sc_NoLine_init (fun vs H Q E h => ?_) (fun cdv A outer s H vs Q E hr h => ?_)⟩
  · obtain ⟨a, x, rfl, _⟩ := h
    rfl
  · obtain ⟨a, x, rfl, ha, q⟩ := h
    refine ⟨_, (pss_cons (ps_expr (pe_bxinit baseL (by rfl) T.g_LackError T.bx_LackError (pa_cons (pv 0) (pa_cons pe_str pa_nil))))
      (pss_one (ps_bxst baseL (pv 0) (pv 1)))), ?_⟩
    refine ⟨_, rfl, a, _, _, rfl, by show 1 ≤ 1000; decide, T.ox_NoLine, ha, _, rfl, _, rfl, a, _, rfl, T.ox_NoLine, T.a_NoLine_name, ha, q⟩
theorem ok_NoLine_init {P : Program} {w : World} {K : PySem.W.Frag} {mg : Str → Option Value} {base : Heap} (T : Env K mg) : Fc P w K mg base 1 (He.ma K (He.ga K "NoLine") "__init__") [] (sp_NoLine_init K ) := by
  obtain ⟨fd, D, F⟩ := fb_NoLine_init T
  exact F.all (D.bindsN fun _ _ _ _ _ _ us hl => match us, hl with | [_, _], _ => rfl)
theorem ok_NoLine_init_1_name {P : Program} {w : World} {K : PySem.W.Frag} {mg : Str → Option Value} {base : Heap} (T : Env K mg) : Fc P w K mg base 1 (He.ma K (He.ga K "NoLine") "__init__") ["name"] (fun vs H Q E => vs.length = 1 + (["name"] : List Str).length ∧ sp_NoLine_init K  (pick [.inl 0, .inl 1] vs []) H Q E) := by
  obtain ⟨fd, D, F⟩ := fb_NoLine_init T
  exact Fb.names D F 1 ["name"] (fun us => pick [.inl 0, .inl 1] us []) (fun r1 => pick_vals _ r1 .nil) (fun kV doc pm an cdv ct us ws h1 h2 => match us, ws, h1, h2 with | [_], [_], _, _ => rfl)
end
section
def sp_NoGoing_init (K : PySem.W.Frag) : Sp := fun vs H Q _ => ∃ (a : Addr) (x : V), vs = [.ref a, x] ∧ H a = some (exo a (He.ga K "NoGoing") none) ∧ ∀ d, H d = none → d ≠ a → Q .non (upd (upd H d (exd d [("moment", x)])) a (exo a (He.ga K "NoGoing") (some d)))
theorem fb_NoGoing_init {P : Program} {w : World} {K : PySem.W.Frag} {mg : Str → Option Value} {base : Heap} (T : Env K mg) : ∃ fd, FunD K "__init__" "NoGoing.__init__" (defArgs s_NoGoing_init) (defBody s_NoGoing_init) (defScope s_NoGoing_init) [] [] (He.ma K (He.ga K "NoGoing") "__init__") fd ∧ Fb P w K mg base 1 (He.ma K (He.ga K "NoGoing") "__init__") fd ["self", "moment"] (sp_NoGoing_init K) := by
  obtain ⟨fd, F⟩ := T.f_NoGoing_init
  refine ⟨fd, F, fb_of F sc_NoGoing_init (fun vs H Q E h => ?_) (fun cdv A outer s H vs Q E hr h => ?_)⟩
  · obtain ⟨a, x, rfl, _⟩ := h
    rfl
  · obtain ⟨a, x, rfl, ha, q⟩ := h
    refine ⟨_, (pss_cons (ps_expr (pe_bxinit baseL (by rfl) T.g_LackError T.bx_LackError (pa_cons (pv 0) (pa_cons pe_str pa_nil))))
      (pss_one (ps_bxst baseL (pv 0) (pv 1)))), ?_⟩
    refine ⟨_, rfl, a, _, _, rfl, by show 1 ≤ 1000; decide, T.ox_NoGoing, ha, _, rfl, _, rfl, a, _, rfl, T.ox_NoGoing, T.a_NoGoing_moment, ha, q⟩
theorem ok_NoGoing_init {P : Program} {w : World} {K : PySem.W.Frag} {mg : Str → Option Value} {base : Heap} (T : Env K mg) : Fc P w K mg base 1 (He.ma K (He.ga K "NoGoing") "__init__") [] (sp_NoGoing_init K ) := by
  obtain ⟨fd, D, F⟩ := fb_NoGoing_init T
  exact F.all (D.bindsN fun _ _ _ _ _ _ us hl => match us, hl with | [_, _], _ => rfl)
theorem ok_NoGoing_init_1_moment {P : Program} {w : World} {K : PySem.W.Frag} {mg : Str → Option Value} {base : Heap} (T : Env K mg) : Fc P w K mg base 1 (He.ma K (He.ga K "NoGoing") "__init__") ["moment"] (fun vs H Q E => vs.length = 1 + (["moment"] : List Str).length ∧ sp_NoGoing_init K  (pick [.inl 0, .inl 1] vs []) H Q E) := by
  obtain ⟨fd, D, F⟩ := fb_NoGoing_init T
  exact Fb.names D F 1 ["moment"] (fun us => pick [.inl 0, .inl 1] us []) (fun r1 => pick_vals _ r1 .nil) (fun kV doc pm an cdv ct us ws h1 h2 => match us, ws, h1, h2 with | [_], [_], _, _ => rfl)
end
section
def sp_Needed_init (K : PySem.W.Frag) : Sp := fun vs H Q _ => ∃ (a : Addr) (x : V), vs = [.ref a, x] ∧ H a = some (exo a (He.ga K "Needed") none) ∧ ∀ d, H d = none → d ≠ a → Q .non (upd (upd H d (exd d [("name", x)])) a (exo a (He.ga K "Needed") (some d)))
theorem fb_Needed_init {P : Program} {w : World} {K : PySem.W.Frag} {mg : Str → Option Value} {base : Heap} (T : Env K mg) : ∃ fd, FunD K "__init__" "Needed.__init__" (defArgs s_Needed_init) (defBody s_Needed_init) (defScope s_Needed_init) [] [] (He.ma K (He.ga K "Needed") "__init__") fd ∧ Fb P w K mg base 1 (He.ma K (He.ga K "Needed") "__init__") fd ["self", "name"] (sp_Needed_init K) := by
  obtain ⟨fd, F⟩ := T.f_Needed_init
  refine ⟨fd, F, fb_of F sc_Needed_init (fun vs H Q E h => ?_) (fun cdv A outer s H vs Q E hr h => ?_)⟩
  · obtain ⟨a, x, rfl, _⟩ := h
    rfl
  · obtain ⟨a, x, rfl, ha, q⟩ := h
    refine ⟨_, (pss_cons (ps_expr (pe_bxinit baseR (by rfl) T.g_BookError T.bx_BookError (pa_cons (pv 0) (pa_cons pe_str pa_nil))))
      (pss_one (ps_bxst baseR (pv 0) (pv 1)))), ?_⟩
    refine ⟨_, rfl, a, _, _, rfl, by show 1 ≤ 1000; decide, T.ox_Needed, ha, _, rfl, _, rfl, a, _, rfl, T.ox_Needed, T.a_Needed_name, ha, q⟩
theorem ok_Needed_init {P : Program} {w : World} {K : PySem.W.Frag} {mg : Str → Option Value} {base : Heap} (T : Env K mg) : Fc P w K mg base 1 (He.ma K (He.ga K "Needed") "__init__") [] (sp_Needed_init K ) := by
  obtain ⟨fd, D, F⟩ := fb_Needed_init T
  exact F.all (D.bindsN fun _ _ _ _ _ _ us hl => match us, hl with | [_, _], _ => rfl)
theorem ok_Needed_init_1_name {P : Program} {w : World} {K : PySem.W.Frag} {mg : Str → Option Value} {base : Heap} (T : Env K mg) : Fc P w K mg base 1 (He.ma K (He.ga K "Needed") "__init__") ["name"] (fun vs H Q E => vs.length = 1 + (["name"] : List Str).length ∧ sp_Needed_init K  (pick [.inl 0, .inl 1] vs []) H Q E) := by
  obtain ⟨fd, D, F⟩ := fb_Needed_init T
  exact Fb.names D F 1 ["name"] (fun us => pick [.inl 0, .inl 1] us []) (fun r1 => pick_vals _ r1 .nil) (fun kV doc pm an cdv ct us ws h1 h2 => match us, ws, h1, h2 with | [_], [_], _, _ => rfl)
end
section
def sp_Taken_init (K : PySem.W.Frag) : Sp := fun vs H Q _ => ∃ (a : Addr) (x : V), vs = [.ref a, x] ∧ H a = some (exo a (He.ga K "Taken") none) ∧ ∀ d, H d = none → d ≠ a → Q .non (upd (upd H d (exd d [("moment", x)])) a (exo a (He.ga K "Taken") (some d)))
theorem fb_Taken_init {P : Program} {w : World} {K : PySem.W.Frag} {mg : Str → Option Value} {base : Heap} (T : Env K mg) : ∃ fd, FunD K "__init__" "Taken.__init__" (defArgs s_Taken_init) (defBody s_Taken_init) (defScope s_Taken_init) [] [] (He.ma K (He.ga K "Taken") "__init__") fd ∧ Fb P w K mg base 1 (He.ma K (He.ga K "Taken") "__init__") fd ["self", "moment"] (sp_Taken_init K) := by
  obtain ⟨fd, F⟩ := T.f_Taken_init
  refine ⟨fd, F, fb_of F sc_Taken_init (fun vs H Q E h => ?_) (fun cdv A outer s H vs Q E hr h => ?_)⟩
  · obtain ⟨a, x, rfl, _⟩ := h
    rfl
  · obtain ⟨a, x, rfl, ha, q⟩ := h
    refine ⟨_, (pss_cons (ps_expr (pe_bxinit baseR (by rfl) T.g_BookError T.bx_BookError (pa_cons (pv 0) (pa_cons pe_str pa_nil))))
      (pss_one (ps_bxst baseR (pv 0) (pv 1)))), ?_⟩
    refine ⟨_, rfl, a, _, _, rfl, by show 1 ≤ 1000; decide, T.ox_Taken, ha, _, rfl, _, rfl, a, _, rfl, T.ox_Taken, T.a_Taken_moment, ha, q⟩
theorem ok_Taken_init {P : Program} {w : World} {K : PySem.W.Frag} {mg : Str → Option Value} {base : Heap} (T : Env K mg) : Fc P w K mg base 1 (He.ma K (He.ga K "Taken") "__init__") [] (sp_Taken_init K ) := by
  obtain ⟨fd, D, F⟩ := fb_Taken_init T
  exact F.all (D.bindsN fun _ _ _ _ _ _ us hl => match us, hl with | [_, _], _ => rfl)
theorem ok_Taken_init_1_moment {P : Program} {w : World} {K : PySem.W.Frag} {mg : Str → Option Value} {base : Heap} (T : Env K mg) : Fc P w K mg base 1 (He.ma K (He.ga K "Taken") "__init__") ["moment"] (fun vs H Q E => vs.length = 1 + (["moment"] : List Str).length ∧ sp_Taken_init K  (pick [.inl 0, .inl 1] vs []) H Q E) := by
  obtain ⟨fd, D, F⟩ := fb_Taken_init T
  exact Fb.names D F 1 ["moment"] (fun us => pick [.inl 0, .inl 1] us []) (fun r1 => pick_vals _ r1 .nil) (fun kV doc pm an cdv ct us ws h1 h2 => match us, ws, h1, h2 with | [_], [_], _, _ => rfl)
end
section
def sp_Round_init (K : PySem.W.Frag) : Sp := fun vs H Q _ => ∃ (a : Addr) (x : V), vs = [.ref a, x] ∧ H a = some (exo a (He.ga K "Round") none) ∧ ∀ d, H d = none → d ≠ a → Q .non (upd (upd H d (exd d [("chain", x)])) a (exo a (He.ga K "Round") (some d)))
theorem fb_Round_init {P : Program} {w : World} {K : PySem.W.Frag} {mg : Str → Option Value} {base : Heap} (T : Env K mg) : ∃ fd, FunD K "__init__" "Round.__init__" (defArgs s_Round_init) (defBody s_Round_init) (defScope s_Round_init) [] [] (He.ma K (He.ga K "Round") "__init__") fd ∧ Fb P w K mg base 1 (He.ma K (He.ga K "Round") "__init__") fd ["self", "chain"] (sp_Round_init K) := by
  obtain ⟨fd, F⟩ := T.f_Round_init
  refine ⟨fd, F, fb_of F sc_Round_init (fun vs H Q E h => ?_) (fun cdv A outer s H vs Q E hr h => ?_)⟩
  · obtain ⟨a, x, rfl, _⟩ := h
    rfl
  · obtain ⟨a, x, rfl, ha, q⟩ := h
    refine ⟨_, (pss_cons (ps_expr (pe_bxinit baseR (by rfl) T.g_BookError T.bx_BookError (pa_cons (pv 0) (pa_cons pe_str pa_nil))))
      (pss_one (ps_bxst baseR (pv 0) (pv 1)))), ?_⟩
    refine ⟨_, rfl, a, _, _, rfl, by show 1 ≤ 1000; decide, T.ox_Round, ha, _, rfl, _, rfl, a, _, rfl, T.ox_Round, T.a_Round_chain, ha, q⟩
theorem ok_Round_init {P : Program} {w : World} {K : PySem.W.Frag} {mg : Str → Option Value} {base : Heap} (T : Env K mg) : Fc P w K mg base 1 (He.ma K (He.ga K "Round") "__init__") [] (sp_Round_init K ) := by
  obtain ⟨fd, D, F⟩ := fb_Round_init T
  exact F.all (D.bindsN fun _ _ _ _ _ _ us hl => match us, hl with | [_, _], _ => rfl)
theorem ok_Round_init_1_chain {P : Program} {w : World} {K : PySem.W.Frag} {mg : Str → Option Value} {base : Heap} (T : Env K mg) : Fc P w K mg base 1 (He.ma K (He.ga K "Round") "__init__") ["chain"] (fun vs H Q E => vs.length = 1 + (["chain"] : List Str).length ∧ sp_Round_init K  (pick [.inl 0, .inl 1] vs []) H Q E) := by
  obtain ⟨fd, D, F⟩ := fb_Round_init T
  exact Fb.names D F 1 ["chain"] (fun us => pick [.inl 0, .inl 1] us []) (fun r1 => pick_vals _ r1 .nil) (fun kV doc pm an cdv ct us ws h1 h2 => match us, ws, h1, h2 with | [_], [_], _, _ => rfl)
end
section
/-- a pot: what is left of a cell's digits, and what mixes -/
def Pot (H : Hp) (p : Addr) : Prop := ∃ a b c : Int, H p = some (.lst [.int a, .int b, .int c]) ∧ 0 ≤ b ∧ b < 2147483629
def sp__law_pot (K : PySem.W.Frag) : Sp := fun vs H Q _ => ∃ (a : Addr) (ns : List Int) (k : Int), vs = [.ref a, .int k] ∧ SqL K H a (ns.map V.int) ∧ 0 ≤ k ∧ k < 1000 ∧ ∀ p H', H p = none → Pot H' p → (∀ b, b ≠ p → H' b = H b) → Q (.ref p) H'
theorem fb__law_pot {P : Program} {w : World} {K : PySem.W.Frag} {mg : Str → Option Value} {base : Heap} (T : Env K mg) : ∃ fd, FunD K "_law_pot" "_law_pot" (defArgs s__law_pot) (defBody s__law_pot) (defScope s__law_pot) [] [] (He.ga K "_law_pot") fd ∧ Fb P w K mg base 1 (He.ga K "_law_pot") fd ["_law_script", "_law_k"] (sp__law_pot K) := by
  obtain ⟨fd, F⟩ := T.f__law_pot
  refine ⟨fd, F, fb_of F sc__law_pot (fun vs H Q E h => ?_) (fun cdv A outer s H vs Q E hr h => ?_)⟩
  · obtain ⟨a, ns, k, rfl, _⟩ := h
    rfl
  · obtain ⟨a, ns, k, rfl, hS, k0, k1, q⟩ := h
    refine ⟨_, (Evl.pss_cut (ps_set (i := 2) sc__law_pot.nd rfl (Or.inl rfl) (pe_ifExp (pt_cmpR op_lt (pv 1) (pe_callB call_len (by rfl) T.n_len (by decide +kernel) (pa_cons (pv 0) pa_nil)) (nomark _)) (pe_ix ix_list (pv 0) (pv 1) (fun _ _ => rfl)) pe_int))
      (pss_one (ps_ret (pe_lst (pa_cons (pe_callB (call_max2 rfl) (by rfl) T.n_max (by decide +kernel) (pa_cons pe_int (pa_cons (pe_op op_sub (pv 2) (pe_op op_pow pe_int pe_int)) pa_nil))) (pa_cons (pe_op op_mod (pe_op op_pow (pe_op op_add (pe_op op_mul (pe_op op_mod (pv 2) pe_int) pe_int) (pe_op op_mul pe_int (pe_op op_add (pv 1) pe_int))) pe_int) pe_int) (pa_cons pe_int pa_nil))))))), ?_⟩
    refine ⟨fun σ' H' => H' = H ∧ ∃ cell : Int, σ' = [some (.ref a), some (.int k), some (.int cell)], ?_, ?_⟩
    · refine ⟨_, rfl, _, rfl, _, _, rfl, .inl ⟨_, hS, rfl⟩, _, _, rfl, rfl, _, rfl, ite2 (fun c => ?_) (fun c => ?_)⟩
      · have c2 : k < ((ns.map V.int).length : Int) := of_decide_eq_true c
        rw [List.length_map] at c2
        obtain ⟨i, rfl⟩ := Int.eq_ofNat_of_zero_le k0
        have hi : i < ns.length := Int.ofNat_lt.mp c2
        refine ⟨_, rfl, _, rfl, a, _, _, .int ns[i], rfl, rfl, hS, ?_, rfl, ns[i], rfl⟩
        exact atI_nat (by rw [List.getElem?_map, List.getElem?_eq_getElem hi]; rfl)
      · exact ⟨rfl, 0, rfl⟩
    · rintro σ' H' ⟨rfl, cell, rfl⟩
      have m1 := Int.emod_nonneg cell (show (2147483629 : Int) ≠ 0 by decide)
      have m2 := Int.emod_lt_of_pos cell (show (0 : Int) < 2147483629 by decide)
      refine ⟨_, rfl, _, _, rfl, rfl, ⟨by decide, by decide, by decide⟩, _, _, rfl, rfl, _, _, rfl, ?_⟩
      refine ⟨_, rfl, _, _, rfl, rfl, (by show (0 : Int) < 2147483629; decide), _, _, rfl, rfl, .inr (by decide), _, rfl, _, _, rfl, rfl, _, _, rfl, rfl, .inl (by decide), _, _, rfl, rfl, _, _, rfl, rfl, ⟨by decide, by decide, ?_⟩, _, _, rfl, rfl, (by show (0 : Int) < 2147483563; decide), ?_⟩
      · show (cell % 2147483629 * 69621 + 40503 * (k + 1)).natAbs < 2 ^ 64
        omega
      · refine ⟨by show 3 ≤ sizeLine; decide, fun p hp => ?_⟩
        refine q p _ hp ⟨_, _, _, upd_same, Int.emod_nonneg _ (by decide), Int.lt_trans (Int.emod_lt_of_pos _ (by decide)) (by decide)⟩ fun b n => upd_ne n
theorem ok__law_pot {P : Program} {w : World} {K : PySem.W.Frag} {mg : Str → Option Value} {base : Heap} (T : Env K mg) : Fc P w K mg base 1 (He.ga K "_law_pot") [] (sp__law_pot K ) := by
  obtain ⟨fd, D, F⟩ := fb__law_pot T
  exact F.all (D.bindsN fun _ _ _ _ _ _ us hl => match us, hl with | [_, _], _ => rfl)
end
section
/-- the pot at p is drawn from: everything else stays -/
def PotOn (H H' : Hp) (p : Addr) : Prop := Pot H' p ∧ ∀ b o, b ≠ p → H b = some o → H' b = some o
theorem PotOn.refl {H : Hp} {p : Addr} (h : Pot H p) : PotOn H H p := ⟨h, fun _ _ _ e => e⟩
theorem PotOn.trans {H H1 H2 : Hp} {p : Addr} (a : PotOn H H1 p) (b : PotOn H1 H2 p) : PotOn H H2 p := ⟨b.1, fun c o n e => b.2 c o n (a.2 c o n e)⟩
theorem pot_new {H H' : Hp} {p l : Addr} {o : HO} (P : PotOn H H' p) (n : H' l = none) : PotOn H (upd H' l o) p := by
  obtain ⟨⟨x, y, z, e, r⟩, k⟩ := P
  refine ⟨⟨x, y, z, by rw [upd_ne (ne_of_none e n)]; exact e, r⟩, fun b u nb h => ?_⟩
  rw [upd_ne (ne_of_none (k b u nb h) n)]
  exact k b u nb h
def sp__law_take (K : PySem.W.Frag) : Sp := fun vs H Q _ => ∃ (p : Addr) (n : Int), vs = [.ref p, .int n] ∧ Pot H p ∧ 0 < n ∧ n < 1073741824 ∧ ∀ (d : Int) H', 0 ≤ d → d < n → PotOn H H' p → Q (.int d) H'
theorem fb__law_take {P : Program} {w : World} {K : PySem.W.Frag} {mg : Str → Option Value} {base : Heap} (T : Env K mg) : ∃ fd, FunD K "_law_take" "_law_take" (defArgs s__law_take) (defBody s__law_take) (defScope s__law_take) [] [] (He.ga K "_law_take") fd ∧ Fb P w K mg base 1 (He.ga K "_law_take") fd ["_law_pot_here", "_law_many"] (sp__law_take K) := by
  obtain ⟨fd, F⟩ := T.f__law_take
  refine ⟨fd, F, fb_of F sc__law_take (fun vs H Q E h => ?_) (fun cdv A outer s H vs Q E hr h => ?_)⟩
  · obtain ⟨p, n, rfl, _⟩ := h
    rfl
  · obtain ⟨p, n, rfl, ⟨a, b, c, hp, b0, b1⟩, n0, n1, q⟩ := h
    refine ⟨_, (pss_cons (ps_if (pt_cmpR op_gt (pe_ix ix_list (pv 0) pe_int (fun _ _ => rfl)) pe_int (nomark _))
      (pss_cons (ps_asg (pe_callB call_divmodW (by rfl) T.n_divmod (by decide +kernel) (pa_cons (pe_ix ix_list (pv 0) pe_int (fun _ _ => rfl)) (pa_cons (pv 1) pa_nil))) (pg_tup (by rfl) (pgs_cons (pg_sub (pv 0) pe_int set_list) (pgs_cons (pg_name (i := 2) sc__law_take.nd rfl (Or.inl rfl)) pgs_nil))))
      (pss_one (ps_ret (pv 2))))
      pss_nil)
      (pss_cons (ps_asg (pe_op op_add (pe_ix ix_list (pv 0) pe_int (fun _ _ => rfl)) pe_int) (pg_sub (pv 0) pe_int set_list))
      (pss_cons (ps_asg (pe_op op_mod (pe_op op_add (pe_op op_mul (pe_ix ix_list (pv 0) pe_int (fun _ _ => rfl)) pe_int) (pe_op op_mul pe_int (pe_ix ix_list (pv 0) pe_int (fun _ _ => rfl)))) pe_int) (pg_sub (pv 0) pe_int set_list))
      (pss_one (ps_ret (pe_op op_mod (pe_op op_fdiv (pe_op op_mod (pe_op op_mul (pe_ix ix_list (pv 0) pe_int (fun _ _ => rfl)) (pe_ix ix_list (pv 0) pe_int (fun _ _ => rfl))) pe_int) pe_int) (pv 1))))))), ?_⟩
    refine ⟨_, rfl, p, _, _, .int a, rfl, rfl, sq_lst hp, rfl, _, _, rfl, rfl, _, rfl, ite2 (fun _ => ?_) (fun _ => ?_)⟩
    · refine ⟨_, rfl, p, _, _, .int a, rfl, rfl, sq_lst hp, rfl, _, rfl, a, n, rfl, ⟨n0, PyProof.noPylong_small (by omega)⟩, fun t ht => ?_⟩
      have pt : p ≠ t := ne_of_none hp ht
      refine ⟨t, _, rfl, sq_tup upd_same, rfl, _, _, rfl, _, rfl, p, [.int a, .int b, .int c], 0, 0, rfl, rfl, (by rw [upd_ne pt]; exact hp), rfl, _, _, rfl, rfl, _, rfl, ?_⟩
      refine q _ _ (Int.emod_nonneg _ (by omega)) (Int.emod_lt_of_pos _ n0) ⟨⟨_, _, _, upd_same, b0, b1⟩, fun x o nx e => ?_⟩
      rw [upd_ne nx, upd_ne (ne_of_none e ht)]
      exact e
    · refine ⟨_, rfl, p, _, _, .int c, rfl, rfl, sq_lst hp, rfl, _, _, rfl, rfl, _, rfl, p, _, 2, 2, rfl, rfl, hp, rfl, ?_⟩
      refine ⟨_, rfl, p, _, _, .int b, rfl, rfl, sq_lst upd_same, rfl, _, _, rfl, rfl, .inr (by decide), _, rfl, p, _, _, .int (c + 1), rfl, rfl, sq_lst upd_same, rfl, _, _, rfl, rfl, .inl (by decide), _, _, rfl, rfl, _, _, rfl, rfl, (by show (0 : Int) < 2147483629; decide), _, rfl, p, _, 1, 1, rfl, rfl, upd_same, rfl, ?_⟩
      have m1 := Int.emod_nonneg (b * 48271 + 11213 * (c + 1)) (show (2147483629 : Int) ≠ 0 by decide)
      have m2 := Int.emod_lt_of_pos (b * 48271 + 11213 * (c + 1)) (show (0 : Int) < 2147483629 by decide)
      refine ⟨_, rfl, p, _, _, .int ((b * 48271 + 11213 * (c + 1)) % 2147483629), rfl, rfl, sq_lst upd_same, rfl, _, rfl, p, _, _, .int ((b * 48271 + 11213 * (c + 1)) % 2147483629), rfl, rfl, sq_lst upd_same, rfl, _, _, rfl, rfl, .inl ⟨by omega, by omega⟩, _, _, rfl, rfl, (by show (0 : Int) < 2147483587; decide), _, _, rfl, rfl, ⟨by decide, by decide⟩, _, rfl, _, _, rfl, rfl, n0, ?_⟩
      refine q _ _ (Int.emod_nonneg _ (by omega)) (Int.emod_lt_of_pos _ n0) ⟨⟨_, _, _, upd_same, m1, m2⟩, fun x o nx e => ?_⟩
      rw [upd_ne nx, upd_ne nx]
      exact e
theorem PotOn.ex {H0 H H' : Hp} {p : Addr} (e : Ex H0 H) (n : H0 p = none) (P : PotOn H H' p) : Ex H0 H' := fun b o h => P.2 b o (ne_of_none h n) (e b o h)
theorem pot_upd {H H' : Hp} {p l : Addr} {o : HO} (P : PotOn H H' p) (n : H l = none) (ne : l ≠ p) : PotOn H (upd H' l o) p := by
  obtain ⟨⟨x, y, z, e, r⟩, k⟩ := P
  refine ⟨⟨x, y, z, by rw [upd_ne (Ne.symm ne)]; exact e, r⟩, fun b u nb h => ?_⟩
  rw [upd_ne (ne_of_none h n)]
  exact k b u nb h
theorem PotOn.ex2 {H H1 H2 : Hp} {p : Addr} (P : PotOn H H1 p) (e : Ex H1 H2) : PotOn H H2 p := by
  obtain ⟨⟨x, y, z, h, r⟩, k⟩ := P
  exact ⟨⟨x, y, z, e _ _ h, r⟩, fun b u nb h => e _ _ (k b u nb h)⟩
theorem pot_ne {H H' : Hp} {p l : Addr} (P : PotOn H H' p) (n : H' l = none) : l ≠ p := fun z => by
  obtain ⟨_, _, _, e, _⟩ := P.1
  rw [z, e] at n
  cases n
theorem PotOn.fresh {H H' : Hp} {p b : Addr} (P : PotOn H H' p) (n : H' b = none) : H b = none := by
  cases e : H b with
  | none => rfl
  | some o =>
    by_cases hb : b = p
    · obtain ⟨_, _, _, e2, _⟩ := P.1
      rw [hb, e2] at n
      cases n
    · rw [P.2 b o hb e] at n
      cases n
theorem pot_other {H : Hp} {p b : Addr} {o : HO} (hp : Pot H p) (h : H b = some o) (ho : ∀ x y z : Int, o ≠ .lst [.int x, .int y, .int z]) : b ≠ p := fun w => by
  obtain ⟨x, y, z, e, _⟩ := hp
  rw [w, e] at h
  exact ho x y z (Option.some.inj h).symm
theorem ok__law_take {P : Program} {w : World} {K : PySem.W.Frag} {mg : Str → Option Value} {base : Heap} (T : Env K mg) : Fc P w K mg base 1 (He.ga K "_law_take") [] (sp__law_take K ) := by
  obtain ⟨fd, D, F⟩ := fb__law_take T
  exact F.all (D.bindsN fun _ _ _ _ _ _ us hl => match us, hl with | [_, _], _ => rfl)
end
section
def sp__law_great (K : PySem.W.Frag) : Sp := fun vs H Q _ => ∃ (p : Addr) (n : Int), vs = [.ref p, .int n] ∧ Pot H p ∧ 0 < n ∧ ∀ (d : Int) H', 0 ≤ d → d < n → PotOn H H' p → Q (.int d) H'
theorem fb__law_great {P : Program} {w : World} {K : PySem.W.Frag} {mg : Str → Option Value} {base : Heap} (T : Env K mg) : ∃ fd, FunD K "_law_great" "_law_great" (defArgs s__law_great) (defBody s__law_great) (defScope s__law_great) [] [] (He.ga K "_law_great") fd ∧ Fb P w K mg base 2 (He.ga K "_law_great") fd ["_law_pot_here", "_law_bound"] (sp__law_great K) := by
  obtain ⟨fd, F⟩ := T.f__law_great
  refine ⟨fd, F, fb_of F sc__law_great (fun vs H Q E h => ?_) (fun cdv A outer s H vs Q E hr h => ?_)⟩
  · obtain ⟨p, n, rfl, _⟩ := h
    rfl
  · obtain ⟨p, n, rfl, hp, n0, q⟩ := h
    refine ⟨_, (pss_cons (ps_set (i := 2) sc__law_great.nd rfl (Or.inl rfl) pe_int)
      (pss_cons (ps_for (passes_of rfl) rfl (pi_range1 (by rfl) T.n_range (pa_cons pe_int pa_nil)) (pg_name (i := 3) sc__law_great.nd rfl (Or.inl rfl))
      (pss_one (ps_set (i := 2) sc__law_great.nd rfl (Or.inl rfl) (pe_op op_add (pe_op op_mul (pv 2) (pe_op op_pow pe_int pe_int)) (c_call (ok__law_take T) (hr.mono (by decide)) T.g__law_take T.k__law_take takes0 (pa_cons (pv 0) (pa_cons (pe_op op_pow pe_int pe_int) pa_nil)))))))
      (pss_one (ps_ret (pe_op op_mod (pv 2) (pv 1)))))), ?_⟩
    refine ⟨7, rfl, by decide, by decide, for_range (n := 7) (fun i σ H' => PotOn H H' p ∧ ∃ (f : Int) (v : Option V), σ = [some (.ref p), some (.int n), some (.int f), v] ∧ 0 ≤ f) ⟨.refl hp, 0, none, rfl, Int.le_refl _⟩ ?_ ?_⟩
    · rintro i σ H1 hi ⟨P1, f, v, rfl, f0⟩
      refine ⟨_, rfl, _, _, rfl, rfl, ⟨by decide, by decide, by decide⟩, _, _, rfl, rfl, .inr (by decide), _, rfl, _, _, rfl, rfl, ⟨by decide, by decide, by decide⟩, p, _, rfl, P1.1, by decide, by decide, fun d H2 d0 d1 P2 => ?_⟩
      refine ⟨_, _, rfl, rfl, P1.trans P2, _, _, rfl, ?_⟩
      have : (0 : Int) ≤ f * 10 ^ (9 : Int).toNat := Int.mul_nonneg f0 (by decide)
      omega
    · rintro σ H1 ⟨P1, f, v, rfl, f0⟩
      refine ⟨_, rfl, _, rfl, _, _, rfl, rfl, n0, ?_⟩
      exact q _ _ (Int.emod_nonneg _ (by omega)) (Int.emod_lt_of_pos _ n0) P1
theorem ok__law_great {P : Program} {w : World} {K : PySem.W.Frag} {mg : Str → Option Value} {base : Heap} (T : Env K mg) : Fc P w K mg base 2 (He.ga K "_law_great") [] (sp__law_great K ) := by
  obtain ⟨fd, D, F⟩ := fb__law_great T
  exact F.all (D.bindsN fun _ _ _ _ _ _ us hl => match us, hl with | [_, _], _ => rfl)
end
section
theorem joinL_ones : ∀ l : List Nat, TL.joinL [] (l.map fun c => [c]) = l
  | [] => rfl
  | [c] => rfl
  | c :: d :: r => by
    show [c] ++ [] ++ TL.joinL [] ((d :: r).map fun c => [c]) = _
    rw [joinL_ones (d :: r)]
    rfl
theorem join_signs (l : List Nat) : Txt.join (Str.ofString "") (l.map fun c => SX.S [c]) = SX.S l := by
  have e := SX.join_S [] (l.map fun c => [c])
  rw [List.map_map, joinL_ones] at e
  exact e
end
section
/-- a name: one to eight small letters -/
def nmN (w : List Nat) : Bool := decide (1 ≤ w.length) && (decide (w.length ≤ 8) && w.all fun c => decide (97 ≤ c) && decide (c < 123))
def isNm : V → Bool
  | .str z => nmN z.cps.toList
  | _ => false
/-- a text, or what is none -/
def ClS (K : PySem.W.Frag) (H : Hp) (x : V) : Prop := (∃ z : Str, x = .str z ∧ z.length ≤ 10000) ∨ ((∀ z, x ≠ .str z) ∧ ∃ t, TyX K H x t ∧ PySem.W.kitOne K t (.type "str") = some false)
theorem ClS.mono {K : PySem.W.Frag} {H H' : Hp} {x : V} (h : ClS K H x) (e : Ex H H') : ClS K H' x := h.imp id fun ⟨n, t, ty, k⟩ => ⟨n, t, tyX_mono e ty, k⟩
/-- the texts of a row of texts -/
def strL : List V → List Str
  | [] => []
  | .str z :: r => z :: strL r
  | _ :: r => strL r
/-- the notes that a row of things stands for, or none -/
def notesR (xs : List V) : Option (List Str) := if xs.all isNm then (if (strL xs).Nodup then some (srtS (strL xs)) else none) else none
/-- what notes_of makes of a thing -/
def NtX (K : PySem.W.Frag) (H : Hp) (y : V) (r : Option (List Str)) : Prop :=
  (y = .non ∧ r = some []) ∨ (∃ a xs, y = .ref a ∧ (H a = some (.lst xs) ∨ H a = some (.tup xs)) ∧ xs.length ≤ 1000 ∧ (∀ v ∈ xs, ClS K H v) ∧ r = notesR xs) ∨
  (y ≠ .non ∧ ∃ t, TyX K H y t ∧ PySem.W.kitAny K t [.type "list", .type "tuple"] = some false ∧ r = none)
theorem NtX.mono {K : PySem.W.Frag} {H H' : Hp} {y : V} {r : Option (List Str)} (h : NtX K H y r) (e : Ex H H') : NtX K H' y r := by
  rcases h with h | ⟨a, xs, rfl, h1, h2, h3, h4⟩ | ⟨n, t, ty, k, h⟩
  · exact .inl h
  · exact .inr (.inl ⟨a, xs, rfl, h1.imp (e _ _) (e _ _), h2, fun v hv => (h3 v hv).mono e, h4⟩)
  · exact .inr (.inr ⟨n, t, tyX_mono e ty, k, h⟩)
/-- a row of names -/
def Nms (ws : List Str) : Prop := ∀ z ∈ ws, nmN z.cps.toList = true
theorem nm_facts {w : List Nat} (h : nmN w = true) : 1 ≤ w.length ∧ w.length ≤ 8 ∧ ∀ c ∈ w, 97 ≤ c ∧ c < 123 := by
  unfold nmN at h
  simp only [Bool.and_eq_true, decide_eq_true_eq, List.all_eq_true] at h
  exact ⟨h.1, h.2.1, h.2.2⟩
end
section
theorem abc_at (d : Nat) (h : d < 26) : atI (Str.ofString "abcdefghijklmnopqrstuvwxyz").cps.toList (d : Int) = some (97 + d) := by
  have z : ∀ d ∈ List.range 26, atI (Str.ofString "abcdefghijklmnopqrstuvwxyz").cps.toList ((d : Nat) : Int) = some (97 + d) := by decide +kernel
  exact z d (List.mem_range.mpr h)
theorem lens_one : ∀ l : List Nat, ((l.map (fun c => SX.S [c])).map (·.length)).sum = l.length
  | [] => rfl
  | c :: r => by
    have := lens_one r
    show 1 + ((r.map (fun c => SX.S [c])).map (·.length)).sum = r.length + 1
    omega
def sp__law_name (K : PySem.W.Frag) : Sp := fun vs H Q _ => ∃ (p : Addr), vs = [.ref p] ∧ Pot H p ∧ ∀ (z : Str) H', nmN z.cps.toList = true → PotOn H H' p → Q (.str z) H'
theorem fb__law_name {P : Program} {w : World} {K : PySem.W.Frag} {mg : Str → Option Value} {base : Heap} (T : Env K mg) : ∃ fd, FunD K "_law_name" "_law_name" (defArgs s__law_name) (defBody s__law_name) (defScope s__law_name) [] [] (He.ga K "_law_name") fd ∧ Fb P w K mg base 2 (He.ga K "_law_name") fd ["_law_pot_here"] (sp__law_name K) := by
  obtain ⟨fd, F⟩ := T.f__law_name
  refine ⟨fd, F, fb_of F sc__law_name (fun vs H Q E h => ?_) (fun cdv A outer s H vs Q E hr h => ?_)⟩
  · obtain ⟨p, rfl, _⟩ := h
    rfl
  · obtain ⟨p, rfl, hp, q⟩ := h
    refine ⟨_, (pss_cons (ps_set (i := 1) sc__law_name.nd rfl (Or.inr rfl) pe_str)
      (pss_one (ps_ret (pe_join pe_str (pe_lc (own := [("_law_k", 2)]) (by rfl) sc__law_name.nd (pi_range1 (by rfl) T.n_range (pa_cons (pe_op op_add pe_int (c_call (ok__law_take T) (hr.mono (by decide)) T.g__law_take T.k__law_take takes0 (pa_cons (pv 0) (pa_cons pe_int pa_nil)))) pa_nil)) (blkOk_by (own := [("_law_k", 2)]) (N := ["_law_pot_here", "_law_letters", "_law_k"]) (sc := defScope s__law_name) (by decide +kernel)) (fun _ _ _ _ _ => (pg_name (i := 2) sc__law_name.nd rfl (Or.inl rfl))) (fun _ _ _ _ _ => pts_nil) (fun _ _ _ _ _ => (pe_ix ix_str (pv 1) (c_call (ok__law_take T) (hr.mono (by decide)) T.g__law_take T.k__law_take takes0 (pa_cons (pv 0) (pa_cons pe_int pa_nil))) (fun _ _ => rfl)))))))), ?_⟩
    refine ⟨⟨_, rfl⟩, _, rfl, p, 8, rfl, hp, (by decide), (by decide), fun s H1 s0 s1 P1 => ?_⟩
    obtain ⟨s, rfl⟩ := Int.eq_ofNat_of_zero_le s0
    refine ⟨_, _, rfl, rfl, _, rfl, (by omega), (by omega), fun D nD => ?_⟩
    have Dp : D ≠ p := pot_ne P1 nD
    have nD0 : H D = none := P1.fresh nD
    refine lc_any (n := (1 + (s : Int)).toNat) (J := Itr 0 (1 + (s : Int)).toNat) L2.walk_range (fun i acc G => PotOn H G p ∧ ∃ l : List Nat, acc = l.map (fun c => V.str (SX.S [c])) ∧ l.length = i ∧ ∀ c ∈ l, 97 ≤ c ∧ c < 123) (fun i acc G l e => ⟨pot_upd e.1 nD0 Dp, e.2⟩) ⟨P1, [], rfl, rfl, nofun⟩ (by omega) (fun i acc G e => ?_) (fun _ _ _ _ => trivial) (fun i x H2 H3 acc N hi e hD la y k _ => ?_) (fun acc H2 e hD => ?_)
    · obtain ⟨_, l, rfl, hl, _⟩ := e
      simp [hl]
    · obtain ⟨rfl, rfl⟩ := y
      obtain ⟨P2, l, rfl, hl, ha⟩ := e
      refine ⟨rfl, _, rfl, _, rfl, p, 26, rfl, P2.1, (by decide), (by decide), fun c H5 c0 c1 P5 => ?_⟩
      obtain ⟨c, rfl⟩ := Int.eq_ofNat_of_zero_le c0
      have hD5 := P5.2 _ _ Dp hD
      refine ⟨_, _, _, rfl, rfl, by decide, abc_at c (by omega), _, hD5, la, ?_⟩
      exact k _ H5 hD5 ⟨P2.trans P5, l ++ [97 + c], by simp, by simp [hl], fun x hx => (List.mem_append.mp hx).elim (ha x) fun z => by
        rw [List.mem_singleton.mp z]
        omega⟩
    · obtain ⟨P2, l, rfl, hl, ha⟩ := e
      refine ⟨_, _, l.map (fun c => SX.S [c]), rfl, rfl, .inl (sq_lst (by rw [hD, List.map_map]; rfl)), ?_, ?_⟩
      · rw [lens_one, List.length_map]
        have z : (Str.ofString "").length = 0 := rfl
        rw [z]
        omega
      rw [join_signs]
      refine q (SX.S l) H2 ?_ P2
      show nmN l = true
      unfold nmN
      rw [decide_eq_true (by omega), decide_eq_true (by omega), Bool.true_and, Bool.true_and, List.all_eq_true]
      exact fun c hc => by
        have := ha c hc
        rw [decide_eq_true (by omega), decide_eq_true (by omega)]
        rfl
theorem ok__law_name {P : Program} {w : World} {K : PySem.W.Frag} {mg : Str → Option Value} {base : Heap} (T : Env K mg) : Fc P w K mg base 2 (He.ga K "_law_name") [] (sp__law_name K ) := by
  obtain ⟨fd, D, F⟩ := fb__law_name T
  exact F.all (D.bindsN fun _ _ _ _ _ _ us hl => match us, hl with | [_], _ => rfl)
end
section
def rsC : Nat → String
  | 0 => "NoTime"
  | 1 => "NoPiece"
  | 2 => "NoDays"
  | 3 => "NoCard"
  | 4 => "NoName"
  | 5 => "NoRow"
  | 6 => "TooMuch"
  | 7 => "NoText"
  | 8 => "NoLine"
  | 9 => "NoGoing"
  | 10 => "Needed"
  | 11 => "Taken"
  | _ => "Round"
def rsF : Nat → String
  | 7 => "row"
  | 8 => "name"
  | 9 => "moment"
  | 10 => "name"
  | 11 => "moment"
  | _ => "chain"
def baI (i : Nat) : Nat := if i = 6 ∨ 9 < i then 15 else if 7 < i then 14 else 13
def dueV (i : Nat) : List V := [.int (i : Nat), .int (baI i : Nat), .int (baI i + 3 : Nat)]
/-- the classes that are asked of, in order -/
def kindV (K : PySem.W.Frag) : List Value := [.ref (He.ga K "NoTime"), .ref (He.ga K "NoPiece"), .ref (He.ga K "NoDays"), .ref (He.ga K "NoCard"), .ref (He.ga K "NoName"), .ref (He.ga K "NoRow"), .ref (He.ga K "TooMuch"), .ref (He.ga K "NoText"), .ref (He.ga K "NoLine"), .ref (He.ga K "NoGoing"), .ref (He.ga K "Needed"), .ref (He.ga K "Taken"), .ref (He.ga K "Round"), .ref (He.ga K "GoingError"), .ref (He.ga K "LackError"), .ref (He.ga K "BookError"), .type "ValueError", .type "LookupError", .type "RuntimeError"]
def Kinds (K : PySem.W.Frag) (D : Addr) (bs : List Bool) : Prop := Paired (fun c b => PySem.W.kitOne K (.ref D) c = some b) (kindV K) bs
def bitsK (i : Nat) : List Bool := (List.range 19).map fun j => decide (j = i ∨ j = baI i ∨ j = baI i + 3)
theorem kin_NoTime {K : PySem.W.Frag} {mg : Str → Option Value} (T : Env K mg) : Kinds K (He.ga K "NoTime") (bitsK 0) := .cons T.kit_NoTime_NoTime (.cons T.kit_NoTime_NoPiece (.cons T.kit_NoTime_NoDays (.cons T.kit_NoTime_NoCard (.cons T.kit_NoTime_NoName (.cons T.kit_NoTime_NoRow (.cons T.kit_NoTime_TooMuch (.cons T.kit_NoTime_NoText (.cons T.kit_NoTime_NoLine (.cons T.kit_NoTime_NoGoing (.cons T.kit_NoTime_Needed (.cons T.kit_NoTime_Taken (.cons T.kit_NoTime_Round (.cons T.kit_NoTime_GoingError (.cons T.kit_NoTime_LackError (.cons T.kit_NoTime_BookError (.cons T.kit_NoTime_ValueError (.cons T.kit_NoTime_LookupError (.cons T.kit_NoTime_RuntimeError (.nil)))))))))))))))))))
theorem kin_NoPiece {K : PySem.W.Frag} {mg : Str → Option Value} (T : Env K mg) : Kinds K (He.ga K "NoPiece") (bitsK 1) := .cons T.kit_NoPiece_NoTime (.cons T.kit_NoPiece_NoPiece (.cons T.kit_NoPiece_NoDays (.cons T.kit_NoPiece_NoCard (.cons T.kit_NoPiece_NoName (.cons T.kit_NoPiece_NoRow (.cons T.kit_NoPiece_TooMuch (.cons T.kit_NoPiece_NoText (.cons T.kit_NoPiece_NoLine (.cons T.kit_NoPiece_NoGoing (.cons T.kit_NoPiece_Needed (.cons T.kit_NoPiece_Taken (.cons T.kit_NoPiece_Round (.cons T.kit_NoPiece_GoingError (.cons T.kit_NoPiece_LackError (.cons T.kit_NoPiece_BookError (.cons T.kit_NoPiece_ValueError (.cons T.kit_NoPiece_LookupError (.cons T.kit_NoPiece_RuntimeError (.nil)))))))))))))))))))
theorem kin_NoDays {K : PySem.W.Frag} {mg : Str → Option Value} (T : Env K mg) : Kinds K (He.ga K "NoDays") (bitsK 2) := .cons T.kit_NoDays_NoTime (.cons T.kit_NoDays_NoPiece (.cons T.kit_NoDays_NoDays (.cons T.kit_NoDays_NoCard (.cons T.kit_NoDays_NoName (.cons T.kit_NoDays_NoRow (.cons T.kit_NoDays_TooMuch (.cons T.kit_NoDays_NoText (.cons T.kit_NoDays_NoLine (.cons T.kit_NoDays_NoGoing (.cons T.kit_NoDays_Needed (.cons T.kit_NoDays_Taken (.cons T.kit_NoDays_Round (.cons T.kit_NoDays_GoingError (.cons T.kit_NoDays_LackError (.cons T.kit_NoDays_BookError (.cons T.kit_NoDays_ValueError (.cons T.kit_NoDays_LookupError (.cons T.kit_NoDays_RuntimeError (.nil)))))))))))))))))))
theorem kin_NoCard {K : PySem.W.Frag} {mg : Str → Option Value} (T : Env K mg) : Kinds K (He.ga K "NoCard") (bitsK 3) := .cons T.kit_NoCard_NoTime (.cons T.kit_NoCard_NoPiece (.cons T.kit_NoCard_NoDays (.cons T.kit_NoCard_NoCard (.cons T.kit_NoCard_NoName (.cons T.kit_NoCard_NoRow (.cons T.kit_NoCard_TooMuch (.cons T.kit_NoCard_NoText (.cons T.kit_NoCard_NoLine (.cons T.kit_NoCard_NoGoing (.cons T.kit_NoCard_Needed (.cons T.kit_NoCard_Taken (.cons T.kit_NoCard_Round (.cons T.kit_NoCard_GoingError (.cons T.kit_NoCard_LackError (.cons T.kit_NoCard_BookError (.cons T.kit_NoCard_ValueError (.cons T.kit_NoCard_LookupError (.cons T.kit_NoCard_RuntimeError (.nil)))))))))))))))))))
theorem kin_NoName {K : PySem.W.Frag} {mg : Str → Option Value} (T : Env K mg) : Kinds K (He.ga K "NoName") (bitsK 4) := .cons T.kit_NoName_NoTime (.cons T.kit_NoName_NoPiece (.cons T.kit_NoName_NoDays (.cons T.kit_NoName_NoCard (.cons T.kit_NoName_NoName (.cons T.kit_NoName_NoRow (.cons T.kit_NoName_TooMuch (.cons T.kit_NoName_NoText (.cons T.kit_NoName_NoLine (.cons T.kit_NoName_NoGoing (.cons T.kit_NoName_Needed (.cons T.kit_NoName_Taken (.cons T.kit_NoName_Round (.cons T.kit_NoName_GoingError (.cons T.kit_NoName_LackError (.cons T.kit_NoName_BookError (.cons T.kit_NoName_ValueError (.cons T.kit_NoName_LookupError (.cons T.kit_NoName_RuntimeError (.nil)))))))))))))))))))
theorem kin_NoRow {K : PySem.W.Frag} {mg : Str → Option Value} (T : Env K mg) : Kinds K (He.ga K "NoRow") (bitsK 5) := .cons T.kit_NoRow_NoTime (.cons T.kit_NoRow_NoPiece (.cons T.kit_NoRow_NoDays (.cons T.kit_NoRow_NoCard (.cons T.kit_NoRow_NoName (.cons T.kit_NoRow_NoRow (.cons T.kit_NoRow_TooMuch (.cons T.kit_NoRow_NoText (.cons T.kit_NoRow_NoLine (.cons T.kit_NoRow_NoGoing (.cons T.kit_NoRow_Needed (.cons T.kit_NoRow_Taken (.cons T.kit_NoRow_Round (.cons T.kit_NoRow_GoingError (.cons T.kit_NoRow_LackError (.cons T.kit_NoRow_BookError (.cons T.kit_NoRow_ValueError (.cons T.kit_NoRow_LookupError (.cons T.kit_NoRow_RuntimeError (.nil)))))))))))))))))))
theorem kin_TooMuch {K : PySem.W.Frag} {mg : Str → Option Value} (T : Env K mg) : Kinds K (He.ga K "TooMuch") (bitsK 6) := .cons T.kit_TooMuch_NoTime (.cons T.kit_TooMuch_NoPiece (.cons T.kit_TooMuch_NoDays (.cons T.kit_TooMuch_NoCard (.cons T.kit_TooMuch_NoName (.cons T.kit_TooMuch_NoRow (.cons T.kit_TooMuch_TooMuch (.cons T.kit_TooMuch_NoText (.cons T.kit_TooMuch_NoLine (.cons T.kit_TooMuch_NoGoing (.cons T.kit_TooMuch_Needed (.cons T.kit_TooMuch_Taken (.cons T.kit_TooMuch_Round (.cons T.kit_TooMuch_GoingError (.cons T.kit_TooMuch_LackError (.cons T.kit_TooMuch_BookError (.cons T.kit_TooMuch_ValueError (.cons T.kit_TooMuch_LookupError (.cons T.kit_TooMuch_RuntimeError (.nil)))))))))))))))))))
theorem kin_NoText {K : PySem.W.Frag} {mg : Str → Option Value} (T : Env K mg) : Kinds K (He.ga K "NoText") (bitsK 7) := .cons T.kit_NoText_NoTime (.cons T.kit_NoText_NoPiece (.cons T.kit_NoText_NoDays (.cons T.kit_NoText_NoCard (.cons T.kit_NoText_NoName (.cons T.kit_NoText_NoRow (.cons T.kit_NoText_TooMuch (.cons T.kit_NoText_NoText (.cons T.kit_NoText_NoLine (.cons T.kit_NoText_NoGoing (.cons T.kit_NoText_Needed (.cons T.kit_NoText_Taken (.cons T.kit_NoText_Round (.cons T.kit_NoText_GoingError (.cons T.kit_NoText_LackError (.cons T.kit_NoText_BookError (.cons T.kit_NoText_ValueError (.cons T.kit_NoText_LookupError (.cons T.kit_NoText_RuntimeError (.nil)))))))))))))))))))
theorem kin_NoLine {K : PySem.W.Frag} {mg : Str → Option Value} (T : Env K mg) : Kinds K (He.ga K "NoLine") (bitsK 8) := .cons T.kit_NoLine_NoTime (.cons T.kit_NoLine_NoPiece (.cons T.kit_NoLine_NoDays (.cons T.kit_NoLine_NoCard (.cons T.kit_NoLine_NoName (.cons T.kit_NoLine_NoRow (.cons T.kit_NoLine_TooMuch (.cons T.kit_NoLine_NoText (.cons T.kit_NoLine_NoLine (.cons T.kit_NoLine_NoGoing (.cons T.kit_NoLine_Needed (.cons T.kit_NoLine_Taken (.cons T.kit_NoLine_Round (.cons T.kit_NoLine_GoingError (.cons T.kit_NoLine_LackError (.cons T.kit_NoLine_BookError (.cons T.kit_NoLine_ValueError (.cons T.kit_NoLine_LookupError (.cons T.kit_NoLine_RuntimeError (.nil)))))))))))))))))))
theorem kin_NoGoing {K : PySem.W.Frag} {mg : Str → Option Value} (T : Env K mg) : Kinds K (He.ga K "NoGoing") (bitsK 9) := .cons T.kit_NoGoing_NoTime (.cons T.kit_NoGoing_NoPiece (.cons T.kit_NoGoing_NoDays (.cons T.kit_NoGoing_NoCard (.cons T.kit_NoGoing_NoName (.cons T.kit_NoGoing_NoRow (.cons T.kit_NoGoing_TooMuch (.cons T.kit_NoGoing_NoText (.cons T.kit_NoGoing_NoLine (.cons T.kit_NoGoing_NoGoing (.cons T.kit_NoGoing_Needed (.cons T.kit_NoGoing_Taken (.cons T.kit_NoGoing_Round (.cons T.kit_NoGoing_GoingError (.cons T.kit_NoGoing_LackError (.cons T.kit_NoGoing_BookError (.cons T.kit_NoGoing_ValueError (.cons T.kit_NoGoing_LookupError (.cons T.kit_NoGoing_RuntimeError (.nil)))))))))))))))))))
theorem kin_Needed {K : PySem.W.Frag} {mg : Str → Option Value} (T : Env K mg) : Kinds K (He.ga K "Needed") (bitsK 10) := .cons T.kit_Needed_NoTime (.cons T.kit_Needed_NoPiece (.cons T.kit_Needed_NoDays (.cons T.kit_Needed_NoCard (.cons T.kit_Needed_NoName (.cons T.kit_Needed_NoRow (.cons T.kit_Needed_TooMuch (.cons T.kit_Needed_NoText (.cons T.kit_Needed_NoLine (.cons T.kit_Needed_NoGoing (.cons T.kit_Needed_Needed (.cons T.kit_Needed_Taken (.cons T.kit_Needed_Round (.cons T.kit_Needed_GoingError (.cons T.kit_Needed_LackError (.cons T.kit_Needed_BookError (.cons T.kit_Needed_ValueError (.cons T.kit_Needed_LookupError (.cons T.kit_Needed_RuntimeError (.nil)))))))))))))))))))
theorem kin_Taken {K : PySem.W.Frag} {mg : Str → Option Value} (T : Env K mg) : Kinds K (He.ga K "Taken") (bitsK 11) := .cons T.kit_Taken_NoTime (.cons T.kit_Taken_NoPiece (.cons T.kit_Taken_NoDays (.cons T.kit_Taken_NoCard (.cons T.kit_Taken_NoName (.cons T.kit_Taken_NoRow (.cons T.kit_Taken_TooMuch (.cons T.kit_Taken_NoText (.cons T.kit_Taken_NoLine (.cons T.kit_Taken_NoGoing (.cons T.kit_Taken_Needed (.cons T.kit_Taken_Taken (.cons T.kit_Taken_Round (.cons T.kit_Taken_GoingError (.cons T.kit_Taken_LackError (.cons T.kit_Taken_BookError (.cons T.kit_Taken_ValueError (.cons T.kit_Taken_LookupError (.cons T.kit_Taken_RuntimeError (.nil)))))))))))))))))))
theorem kin_Round {K : PySem.W.Frag} {mg : Str → Option Value} (T : Env K mg) : Kinds K (He.ga K "Round") (bitsK 12) := .cons T.kit_Round_NoTime (.cons T.kit_Round_NoPiece (.cons T.kit_Round_NoDays (.cons T.kit_Round_NoCard (.cons T.kit_Round_NoName (.cons T.kit_Round_NoRow (.cons T.kit_Round_TooMuch (.cons T.kit_Round_NoText (.cons T.kit_Round_NoLine (.cons T.kit_Round_NoGoing (.cons T.kit_Round_Needed (.cons T.kit_Round_Taken (.cons T.kit_Round_Round (.cons T.kit_Round_GoingError (.cons T.kit_Round_LackError (.cons T.kit_Round_BookError (.cons T.kit_Round_ValueError (.cons T.kit_Round_LookupError (.cons T.kit_Round_RuntimeError (.nil)))))))))))))))))))
theorem kin_all {K : PySem.W.Frag} {mg : Str → Option Value} (T : Env K mg) {i : Nat} (h : i < 13) : Kinds K (He.ga K (rsC i)) (bitsK i) := by
  rcases (by omega : i = 0 ∨ i = 1 ∨ i = 2 ∨ i = 3 ∨ i = 4 ∨ i = 5 ∨ i = 6 ∨ i = 7 ∨ i = 8 ∨ i = 9 ∨ i = 10 ∨ i = 11 ∨ i = 12) with rfl | rfl | rfl | rfl | rfl | rfl | rfl | rfl | rfl | rfl | rfl | rfl | rfl
  · exact kin_NoTime T
  · exact kin_NoPiece T
  · exact kin_NoDays T
  · exact kin_NoCard T
  · exact kin_NoName T
  · exact kin_NoRow T
  · exact kin_TooMuch T
  · exact kin_NoText T
  · exact kin_NoLine T
  · exact kin_NoGoing T
  · exact kin_Needed T
  · exact kin_Taken T
  · exact kin_Round T
theorem xc_all {K : PySem.W.Frag} {mg : Str → Option Value} (T : Env K mg) {i : Nat} (h : i < 13) : ExcC K (He.ga K (rsC i)) := by
  rcases (by omega : i = 0 ∨ i = 1 ∨ i = 2 ∨ i = 3 ∨ i = 4 ∨ i = 5 ∨ i = 6 ∨ i = 7 ∨ i = 8 ∨ i = 9 ∨ i = 10 ∨ i = 11 ∨ i = 12) with rfl | rfl | rfl | rfl | rfl | rfl | rfl | rfl | rfl | rfl | rfl | rfl | rfl
  · exact T.xc_NoTime
  · exact T.xc_NoPiece
  · exact T.xc_NoDays
  · exact T.xc_NoCard
  · exact T.xc_NoName
  · exact T.xc_NoRow
  · exact T.xc_TooMuch
  · exact T.xc_NoText
  · exact T.xc_NoLine
  · exact T.xc_NoGoing
  · exact T.xc_Needed
  · exact T.xc_Taken
  · exact T.xc_Round
theorem exm_all {K : PySem.W.Frag} {mg : Str → Option Value} (T : Env K mg) {i : Nat} (h : i < 13) : PySem.W.exmAny K (.ref (He.ga K (rsC i))) [.ref (He.ga K "GoingError"), .ref (He.ga K "LackError"), .ref (He.ga K "BookError")] = some true := by
  rcases (by omega : i = 0 ∨ i = 1 ∨ i = 2 ∨ i = 3 ∨ i = 4 ∨ i = 5 ∨ i = 6 ∨ i = 7 ∨ i = 8 ∨ i = 9 ∨ i = 10 ∨ i = 11 ∨ i = 12) with rfl | rfl | rfl | rfl | rfl | rfl | rfl | rfl | rfl | rfl | rfl | rfl | rfl
  · exact T.exm_NoTime
  · exact T.exm_NoPiece
  · exact T.exm_NoDays
  · exact T.exm_NoCard
  · exact T.exm_NoName
  · exact T.exm_NoRow
  · exact T.exm_TooMuch
  · exact T.exm_NoText
  · exact T.exm_NoLine
  · exact T.exm_NoGoing
  · exact T.exm_Needed
  · exact T.exm_Taken
  · exact T.exm_Round
end
section
def kindK (bs : List Bool) : List V := (List.range 19).filterMap fun i => if bs.getD i false then some (.int (i : Nat)) else none
theorem kind_due {i : Nat} (h : i < 13) : kindK (bitsK i) = dueV i := by
  rcases (by omega : i = 0 ∨ i = 1 ∨ i = 2 ∨ i = 3 ∨ i = 4 ∨ i = 5 ∨ i = 6 ∨ i = 7 ∨ i = 8 ∨ i = 9 ∨ i = 10 ∨ i = 11 ∨ i = 12) with rfl | rfl | rfl | rfl | rfl | rfl | rfl | rfl | rfl | rfl | rfl | rfl | rfl <;> rfl
def sp__law_kinds (K : PySem.W.Frag) : SpP := fun p vs H Q _ => ∃ (a D : Addr) (d : Option Addr) (bs : List Bool), vs = [.ref a] ∧ p.1 = a ∧ Zc (.ref D) d p.2 ∧ (∃ vs, p.2.data = .fields vs) ∧ ExcC K D ∧ XdAt H d ∧ Kinds K D bs ∧ ∀ f H', Ex H H' → H f = none → H' f = some (.lst (kindK bs)) → Q (.ref f) H'
def sp2__law_kinds (K : PySem.W.Frag) : Sp := fun vs H Q _ => ∃ (a D : Addr) (bs : List Bool), vs = [.ref a] ∧ H a = some (ExO (.ref D) a) ∧ ExcC K D ∧ Kinds K D bs ∧ ∀ f H', Ex H H' → H f = none → H' f = some (.lst (kindK bs)) → Q (.ref f) H'
theorem xd_ex {H H' : Hp} {d : Option Addr} (e : Ex H H') (h : XdAt H d) : XdAt H' d := h.imp id fun ⟨a, fs, e1, e2⟩ => ⟨a, fs, e1, e _ _ e2⟩
theorem fb__law_kinds {P : Program} {w : World} {K : PySem.W.Frag} {mg : Str → Option Value} {base : Heap} (T : Env K mg) : ∃ fd, FunD K "_law_kinds" "_law_kinds" (defArgs s__law_kinds) (defBody s__law_kinds) (defScope s__law_kinds) [] [] (He.ga K "_law_kinds") fd ∧ FbQ P w K mg base 1 (He.ga K "_law_kinds") fd ["_law_e"] (sp__law_kinds K) := by
  obtain ⟨fd, F⟩ := T.f__law_kinds
  refine ⟨fd, F, fbQ_of F sc__law_kinds (fun p vs H Q E h => ?_) (fun cdv A outer s H vs Q E p hot hr h => ?_)⟩
  · obtain ⟨a, D, d, bs, rfl, _⟩ := h
    rfl
  · obtain ⟨b, oe⟩ := p
    obtain ⟨a, D, d, bs, rfl, e, hz, hf, hC, hd, hk, q⟩ := h
    dsimp only at e hz hf
    subst e
    have hp : (b, oe) ∈ [(b, oe)] := List.mem_singleton.mpr rfl
    refine ⟨_, (Evl.pss_cut (ps_set (i := 1) sc__law_kinds.nd rfl (Or.inr rfl) (pe_lst (pa_cons (pe_callB (call_isP K hp hz hf) (by rfl) T.n_isinstance (by decide +kernel) (pa_cons (pv 0) (pa_cons (pe_glob (v := .ref _) (by rfl) T.g_NoTime rfl) pa_nil))) (pa_cons (pe_callB (call_isP K hp hz hf) (by rfl) T.n_isinstance (by decide +kernel) (pa_cons (pv 0) (pa_cons (pe_glob (v := .ref _) (by rfl) T.g_NoPiece rfl) pa_nil))) (pa_cons (pe_callB (call_isP K hp hz hf) (by rfl) T.n_isinstance (by decide +kernel) (pa_cons (pv 0) (pa_cons (pe_glob (v := .ref _) (by rfl) T.g_NoDays rfl) pa_nil))) (pa_cons (pe_callB (call_isP K hp hz hf) (by rfl) T.n_isinstance (by decide +kernel) (pa_cons (pv 0) (pa_cons (pe_glob (v := .ref _) (by rfl) T.g_NoCard rfl) pa_nil))) pa_nil))))))
      (Evl.pss_cut (ps_set (i := 1) sc__law_kinds.nd rfl (Or.inr rfl) (pe_op op_cat (pv 1) (pe_lst (pa_cons (pe_callB (call_isP K hp hz hf) (by rfl) T.n_isinstance (by decide +kernel) (pa_cons (pv 0) (pa_cons (pe_glob (v := .ref _) (by rfl) T.g_NoName rfl) pa_nil))) (pa_cons (pe_callB (call_isP K hp hz hf) (by rfl) T.n_isinstance (by decide +kernel) (pa_cons (pv 0) (pa_cons (pe_glob (v := .ref _) (by rfl) T.g_NoRow rfl) pa_nil))) (pa_cons (pe_callB (call_isP K hp hz hf) (by rfl) T.n_isinstance (by decide +kernel) (pa_cons (pv 0) (pa_cons (pe_glob (v := .ref _) (by rfl) T.g_TooMuch rfl) pa_nil))) (pa_cons (pe_callB (call_isP K hp hz hf) (by rfl) T.n_isinstance (by decide +kernel) (pa_cons (pv 0) (pa_cons (pe_glob (v := .ref _) (by rfl) T.g_NoText rfl) pa_nil))) pa_nil)))))))
      (Evl.pss_cut (ps_set (i := 1) sc__law_kinds.nd rfl (Or.inr rfl) (pe_op op_cat (pv 1) (pe_lst (pa_cons (pe_callB (call_isP K hp hz hf) (by rfl) T.n_isinstance (by decide +kernel) (pa_cons (pv 0) (pa_cons (pe_glob (v := .ref _) (by rfl) T.g_NoLine rfl) pa_nil))) (pa_cons (pe_callB (call_isP K hp hz hf) (by rfl) T.n_isinstance (by decide +kernel) (pa_cons (pv 0) (pa_cons (pe_glob (v := .ref _) (by rfl) T.g_NoGoing rfl) pa_nil))) (pa_cons (pe_callB (call_isP K hp hz hf) (by rfl) T.n_isinstance (by decide +kernel) (pa_cons (pv 0) (pa_cons (pe_glob (v := .ref _) (by rfl) T.g_Needed rfl) pa_nil))) (pa_cons (pe_callB (call_isP K hp hz hf) (by rfl) T.n_isinstance (by decide +kernel) (pa_cons (pv 0) (pa_cons (pe_glob (v := .ref _) (by rfl) T.g_Taken rfl) pa_nil))) pa_nil)))))))
      (Evl.pss_cut (ps_set (i := 1) sc__law_kinds.nd rfl (Or.inr rfl) (pe_op op_cat (pv 1) (pe_lst (pa_cons (pe_callB (call_isP K hp hz hf) (by rfl) T.n_isinstance (by decide +kernel) (pa_cons (pv 0) (pa_cons (pe_glob (v := .ref _) (by rfl) T.g_Round rfl) pa_nil))) (pa_cons (pe_callB (call_isP K hp hz hf) (by rfl) T.n_isinstance (by decide +kernel) (pa_cons (pv 0) (pa_cons (pe_glob (v := .ref _) (by rfl) T.g_GoingError rfl) pa_nil))) (pa_cons (pe_callB (call_isP K hp hz hf) (by rfl) T.n_isinstance (by decide +kernel) (pa_cons (pv 0) (pa_cons (pe_glob (v := .ref _) (by rfl) T.g_LackError rfl) pa_nil))) (pa_cons (pe_callB (call_isP K hp hz hf) (by rfl) T.n_isinstance (by decide +kernel) (pa_cons (pv 0) (pa_cons (pe_glob (v := .ref _) (by rfl) T.g_BookError rfl) pa_nil))) pa_nil)))))))
      (Evl.pss_cut (ps_set (i := 1) sc__law_kinds.nd rfl (Or.inr rfl) (pe_op op_cat (pv 1) (pe_lst (pa_cons (pe_callB (call_isP K hp hz hf) (by rfl) T.n_isinstance (by decide +kernel) (pa_cons (pv 0) (pa_cons (pe_bltn (v := .ty "ValueError") (by rfl) T.n_ValueError (by decide +kernel) rfl) pa_nil))) (pa_cons (pe_callB (call_isP K hp hz hf) (by rfl) T.n_isinstance (by decide +kernel) (pa_cons (pv 0) (pa_cons (pe_bltn (v := .ty "LookupError") (by rfl) T.n_LookupError (by decide +kernel) rfl) pa_nil))) (pa_cons (pe_callB (call_isP K hp hz hf) (by rfl) T.n_isinstance (by decide +kernel) (pa_cons (pv 0) (pa_cons (pe_bltn (v := .ty "RuntimeError") (by rfl) T.n_RuntimeError (by decide +kernel) rfl) pa_nil))) pa_nil))))))
      (pss_one (ps_ret (pe_lcH (own := [("_law_k", 2)]) ⟨_, hot, hp⟩ sc__law_kinds.nd (L2H.pi_range1H (by rfl) T.n_range (pa_cons pe_int pa_nil)) (blkOk_by (own := [("_law_k", 2)]) (N := ["_law_e", "_law_some", "_law_k"]) (sc := defScope s__law_kinds) (by decide +kernel)) (fun _ _ _ _ _ => (pg_name (i := 2) sc__law_kinds.nd rfl (Or.inl rfl))) (fun _ _ _ _ _ => (pts_one (pt_val (pe_ix (ix_listK K) (pv 1) (pv 2) (fun _ _ => rfl))))) (fun _ _ _ _ _ => (pv 2)))))))))), ?_⟩
    rcases hk with _ | ⟨k0, hk⟩
    rename_i b0 bs0
    rcases hk with _ | ⟨k1, hk⟩
    rename_i b1 bs1
    rcases hk with _ | ⟨k2, hk⟩
    rename_i b2 bs2
    rcases hk with _ | ⟨k3, hk⟩
    rename_i b3 bs3
    rcases hk with _ | ⟨k4, hk⟩
    rename_i b4 bs4
    rcases hk with _ | ⟨k5, hk⟩
    rename_i b5 bs5
    rcases hk with _ | ⟨k6, hk⟩
    rename_i b6 bs6
    rcases hk with _ | ⟨k7, hk⟩
    rename_i b7 bs7
    rcases hk with _ | ⟨k8, hk⟩
    rename_i b8 bs8
    rcases hk with _ | ⟨k9, hk⟩
    rename_i b9 bs9
    rcases hk with _ | ⟨k10, hk⟩
    rename_i b10 bs10
    rcases hk with _ | ⟨k11, hk⟩
    rename_i b11 bs11
    rcases hk with _ | ⟨k12, hk⟩
    rename_i b12 bs12
    rcases hk with _ | ⟨k13, hk⟩
    rename_i b13 bs13
    rcases hk with _ | ⟨k14, hk⟩
    rename_i b14 bs14
    rcases hk with _ | ⟨k15, hk⟩
    rename_i b15 bs15
    rcases hk with _ | ⟨k16, hk⟩
    rename_i b16 bs16
    rcases hk with _ | ⟨k17, hk⟩
    rename_i b17 bs17
    rcases hk with _ | ⟨k18, hk⟩
    rename_i b18 bsL
    rcases hk with _ | _
    refine ⟨fun σ' H' => ∃ u, σ' = [some (.ref b), some (.ref u), none] ∧ Ex H H' ∧ XdAt H' d ∧ H' u = some (.lst [.bl b0, .bl b1, .bl b2, .bl b3]), ?_, ?_⟩
    · refine ⟨_, rfl, ?_⟩
      refine ⟨_, _, _, _, rfl, hC, hd, rfl, .own _, k0, ?_⟩
      refine ⟨_, rfl, ?_⟩
      refine ⟨_, _, _, _, rfl, hC, hd, rfl, .own _, k1, ?_⟩
      refine ⟨_, rfl, ?_⟩
      refine ⟨_, _, _, _, rfl, hC, hd, rfl, .own _, k2, ?_⟩
      refine ⟨_, rfl, ?_⟩
      refine ⟨_, _, _, _, rfl, hC, hd, rfl, .own _, k3, ?_⟩
      refine ⟨(by show 4 ≤ sizeLine; decide), fun p1 np1 => ?_⟩
      have X1 := ex_new (o := .lst [.bl b0, .bl b1, .bl b2, .bl b3]) np1
      exact ⟨p1, rfl, X1, xd_ex X1 hd, upd_same⟩
    clear hd
    rintro σ' G0 ⟨u, rfl, XH, hd, hu⟩
    refine ⟨fun σ' H' => ∃ u, σ' = [some (.ref b), some (.ref u), none] ∧ Ex H H' ∧ XdAt H' d ∧ H' u = some (.lst [.bl b0, .bl b1, .bl b2, .bl b3, .bl b4, .bl b5, .bl b6, .bl b7]), ?_, ?_⟩
    · refine ⟨_, rfl, ?_⟩
      refine ⟨_, rfl, ?_⟩
      refine ⟨_, _, _, _, rfl, hC, hd, rfl, .own _, k4, ?_⟩
      refine ⟨_, rfl, ?_⟩
      refine ⟨_, _, _, _, rfl, hC, hd, rfl, .own _, k5, ?_⟩
      refine ⟨_, rfl, ?_⟩
      refine ⟨_, _, _, _, rfl, hC, hd, rfl, .own _, k6, ?_⟩
      refine ⟨_, rfl, ?_⟩
      refine ⟨_, _, _, _, rfl, hC, hd, rfl, .own _, k7, ?_⟩
      refine ⟨(by show 4 ≤ sizeLine; decide), fun p1 np1 => ?_⟩
      have X1 := ex_new (o := .lst [.bl b4, .bl b5, .bl b6, .bl b7]) np1
      refine ⟨_, _, _, _, rfl, rfl, X1 _ _ hu, upd_same, (by show 8 ≤ sizeLine; decide), fun q1 nq1 => ?_⟩
      have X2 := X1.trans (ex_new (o := .lst [.bl b0, .bl b1, .bl b2, .bl b3, .bl b4, .bl b5, .bl b6, .bl b7]) nq1)
      exact ⟨q1, rfl, XH.trans X2, xd_ex X2 hd, upd_same⟩
    clear hd
    try clear XH hu
    rintro σ' G1 ⟨u, rfl, XH, hd, hu⟩
    refine ⟨fun σ' H' => ∃ u, σ' = [some (.ref b), some (.ref u), none] ∧ Ex H H' ∧ XdAt H' d ∧ H' u = some (.lst [.bl b0, .bl b1, .bl b2, .bl b3, .bl b4, .bl b5, .bl b6, .bl b7, .bl b8, .bl b9, .bl b10, .bl b11]), ?_, ?_⟩
    · refine ⟨_, rfl, ?_⟩
      refine ⟨_, rfl, ?_⟩
      refine ⟨_, _, _, _, rfl, hC, hd, rfl, .own _, k8, ?_⟩
      refine ⟨_, rfl, ?_⟩
      refine ⟨_, _, _, _, rfl, hC, hd, rfl, .own _, k9, ?_⟩
      refine ⟨_, rfl, ?_⟩
      refine ⟨_, _, _, _, rfl, hC, hd, rfl, .own _, k10, ?_⟩
      refine ⟨_, rfl, ?_⟩
      refine ⟨_, _, _, _, rfl, hC, hd, rfl, .own _, k11, ?_⟩
      refine ⟨(by show 4 ≤ sizeLine; decide), fun p1 np1 => ?_⟩
      have X1 := ex_new (o := .lst [.bl b8, .bl b9, .bl b10, .bl b11]) np1
      refine ⟨_, _, _, _, rfl, rfl, X1 _ _ hu, upd_same, (by show 12 ≤ sizeLine; decide), fun q1 nq1 => ?_⟩
      have X2 := X1.trans (ex_new (o := .lst [.bl b0, .bl b1, .bl b2, .bl b3, .bl b4, .bl b5, .bl b6, .bl b7, .bl b8, .bl b9, .bl b10, .bl b11]) nq1)
      exact ⟨q1, rfl, XH.trans X2, xd_ex X2 hd, upd_same⟩
    clear hd
    try clear XH hu
    rintro σ' G2 ⟨u, rfl, XH, hd, hu⟩
    refine ⟨fun σ' H' => ∃ u, σ' = [some (.ref b), some (.ref u), none] ∧ Ex H H' ∧ XdAt H' d ∧ H' u = some (.lst [.bl b0, .bl b1, .bl b2, .bl b3, .bl b4, .bl b5, .bl b6, .bl b7, .bl b8, .bl b9, .bl b10, .bl b11, .bl b12, .bl b13, .bl b14, .bl b15]), ?_, ?_⟩
    · refine ⟨_, rfl, ?_⟩
      refine ⟨_, rfl, ?_⟩
      refine ⟨_, _, _, _, rfl, hC, hd, rfl, .own _, k12, ?_⟩
      refine ⟨_, rfl, ?_⟩
      refine ⟨_, _, _, _, rfl, hC, hd, rfl, .own _, k13, ?_⟩
      refine ⟨_, rfl, ?_⟩
      refine ⟨_, _, _, _, rfl, hC, hd, rfl, .own _, k14, ?_⟩
      refine ⟨_, rfl, ?_⟩
      refine ⟨_, _, _, _, rfl, hC, hd, rfl, .own _, k15, ?_⟩
      refine ⟨(by show 4 ≤ sizeLine; decide), fun p1 np1 => ?_⟩
      have X1 := ex_new (o := .lst [.bl b12, .bl b13, .bl b14, .bl b15]) np1
      refine ⟨_, _, _, _, rfl, rfl, X1 _ _ hu, upd_same, (by show 16 ≤ sizeLine; decide), fun q1 nq1 => ?_⟩
      have X2 := X1.trans (ex_new (o := .lst [.bl b0, .bl b1, .bl b2, .bl b3, .bl b4, .bl b5, .bl b6, .bl b7, .bl b8, .bl b9, .bl b10, .bl b11, .bl b12, .bl b13, .bl b14, .bl b15]) nq1)
      exact ⟨q1, rfl, XH.trans X2, xd_ex X2 hd, upd_same⟩
    clear hd
    try clear XH hu
    rintro σ' G3 ⟨u, rfl, XH, hd, hu⟩
    refine ⟨fun σ' H' => ∃ u, σ' = [some (.ref b), some (.ref u), none] ∧ Ex H H' ∧ XdAt H' d ∧ H' u = some (.lst [.bl b0, .bl b1, .bl b2, .bl b3, .bl b4, .bl b5, .bl b6, .bl b7, .bl b8, .bl b9, .bl b10, .bl b11, .bl b12, .bl b13, .bl b14, .bl b15, .bl b16, .bl b17, .bl b18]), ?_, ?_⟩
    · refine ⟨_, rfl, ?_⟩
      refine ⟨_, rfl, ?_⟩
      refine ⟨_, _, _, _, rfl, hC, hd, rfl, .ty _, k16, ?_⟩
      refine ⟨_, rfl, ?_⟩
      refine ⟨_, _, _, _, rfl, hC, hd, rfl, .ty _, k17, ?_⟩
      refine ⟨_, rfl, ?_⟩
      refine ⟨_, _, _, _, rfl, hC, hd, rfl, .ty _, k18, ?_⟩
      refine ⟨(by show 3 ≤ sizeLine; decide), fun p1 np1 => ?_⟩
      have X1 := ex_new (o := .lst [.bl b16, .bl b17, .bl b18]) np1
      refine ⟨_, _, _, _, rfl, rfl, X1 _ _ hu, upd_same, (by show 19 ≤ sizeLine; decide), fun q1 nq1 => ?_⟩
      have X2 := X1.trans (ex_new (o := .lst [.bl b0, .bl b1, .bl b2, .bl b3, .bl b4, .bl b5, .bl b6, .bl b7, .bl b8, .bl b9, .bl b10, .bl b11, .bl b12, .bl b13, .bl b14, .bl b15, .bl b16, .bl b17, .bl b18]) nq1)
      exact ⟨q1, rfl, XH.trans X2, xd_ex X2 hd, upd_same⟩
    clear hd
    try clear XH hu
    rintro σ' G4 ⟨u, rfl, XH, hd, hu⟩
    refine ⟨_, rfl, (by decide), (by decide), fun D1 nD1 => ?_⟩
    have nD0 := ex_fresh XH nD1
    have uD : u ≠ D1 := ne_of_none hu nD1
    generalize hB : [b0, b1, b2, b3, b4, b5, b6, b7, b8, b9, b10, b11, b12, b13, b14, b15, b16, b17, b18] = bs at q
    have hu2 : G4 u = some (.lst (bs.map V.bl)) := by
      rw [← hB]
      exact hu
    have lb : bs.length = 19 := by
      rw [← hB]
      rfl
    refine lc_fm (n := 19) (J := Itr 0 19) L2.walk_range (fun i => if bs.getD i false then some (.int (i : Nat)) else none) (fun H' => Ex H H' ∧ H' u = some (.lst (bs.map V.bl))) (fun H' l e => ⟨ex_mut e.1 nD0, by rw [upd_ne uD]; exact e.2⟩) ⟨XH, hu2⟩ (by decide) (fun _ _ => trivial) (fun i x H2 H3 acc N hi e hD la y k => ?_) (fun H2 e hD => q D1 H2 e.1 nD0 hD)
    obtain ⟨rfl, rfl⟩ := y
    have hb : (bs.map V.bl)[i]? = some (.bl (bs.getD i false)) := by
      rw [List.getElem?_map, List.getElem?_eq_getElem (by omega), List.getD_eq_getElem?_getD, List.getElem?_eq_getElem (by omega)]
      rfl
    have k2 := k _ e hD
    refine ⟨rfl, ?_⟩
    refine ⟨_, rfl, _, rfl, u, _, _, _, rfl, rfl, sq_lst e.2, atI_nat (by rw [Nat.zero_add]; exact hb), _, rfl, ?_⟩
    cases hc : bs.getD i false with
    | true =>
      rw [hc] at k2
      refine iteT ⟨_, rfl, acc, hD, la, ?_⟩
      have z : V.int (0 + (i : Int)) = V.int (i : Nat) := by rw [Int.zero_add]
      show N (upd H3 D1 (HO.lst (acc ++ [V.int (0 + (i : Int))])))
      rw [z]
      exact k2
    | false =>
      rw [hc] at k2
      exact iteF k2
theorem fb2__law_kinds {P : Program} {w : World} {K : PySem.W.Frag} {mg : Str → Option Value} {base : Heap} (T : Env K mg) : ∃ fd, FunD K "_law_kinds" "_law_kinds" (defArgs s__law_kinds) (defBody s__law_kinds) (defScope s__law_kinds) [] [] (He.ga K "_law_kinds") fd ∧ Fb P w K mg base 1 (He.ga K "_law_kinds") fd ["_law_e"] (sp2__law_kinds K) := by
  obtain ⟨fd, F⟩ := T.f__law_kinds
  refine ⟨fd, F, fb_of F sc__law_kinds (fun vs H Q E h => ?_) (fun cdv A outer s H vs Q E hr h => ?_)⟩
  · obtain ⟨a, D, bs, rfl, _⟩ := h
    rfl
  · obtain ⟨a, D, bs, rfl, ha, hC, hk, q⟩ := h
    refine ⟨_, (Evl.pss_cut (ps_set (i := 1) sc__law_kinds.nd rfl (Or.inr rfl) (pe_lst (pa_cons (pe_callB (call_isX K) (by rfl) T.n_isinstance (by decide +kernel) (pa_cons (pv 0) (pa_cons (pe_glob (v := .ref _) (by rfl) T.g_NoTime rfl) pa_nil))) (pa_cons (pe_callB (call_isX K) (by rfl) T.n_isinstance (by decide +kernel) (pa_cons (pv 0) (pa_cons (pe_glob (v := .ref _) (by rfl) T.g_NoPiece rfl) pa_nil))) (pa_cons (pe_callB (call_isX K) (by rfl) T.n_isinstance (by decide +kernel) (pa_cons (pv 0) (pa_cons (pe_glob (v := .ref _) (by rfl) T.g_NoDays rfl) pa_nil))) (pa_cons (pe_callB (call_isX K) (by rfl) T.n_isinstance (by decide +kernel) (pa_cons (pv 0) (pa_cons (pe_glob (v := .ref _) (by rfl) T.g_NoCard rfl) pa_nil))) pa_nil))))))
      (Evl.pss_cut (ps_set (i := 1) sc__law_kinds.nd rfl (Or.inr rfl) (pe_op op_cat (pv 1) (pe_lst (pa_cons (pe_callB (call_isX K) (by rfl) T.n_isinstance (by decide +kernel) (pa_cons (pv 0) (pa_cons (pe_glob (v := .ref _) (by rfl) T.g_NoName rfl) pa_nil))) (pa_cons (pe_callB (call_isX K) (by rfl) T.n_isinstance (by decide +kernel) (pa_cons (pv 0) (pa_cons (pe_glob (v := .ref _) (by rfl) T.g_NoRow rfl) pa_nil))) (pa_cons (pe_callB (call_isX K) (by rfl) T.n_isinstance (by decide +kernel) (pa_cons (pv 0) (pa_cons (pe_glob (v := .ref _) (by rfl) T.g_TooMuch rfl) pa_nil))) (pa_cons (pe_callB (call_isX K) (by rfl) T.n_isinstance (by decide +kernel) (pa_cons (pv 0) (pa_cons (pe_glob (v := .ref _) (by rfl) T.g_NoText rfl) pa_nil))) pa_nil)))))))
      (Evl.pss_cut (ps_set (i := 1) sc__law_kinds.nd rfl (Or.inr rfl) (pe_op op_cat (pv 1) (pe_lst (pa_cons (pe_callB (call_isX K) (by rfl) T.n_isinstance (by decide +kernel) (pa_cons (pv 0) (pa_cons (pe_glob (v := .ref _) (by rfl) T.g_NoLine rfl) pa_nil))) (pa_cons (pe_callB (call_isX K) (by rfl) T.n_isinstance (by decide +kernel) (pa_cons (pv 0) (pa_cons (pe_glob (v := .ref _) (by rfl) T.g_NoGoing rfl) pa_nil))) (pa_cons (pe_callB (call_isX K) (by rfl) T.n_isinstance (by decide +kernel) (pa_cons (pv 0) (pa_cons (pe_glob (v := .ref _) (by rfl) T.g_Needed rfl) pa_nil))) (pa_cons (pe_callB (call_isX K) (by rfl) T.n_isinstance (by decide +kernel) (pa_cons (pv 0) (pa_cons (pe_glob (v := .ref _) (by rfl) T.g_Taken rfl) pa_nil))) pa_nil)))))))
      (Evl.pss_cut (ps_set (i := 1) sc__law_kinds.nd rfl (Or.inr rfl) (pe_op op_cat (pv 1) (pe_lst (pa_cons (pe_callB (call_isX K) (by rfl) T.n_isinstance (by decide +kernel) (pa_cons (pv 0) (pa_cons (pe_glob (v := .ref _) (by rfl) T.g_Round rfl) pa_nil))) (pa_cons (pe_callB (call_isX K) (by rfl) T.n_isinstance (by decide +kernel) (pa_cons (pv 0) (pa_cons (pe_glob (v := .ref _) (by rfl) T.g_GoingError rfl) pa_nil))) (pa_cons (pe_callB (call_isX K) (by rfl) T.n_isinstance (by decide +kernel) (pa_cons (pv 0) (pa_cons (pe_glob (v := .ref _) (by rfl) T.g_LackError rfl) pa_nil))) (pa_cons (pe_callB (call_isX K) (by rfl) T.n_isinstance (by decide +kernel) (pa_cons (pv 0) (pa_cons (pe_glob (v := .ref _) (by rfl) T.g_BookError rfl) pa_nil))) pa_nil)))))))
      (Evl.pss_cut (ps_set (i := 1) sc__law_kinds.nd rfl (Or.inr rfl) (pe_op op_cat (pv 1) (pe_lst (pa_cons (pe_callB (call_isX K) (by rfl) T.n_isinstance (by decide +kernel) (pa_cons (pv 0) (pa_cons (pe_bltn (v := .ty "ValueError") (by rfl) T.n_ValueError (by decide +kernel) rfl) pa_nil))) (pa_cons (pe_callB (call_isX K) (by rfl) T.n_isinstance (by decide +kernel) (pa_cons (pv 0) (pa_cons (pe_bltn (v := .ty "LookupError") (by rfl) T.n_LookupError (by decide +kernel) rfl) pa_nil))) (pa_cons (pe_callB (call_isX K) (by rfl) T.n_isinstance (by decide +kernel) (pa_cons (pv 0) (pa_cons (pe_bltn (v := .ty "RuntimeError") (by rfl) T.n_RuntimeError (by decide +kernel) rfl) pa_nil))) pa_nil))))))
      (pss_one (ps_ret (pe_lc (own := [("_law_k", 2)]) (by rfl) sc__law_kinds.nd (pi_range1 (by rfl) T.n_range (pa_cons pe_int pa_nil)) (blkOk_by (own := [("_law_k", 2)]) (N := ["_law_e", "_law_some", "_law_k"]) (sc := defScope s__law_kinds) (by decide +kernel)) (fun _ _ _ _ _ => (pg_name (i := 2) sc__law_kinds.nd rfl (Or.inl rfl))) (fun _ _ _ _ _ => (pts_one (pt_val (pe_ix (ix_listK K) (pv 1) (pv 2) (fun _ _ => rfl))))) (fun _ _ _ _ _ => (pv 2)))))))))), ?_⟩
    rcases hk with _ | ⟨k0, hk⟩
    rename_i b0 bs0
    rcases hk with _ | ⟨k1, hk⟩
    rename_i b1 bs1
    rcases hk with _ | ⟨k2, hk⟩
    rename_i b2 bs2
    rcases hk with _ | ⟨k3, hk⟩
    rename_i b3 bs3
    rcases hk with _ | ⟨k4, hk⟩
    rename_i b4 bs4
    rcases hk with _ | ⟨k5, hk⟩
    rename_i b5 bs5
    rcases hk with _ | ⟨k6, hk⟩
    rename_i b6 bs6
    rcases hk with _ | ⟨k7, hk⟩
    rename_i b7 bs7
    rcases hk with _ | ⟨k8, hk⟩
    rename_i b8 bs8
    rcases hk with _ | ⟨k9, hk⟩
    rename_i b9 bs9
    rcases hk with _ | ⟨k10, hk⟩
    rename_i b10 bs10
    rcases hk with _ | ⟨k11, hk⟩
    rename_i b11 bs11
    rcases hk with _ | ⟨k12, hk⟩
    rename_i b12 bs12
    rcases hk with _ | ⟨k13, hk⟩
    rename_i b13 bs13
    rcases hk with _ | ⟨k14, hk⟩
    rename_i b14 bs14
    rcases hk with _ | ⟨k15, hk⟩
    rename_i b15 bs15
    rcases hk with _ | ⟨k16, hk⟩
    rename_i b16 bs16
    rcases hk with _ | ⟨k17, hk⟩
    rename_i b17 bs17
    rcases hk with _ | ⟨k18, hk⟩
    rename_i b18 bsL
    rcases hk with _ | _
    refine ⟨fun σ' H' => ∃ u, σ' = [some (.ref a), some (.ref u), none] ∧ Ex H H' ∧ H' a = some (ExO (.ref D) a) ∧ H' u = some (.lst [.bl b0, .bl b1, .bl b2, .bl b3]), ?_, ?_⟩
    · refine ⟨_, rfl, ?_⟩
      refine ⟨_, _, _, _, _, ha, hC, rfl, .own _, k0, ?_⟩
      refine ⟨_, rfl, ?_⟩
      refine ⟨_, _, _, _, _, ha, hC, rfl, .own _, k1, ?_⟩
      refine ⟨_, rfl, ?_⟩
      refine ⟨_, _, _, _, _, ha, hC, rfl, .own _, k2, ?_⟩
      refine ⟨_, rfl, ?_⟩
      refine ⟨_, _, _, _, _, ha, hC, rfl, .own _, k3, ?_⟩
      refine ⟨(by show 4 ≤ sizeLine; decide), fun p1 np1 => ?_⟩
      have X1 := ex_new (o := .lst [.bl b0, .bl b1, .bl b2, .bl b3]) np1
      exact ⟨p1, rfl, X1, X1 _ _ ha, upd_same⟩
    clear ha
    rintro σ' G0 ⟨u, rfl, XH, ha, hu⟩
    refine ⟨fun σ' H' => ∃ u, σ' = [some (.ref a), some (.ref u), none] ∧ Ex H H' ∧ H' a = some (ExO (.ref D) a) ∧ H' u = some (.lst [.bl b0, .bl b1, .bl b2, .bl b3, .bl b4, .bl b5, .bl b6, .bl b7]), ?_, ?_⟩
    · refine ⟨_, rfl, ?_⟩
      refine ⟨_, rfl, ?_⟩
      refine ⟨_, _, _, _, _, ha, hC, rfl, .own _, k4, ?_⟩
      refine ⟨_, rfl, ?_⟩
      refine ⟨_, _, _, _, _, ha, hC, rfl, .own _, k5, ?_⟩
      refine ⟨_, rfl, ?_⟩
      refine ⟨_, _, _, _, _, ha, hC, rfl, .own _, k6, ?_⟩
      refine ⟨_, rfl, ?_⟩
      refine ⟨_, _, _, _, _, ha, hC, rfl, .own _, k7, ?_⟩
      refine ⟨(by show 4 ≤ sizeLine; decide), fun p1 np1 => ?_⟩
      have X1 := ex_new (o := .lst [.bl b4, .bl b5, .bl b6, .bl b7]) np1
      refine ⟨_, _, _, _, rfl, rfl, X1 _ _ hu, upd_same, (by show 8 ≤ sizeLine; decide), fun q1 nq1 => ?_⟩
      have X2 := X1.trans (ex_new (o := .lst [.bl b0, .bl b1, .bl b2, .bl b3, .bl b4, .bl b5, .bl b6, .bl b7]) nq1)
      exact ⟨q1, rfl, XH.trans X2, X2 _ _ ha, upd_same⟩
    clear ha
    try clear XH hu
    rintro σ' G1 ⟨u, rfl, XH, ha, hu⟩
    refine ⟨fun σ' H' => ∃ u, σ' = [some (.ref a), some (.ref u), none] ∧ Ex H H' ∧ H' a = some (ExO (.ref D) a) ∧ H' u = some (.lst [.bl b0, .bl b1, .bl b2, .bl b3, .bl b4, .bl b5, .bl b6, .bl b7, .bl b8, .bl b9, .bl b10, .bl b11]), ?_, ?_⟩
    · refine ⟨_, rfl, ?_⟩
      refine ⟨_, rfl, ?_⟩
      refine ⟨_, _, _, _, _, ha, hC, rfl, .own _, k8, ?_⟩
      refine ⟨_, rfl, ?_⟩
      refine ⟨_, _, _, _, _, ha, hC, rfl, .own _, k9, ?_⟩
      refine ⟨_, rfl, ?_⟩
      refine ⟨_, _, _, _, _, ha, hC, rfl, .own _, k10, ?_⟩
      refine ⟨_, rfl, ?_⟩
      refine ⟨_, _, _, _, _, ha, hC, rfl, .own _, k11, ?_⟩
      refine ⟨(by show 4 ≤ sizeLine; decide), fun p1 np1 => ?_⟩
      have X1 := ex_new (o := .lst [.bl b8, .bl b9, .bl b10, .bl b11]) np1
      refine ⟨_, _, _, _, rfl, rfl, X1 _ _ hu, upd_same, (by show 12 ≤ sizeLine; decide), fun q1 nq1 => ?_⟩
      have X2 := X1.trans (ex_new (o := .lst [.bl b0, .bl b1, .bl b2, .bl b3, .bl b4, .bl b5, .bl b6, .bl b7, .bl b8, .bl b9, .bl b10, .bl b11]) nq1)
      exact ⟨q1, rfl, XH.trans X2, X2 _ _ ha, upd_same⟩
    clear ha
    try clear XH hu
    rintro σ' G2 ⟨u, rfl, XH, ha, hu⟩
    refine ⟨fun σ' H' => ∃ u, σ' = [some (.ref a), some (.ref u), none] ∧ Ex H H' ∧ H' a = some (ExO (.ref D) a) ∧ H' u = some (.lst [.bl b0, .bl b1, .bl b2, .bl b3, .bl b4, .bl b5, .bl b6, .bl b7, .bl b8, .bl b9, .bl b10, .bl b11, .bl b12, .bl b13, .bl b14, .bl b15]), ?_, ?_⟩
    · refine ⟨_, rfl, ?_⟩
      refine ⟨_, rfl, ?_⟩
      refine ⟨_, _, _, _, _, ha, hC, rfl, .own _, k12, ?_⟩
      refine ⟨_, rfl, ?_⟩
      refine ⟨_, _, _, _, _, ha, hC, rfl, .own _, k13, ?_⟩
      refine ⟨_, rfl, ?_⟩
      refine ⟨_, _, _, _, _, ha, hC, rfl, .own _, k14, ?_⟩
      refine ⟨_, rfl, ?_⟩
      refine ⟨_, _, _, _, _, ha, hC, rfl, .own _, k15, ?_⟩
      refine ⟨(by show 4 ≤ sizeLine; decide), fun p1 np1 => ?_⟩
      have X1 := ex_new (o := .lst [.bl b12, .bl b13, .bl b14, .bl b15]) np1
      refine ⟨_, _, _, _, rfl, rfl, X1 _ _ hu, upd_same, (by show 16 ≤ sizeLine; decide), fun q1 nq1 => ?_⟩
      have X2 := X1.trans (ex_new (o := .lst [.bl b0, .bl b1, .bl b2, .bl b3, .bl b4, .bl b5, .bl b6, .bl b7, .bl b8, .bl b9, .bl b10, .bl b11, .bl b12, .bl b13, .bl b14, .bl b15]) nq1)
      exact ⟨q1, rfl, XH.trans X2, X2 _ _ ha, upd_same⟩
    clear ha
    try clear XH hu
    rintro σ' G3 ⟨u, rfl, XH, ha, hu⟩
    refine ⟨fun σ' H' => ∃ u, σ' = [some (.ref a), some (.ref u), none] ∧ Ex H H' ∧ H' a = some (ExO (.ref D) a) ∧ H' u = some (.lst [.bl b0, .bl b1, .bl b2, .bl b3, .bl b4, .bl b5, .bl b6, .bl b7, .bl b8, .bl b9, .bl b10, .bl b11, .bl b12, .bl b13, .bl b14, .bl b15, .bl b16, .bl b17, .bl b18]), ?_, ?_⟩
    · refine ⟨_, rfl, ?_⟩
      refine ⟨_, rfl, ?_⟩
      refine ⟨_, _, _, _, _, ha, hC, rfl, .ty _, k16, ?_⟩
      refine ⟨_, rfl, ?_⟩
      refine ⟨_, _, _, _, _, ha, hC, rfl, .ty _, k17, ?_⟩
      refine ⟨_, rfl, ?_⟩
      refine ⟨_, _, _, _, _, ha, hC, rfl, .ty _, k18, ?_⟩
      refine ⟨(by show 3 ≤ sizeLine; decide), fun p1 np1 => ?_⟩
      have X1 := ex_new (o := .lst [.bl b16, .bl b17, .bl b18]) np1
      refine ⟨_, _, _, _, rfl, rfl, X1 _ _ hu, upd_same, (by show 19 ≤ sizeLine; decide), fun q1 nq1 => ?_⟩
      have X2 := X1.trans (ex_new (o := .lst [.bl b0, .bl b1, .bl b2, .bl b3, .bl b4, .bl b5, .bl b6, .bl b7, .bl b8, .bl b9, .bl b10, .bl b11, .bl b12, .bl b13, .bl b14, .bl b15, .bl b16, .bl b17, .bl b18]) nq1)
      exact ⟨q1, rfl, XH.trans X2, X2 _ _ ha, upd_same⟩
    clear ha
    try clear XH hu
    rintro σ' G4 ⟨u, rfl, XH, ha, hu⟩
    refine ⟨_, rfl, (by decide), (by decide), fun D1 nD1 => ?_⟩
    have nD0 := ex_fresh XH nD1
    have uD : u ≠ D1 := ne_of_none hu nD1
    generalize hB : [b0, b1, b2, b3, b4, b5, b6, b7, b8, b9, b10, b11, b12, b13, b14, b15, b16, b17, b18] = bs at q
    have hu2 : G4 u = some (.lst (bs.map V.bl)) := by
      rw [← hB]
      exact hu
    have lb : bs.length = 19 := by
      rw [← hB]
      rfl
    refine lc_fm (n := 19) (J := Itr 0 19) L2.walk_range (fun i => if bs.getD i false then some (.int (i : Nat)) else none) (fun H' => Ex H H' ∧ H' u = some (.lst (bs.map V.bl))) (fun H' l e => ⟨ex_mut e.1 nD0, by rw [upd_ne uD]; exact e.2⟩) ⟨XH, hu2⟩ (by decide) (fun _ _ => trivial) (fun i x H2 H3 acc N hi e hD la y k => ?_) (fun H2 e hD => q D1 H2 e.1 nD0 hD)
    obtain ⟨rfl, rfl⟩ := y
    have hb : (bs.map V.bl)[i]? = some (.bl (bs.getD i false)) := by
      rw [List.getElem?_map, List.getElem?_eq_getElem (by omega), List.getD_eq_getElem?_getD, List.getElem?_eq_getElem (by omega)]
      rfl
    have k2 := k _ e hD
    refine ⟨rfl, ?_⟩
    refine ⟨_, rfl, _, rfl, u, _, _, _, rfl, rfl, sq_lst e.2, atI_nat (by rw [Nat.zero_add]; exact hb), _, rfl, ?_⟩
    cases hc : bs.getD i false with
    | true =>
      rw [hc] at k2
      refine iteT ⟨_, rfl, acc, hD, la, ?_⟩
      have z : V.int (0 + (i : Int)) = V.int (i : Nat) := by rw [Int.zero_add]
      show N (upd H3 D1 (HO.lst (acc ++ [V.int (0 + (i : Int))])))
      rw [z]
      exact k2
    | false =>
      rw [hc] at k2
      exact iteF k2
theorem ok2__law_kinds {P : Program} {w : World} {K : PySem.W.Frag} {mg : Str → Option Value} {base : Heap} (T : Env K mg) : Fc P w K mg base 1 (He.ga K "_law_kinds") [] (sp2__law_kinds K ) := by
  obtain ⟨fd, D, F⟩ := fb2__law_kinds T
  exact F.all (D.bindsN fun _ _ _ _ _ _ us hl => match us, hl with | [_], _ => rfl)
theorem ok__law_kinds {P : Program} {w : World} {K : PySem.W.Frag} {mg : Str → Option Value} {base : Heap} (T : Env K mg) : FcQ P w K mg base 1 (He.ga K "_law_kinds") (sp__law_kinds K) := by
  obtain ⟨fd, D, F⟩ := fb__law_kinds T
  exact F.all (D.bindsN fun _ _ _ _ _ _ us hl => match us, hl with | [_], _ => rfl)
end
section
def sp__law_plain (K : PySem.W.Frag) : Sp := fun vs H Q _ => ∃ (i : Nat) (z : Str), vs = [.int (i : Nat), .str z] ∧ i < 7 ∧ ∀ a, H a = none → Q (.ref a) (upd H a (ExO (.ref (He.ga K (rsC i))) a))
theorem fb__law_plain {P : Program} {w : World} {K : PySem.W.Frag} {mg : Str → Option Value} {base : Heap} (T : Env K mg) : ∃ fd, FunD K "_law_plain" "_law_plain" (defArgs s__law_plain) (defBody s__law_plain) (defScope s__law_plain) [] [] (He.ga K "_law_plain") fd ∧ Fb P w K mg base 1 (He.ga K "_law_plain") fd ["_law_way", "_law_words"] (sp__law_plain K) := by
  obtain ⟨fd, F⟩ := T.f__law_plain
  refine ⟨fd, F, fb_of F sc__law_plain (fun vs H Q E h => ?_) (fun cdv A outer s H vs Q E hr h => ?_)⟩
  · obtain ⟨i, z, rfl, _⟩ := h
    rfl
  · obtain ⟨i, z, rfl, hi, q⟩ := h
    refine ⟨_, (pss_cons (ps_if (pt_cmpR op_eq (pv 0) pe_int (nomark _))
      (pss_one (ps_ret (pe_exc1 PySem.F.excBase_ValueError T.x_NoTime.x T.g_NoTime T.x_NoTime.kp rfl (pv 1))))
      pss_nil)
      (pss_cons (ps_if (pt_cmpR op_eq (pv 0) pe_int (nomark _))
      (pss_one (ps_ret (pe_exc1 PySem.F.excBase_ValueError T.x_NoPiece.x T.g_NoPiece T.x_NoPiece.kp rfl (pv 1))))
      pss_nil)
      (pss_cons (ps_if (pt_cmpR op_eq (pv 0) pe_int (nomark _))
      (pss_one (ps_ret (pe_exc1 PySem.F.excBase_ValueError T.x_NoDays.x T.g_NoDays T.x_NoDays.kp rfl (pv 1))))
      pss_nil)
      (pss_cons (ps_if (pt_cmpR op_eq (pv 0) pe_int (nomark _))
      (pss_one (ps_ret (pe_exc1 PySem.F.excBase_ValueError T.x_NoCard.x T.g_NoCard T.x_NoCard.kp rfl (pv 1))))
      pss_nil)
      (pss_cons (ps_if (pt_cmpR op_eq (pv 0) pe_int (nomark _))
      (pss_one (ps_ret (pe_exc1 PySem.F.excBase_ValueError T.x_NoName.x T.g_NoName T.x_NoName.kp rfl (pv 1))))
      pss_nil)
      (pss_cons (ps_if (pt_cmpR op_eq (pv 0) pe_int (nomark _))
      (pss_one (ps_ret (pe_exc1 PySem.F.excBase_ValueError T.x_NoRow.x T.g_NoRow T.x_NoRow.kp rfl (pv 1))))
      pss_nil)
      (pss_one (ps_ret (pe_exc1 PySem.F.excBase_RuntimeError T.x_TooMuch.x T.g_TooMuch T.x_TooMuch.kp rfl (pv 1)))))))))), ?_⟩
    rcases (by omega : i = 0 ∨ i = 1 ∨ i = 2 ∨ i = 3 ∨ i = 4 ∨ i = 5 ∨ i = 6) with rfl | rfl | rfl | rfl | rfl | rfl | rfl
    · refine ⟨_, rfl, rfl, _, rfl, _, rfl, ?_⟩
      exact fun a na => q a na
    · refine ⟨_, rfl, rfl, _, rfl, _, rfl, rfl, _, rfl, _, rfl, ?_⟩
      exact fun a na => q a na
    · refine ⟨_, rfl, rfl, _, rfl, _, rfl, rfl, _, rfl, _, rfl, rfl, _, rfl, _, rfl, ?_⟩
      exact fun a na => q a na
    · refine ⟨_, rfl, rfl, _, rfl, _, rfl, rfl, _, rfl, _, rfl, rfl, _, rfl, _, rfl, rfl, _, rfl, _, rfl, ?_⟩
      exact fun a na => q a na
    · refine ⟨_, rfl, rfl, _, rfl, _, rfl, rfl, _, rfl, _, rfl, rfl, _, rfl, _, rfl, rfl, _, rfl, _, rfl, rfl, _, rfl, _, rfl, ?_⟩
      exact fun a na => q a na
    · refine ⟨_, rfl, rfl, _, rfl, _, rfl, rfl, _, rfl, _, rfl, rfl, _, rfl, _, rfl, rfl, _, rfl, _, rfl, rfl, _, rfl, _, rfl, rfl, _, rfl, _, rfl, ?_⟩
      exact fun a na => q a na
    · refine ⟨_, rfl, rfl, _, rfl, _, rfl, rfl, _, rfl, _, rfl, rfl, _, rfl, _, rfl, rfl, _, rfl, _, rfl, rfl, _, rfl, _, rfl, rfl, _, rfl, _, rfl, ?_⟩
      exact fun a na => q a na
theorem ok__law_plain {P : Program} {w : World} {K : PySem.W.Frag} {mg : Str → Option Value} {base : Heap} (T : Env K mg) : Fc P w K mg base 1 (He.ga K "_law_plain") [] (sp__law_plain K ) := by
  obtain ⟨fd, D, F⟩ := fb__law_plain T
  exact F.all (D.bindsN fun _ _ _ _ _ _ us hl => match us, hl with | [_, _], _ => rfl)
end
section
def sp__law_raised (K : PySem.W.Frag) : Sp := fun vs H Q E => ∃ (i : Nat) (x : V), vs = [.int (i : Nat), x] ∧ i < 13 ∧ (i < 7 → ∀ H', Ex H H' → E (.ref (He.ga K (rsC i))) none H') ∧ (7 ≤ i → ∀ d H', Ex H H' → H' d = some (.xd [(rsF i, x)]) → E (.ref (He.ga K (rsC i))) (some d) H')
theorem fb__law_raised {P : Program} {w : World} {K : PySem.W.Frag} {mg : Str → Option Value} {base : Heap} (T : Env K mg) : ∃ fd, FunD K "_law_raised" "_law_raised" (defArgs s__law_raised) (defBody s__law_raised) (defScope s__law_raised) [] [] (He.ga K "_law_raised") fd ∧ FbN P w K mg base 20 (He.ga K "_law_raised") fd ["_law_way", "_law_thing_here"] (sp__law_raised K) := by
  obtain ⟨fd, F⟩ := T.f__law_raised
  refine ⟨fd, F, fbN_of F sc__law_raised (fun vs H Q E h => ?_) (fun cdv A outer s H vs Q E hr h => ?_)⟩
  · obtain ⟨i, x, rfl, _⟩ := h
    rfl
  · obtain ⟨i, x, rfl, hi, q1, q2⟩ := h
    refine ⟨_, (pss_cons (ps_if (pt_cmpR op_eq (pv 0) pe_int (nomark _))
      (pss_one (L2N.ps_raise rfl (L2N.takes_of rfl rfl rfl rfl) (pmk_own1N PySem.F.excBase_ValueError T.x_NoTime.x T.g_NoTime T.x_NoTime.kp (raises_own T.x_NoTime.sub T.x_NoTime.ty) rfl (pv 1))))
      pss_nil)
      (pss_cons (ps_if (pt_cmpR op_eq (pv 0) pe_int (nomark _))
      (pss_one (L2N.ps_raise rfl (L2N.takes_of rfl rfl rfl rfl) (pmk_own1N PySem.F.excBase_ValueError T.x_NoPiece.x T.g_NoPiece T.x_NoPiece.kp (raises_own T.x_NoPiece.sub T.x_NoPiece.ty) rfl (pv 1))))
      pss_nil)
      (pss_cons (ps_if (pt_cmpR op_eq (pv 0) pe_int (nomark _))
      (pss_one (L2N.ps_raise rfl (L2N.takes_of rfl rfl rfl rfl) (pmk_own1N PySem.F.excBase_ValueError T.x_NoDays.x T.g_NoDays T.x_NoDays.kp (raises_own T.x_NoDays.sub T.x_NoDays.ty) rfl (pv 1))))
      pss_nil)
      (pss_cons (ps_if (pt_cmpR op_eq (pv 0) pe_int (nomark _))
      (pss_one (L2N.ps_raise rfl (L2N.takes_of rfl rfl rfl rfl) (pmk_own1N PySem.F.excBase_ValueError T.x_NoCard.x T.g_NoCard T.x_NoCard.kp (raises_own T.x_NoCard.sub T.x_NoCard.ty) rfl (pv 1))))
      pss_nil)
      (pss_cons (ps_if (pt_cmpR op_eq (pv 0) pe_int (nomark _))
      (pss_one (L2N.ps_raise rfl (L2N.takes_of rfl rfl rfl rfl) (pmk_own1N PySem.F.excBase_ValueError T.x_NoName.x T.g_NoName T.x_NoName.kp (raises_own T.x_NoName.sub T.x_NoName.ty) rfl (pv 1))))
      pss_nil)
      (pss_cons (ps_if (pt_cmpR op_eq (pv 0) pe_int (nomark _))
      (pss_one (L2N.ps_raise rfl (L2N.takes_of rfl rfl rfl rfl) (pmk_own1N PySem.F.excBase_ValueError T.x_NoRow.x T.g_NoRow T.x_NoRow.kp (raises_own T.x_NoRow.sub T.x_NoRow.ty) rfl (pv 1))))
      pss_nil)
      (pss_cons (ps_if (pt_cmpR op_eq (pv 0) pe_int (nomark _))
      (pss_one (L2N.ps_raise rfl (L2N.takes_of rfl rfl rfl rfl) (pmk_own1N PySem.F.excBase_RuntimeError T.x_TooMuch.x T.g_TooMuch T.x_TooMuch.kp (raises_own T.x_TooMuch.sub T.x_TooMuch.ty) rfl (pv 1))))
      pss_nil)
      (pss_cons (ps_if (pt_cmpR op_eq (pv 0) pe_int (nomark _))
      (pss_one (L2N.ps_raise rfl (L2N.takes_of rfl rfl rfl rfl) (pmk_oexBN baseV T.ox_NoText T.m_NoText_init (ok_NoText_init T) (hr.mono (by decide)) takes0 T.g_NoText (pa_cons (pv 1) pa_nil))))
      pss_nil)
      (pss_cons (ps_if (pt_cmpR op_eq (pv 0) pe_int (nomark _))
      (pss_one (L2N.ps_raise rfl (L2N.takes_of rfl rfl rfl rfl) (pmk_oexBN baseL T.ox_NoLine T.m_NoLine_init (ok_NoLine_init T) (hr.mono (by decide)) takes0 T.g_NoLine (pa_cons (pv 1) pa_nil))))
      pss_nil)
      (pss_cons (ps_if (pt_cmpR op_eq (pv 0) pe_int (nomark _))
      (pss_one (L2N.ps_raise rfl (L2N.takes_of rfl rfl rfl rfl) (pmk_oexBN baseL T.ox_NoGoing T.m_NoGoing_init (ok_NoGoing_init T) (hr.mono (by decide)) takes0 T.g_NoGoing (pa_cons (pv 1) pa_nil))))
      pss_nil)
      (pss_cons (ps_if (pt_cmpR op_eq (pv 0) pe_int (nomark _))
      (pss_one (L2N.ps_raise rfl (L2N.takes_of rfl rfl rfl rfl) (pmk_oexBN baseR T.ox_Needed T.m_Needed_init (ok_Needed_init T) (hr.mono (by decide)) takes0 T.g_Needed (pa_cons (pv 1) pa_nil))))
      pss_nil)
      (pss_cons (ps_if (pt_cmpR op_eq (pv 0) pe_int (nomark _))
      (pss_one (L2N.ps_raise rfl (L2N.takes_of rfl rfl rfl rfl) (pmk_oexBN baseR T.ox_Taken T.m_Taken_init (ok_Taken_init T) (hr.mono (by decide)) takes0 T.g_Taken (pa_cons (pv 1) pa_nil))))
      pss_nil)
      (pss_one (L2N.ps_raise rfl (L2N.takes_of rfl rfl rfl rfl) (pmk_oexBN baseR T.ox_Round T.m_Round_init (ok_Round_init T) (hr.mono (by decide)) takes0 T.g_Round (pa_cons (pv 1) pa_nil)))))))))))))))), ?_⟩
    rcases (by omega : i = 0 ∨ i = 1 ∨ i = 2 ∨ i = 3 ∨ i = 4 ∨ i = 5 ∨ i = 6 ∨ i = 7 ∨ i = 8 ∨ i = 9 ∨ i = 10 ∨ i = 11 ∨ i = 12) with rfl | rfl | rfl | rfl | rfl | rfl | rfl | rfl | rfl | rfl | rfl | rfl | rfl
    · refine ⟨_, rfl, rfl, _, rfl, _, rfl, ?_⟩
      exact q1 (by decide) _ (.refl _)
    · refine ⟨_, rfl, rfl, _, rfl, _, rfl, rfl, _, rfl, _, rfl, ?_⟩
      exact q1 (by decide) _ (.refl _)
    · refine ⟨_, rfl, rfl, _, rfl, _, rfl, rfl, _, rfl, _, rfl, rfl, _, rfl, _, rfl, ?_⟩
      exact q1 (by decide) _ (.refl _)
    · refine ⟨_, rfl, rfl, _, rfl, _, rfl, rfl, _, rfl, _, rfl, rfl, _, rfl, _, rfl, rfl, _, rfl, _, rfl, ?_⟩
      exact q1 (by decide) _ (.refl _)
    · refine ⟨_, rfl, rfl, _, rfl, _, rfl, rfl, _, rfl, _, rfl, rfl, _, rfl, _, rfl, rfl, _, rfl, _, rfl, rfl, _, rfl, _, rfl, ?_⟩
      exact q1 (by decide) _ (.refl _)
    · refine ⟨_, rfl, rfl, _, rfl, _, rfl, rfl, _, rfl, _, rfl, rfl, _, rfl, _, rfl, rfl, _, rfl, _, rfl, rfl, _, rfl, _, rfl, rfl, _, rfl, _, rfl, ?_⟩
      exact q1 (by decide) _ (.refl _)
    · refine ⟨_, rfl, rfl, _, rfl, _, rfl, rfl, _, rfl, _, rfl, rfl, _, rfl, _, rfl, rfl, _, rfl, _, rfl, rfl, _, rfl, _, rfl, rfl, _, rfl, _, rfl, rfl, _, rfl, _, rfl, ?_⟩
      exact q1 (by decide) _ (.refl _)
    · refine ⟨_, rfl, rfl, _, rfl, _, rfl, rfl, _, rfl, _, rfl, rfl, _, rfl, _, rfl, rfl, _, rfl, _, rfl, rfl, _, rfl, _, rfl, rfl, _, rfl, _, rfl, rfl, _, rfl, _, rfl, rfl, _, rfl, _, rfl, ?_⟩
      refine ⟨(by show 1 ≤ 1000; decide), fun a na => ?_⟩
      refine ⟨_, _, rfl, upd_same, fun d nd da => ⟨rfl, d, [("row", x)], upd_same, ?_, ?_, ?_⟩⟩
      · rw [upd_ne da]
        exact upd_same
      · rw [upd_ne da] at nd
        exact nd
      · rw [upd_ne da] at nd
        refine q2 (by decide) d _ (fun b o e => ?_) upd_same
        have ba := ne_of_none e na
        have bd := ne_of_none e nd
        rw [upd_ne bd, del_ne ba, upd_ne ba, upd_ne bd, upd_ne ba]
        exact e
    · refine ⟨_, rfl, rfl, _, rfl, _, rfl, rfl, _, rfl, _, rfl, rfl, _, rfl, _, rfl, rfl, _, rfl, _, rfl, rfl, _, rfl, _, rfl, rfl, _, rfl, _, rfl, rfl, _, rfl, _, rfl, rfl, _, rfl, _, rfl, rfl, _, rfl, _, rfl, ?_⟩
      refine ⟨(by show 1 ≤ 1000; decide), fun a na => ?_⟩
      refine ⟨_, _, rfl, upd_same, fun d nd da => ⟨rfl, d, [("name", x)], upd_same, ?_, ?_, ?_⟩⟩
      · rw [upd_ne da]
        exact upd_same
      · rw [upd_ne da] at nd
        exact nd
      · rw [upd_ne da] at nd
        refine q2 (by decide) d _ (fun b o e => ?_) upd_same
        have ba := ne_of_none e na
        have bd := ne_of_none e nd
        rw [upd_ne bd, del_ne ba, upd_ne ba, upd_ne bd, upd_ne ba]
        exact e
    · refine ⟨_, rfl, rfl, _, rfl, _, rfl, rfl, _, rfl, _, rfl, rfl, _, rfl, _, rfl, rfl, _, rfl, _, rfl, rfl, _, rfl, _, rfl, rfl, _, rfl, _, rfl, rfl, _, rfl, _, rfl, rfl, _, rfl, _, rfl, rfl, _, rfl, _, rfl, rfl, _, rfl, _, rfl, ?_⟩
      refine ⟨(by show 1 ≤ 1000; decide), fun a na => ?_⟩
      refine ⟨_, _, rfl, upd_same, fun d nd da => ⟨rfl, d, [("moment", x)], upd_same, ?_, ?_, ?_⟩⟩
      · rw [upd_ne da]
        exact upd_same
      · rw [upd_ne da] at nd
        exact nd
      · rw [upd_ne da] at nd
        refine q2 (by decide) d _ (fun b o e => ?_) upd_same
        have ba := ne_of_none e na
        have bd := ne_of_none e nd
        rw [upd_ne bd, del_ne ba, upd_ne ba, upd_ne bd, upd_ne ba]
        exact e
    · refine ⟨_, rfl, rfl, _, rfl, _, rfl, rfl, _, rfl, _, rfl, rfl, _, rfl, _, rfl, rfl, _, rfl, _, rfl, rfl, _, rfl, _, rfl, rfl, _, rfl, _, rfl, rfl, _, rfl, _, rfl, rfl, _, rfl, _, rfl, rfl, _, rfl, _, rfl, rfl, _, rfl, _, rfl, rfl, _, rfl, _, rfl, ?_⟩
      refine ⟨(by show 1 ≤ 1000; decide), fun a na => ?_⟩
      refine ⟨_, _, rfl, upd_same, fun d nd da => ⟨rfl, d, [("name", x)], upd_same, ?_, ?_, ?_⟩⟩
      · rw [upd_ne da]
        exact upd_same
      · rw [upd_ne da] at nd
        exact nd
      · rw [upd_ne da] at nd
        refine q2 (by decide) d _ (fun b o e => ?_) upd_same
        have ba := ne_of_none e na
        have bd := ne_of_none e nd
        rw [upd_ne bd, del_ne ba, upd_ne ba, upd_ne bd, upd_ne ba]
        exact e
    · refine ⟨_, rfl, rfl, _, rfl, _, rfl, rfl, _, rfl, _, rfl, rfl, _, rfl, _, rfl, rfl, _, rfl, _, rfl, rfl, _, rfl, _, rfl, rfl, _, rfl, _, rfl, rfl, _, rfl, _, rfl, rfl, _, rfl, _, rfl, rfl, _, rfl, _, rfl, rfl, _, rfl, _, rfl, rfl, _, rfl, _, rfl, rfl, _, rfl, _, rfl, ?_⟩
      refine ⟨(by show 1 ≤ 1000; decide), fun a na => ?_⟩
      refine ⟨_, _, rfl, upd_same, fun d nd da => ⟨rfl, d, [("moment", x)], upd_same, ?_, ?_, ?_⟩⟩
      · rw [upd_ne da]
        exact upd_same
      · rw [upd_ne da] at nd
        exact nd
      · rw [upd_ne da] at nd
        refine q2 (by decide) d _ (fun b o e => ?_) upd_same
        have ba := ne_of_none e na
        have bd := ne_of_none e nd
        rw [upd_ne bd, del_ne ba, upd_ne ba, upd_ne bd, upd_ne ba]
        exact e
    · refine ⟨_, rfl, rfl, _, rfl, _, rfl, rfl, _, rfl, _, rfl, rfl, _, rfl, _, rfl, rfl, _, rfl, _, rfl, rfl, _, rfl, _, rfl, rfl, _, rfl, _, rfl, rfl, _, rfl, _, rfl, rfl, _, rfl, _, rfl, rfl, _, rfl, _, rfl, rfl, _, rfl, _, rfl, rfl, _, rfl, _, rfl, rfl, _, rfl, _, rfl, ?_⟩
      refine ⟨(by show 1 ≤ 1000; decide), fun a na => ?_⟩
      refine ⟨_, _, rfl, upd_same, fun d nd da => ⟨rfl, d, [("chain", x)], upd_same, ?_, ?_, ?_⟩⟩
      · rw [upd_ne da]
        exact upd_same
      · rw [upd_ne da] at nd
        exact nd
      · rw [upd_ne da] at nd
        refine q2 (by decide) d _ (fun b o e => ?_) upd_same
        have ba := ne_of_none e na
        have bd := ne_of_none e nd
        rw [upd_ne bd, del_ne ba, upd_ne ba, upd_ne bd, upd_ne ba]
        exact e
theorem okN__law_raised {P : Program} {w : World} {K : PySem.W.Frag} {mg : Str → Option Value} {base : Heap} (T : Env K mg) : FcN P w K mg base 20 (He.ga K "_law_raised") [] (sp__law_raised K ) := by
  obtain ⟨fd, D, F⟩ := fb__law_raised T
  exact F.all (D.bindsN fun _ _ _ _ _ _ us hl => match us, hl with | [_, _], _ => rfl)
end
section
def sp__law_due (K : PySem.W.Frag) : Sp := fun vs H Q _ => ∃ (i : Nat), vs = [.int (i : Nat)] ∧ i < 13 ∧ ∀ f H', Ex H H' → H f = none → H' f = some (.lst (dueV i)) → Q (.ref f) H'
theorem fb__law_due {P : Program} {w : World} {K : PySem.W.Frag} {mg : Str → Option Value} {base : Heap} (T : Env K mg) : ∃ fd, FunD K "_law_due" "_law_due" (defArgs s__law_due) (defBody s__law_due) (defScope s__law_due) [] [] (He.ga K "_law_due") fd ∧ Fb P w K mg base 1 (He.ga K "_law_due") fd ["_law_way"] (sp__law_due K) := by
  obtain ⟨fd, F⟩ := T.f__law_due
  refine ⟨fd, F, fb_of F sc__law_due (fun vs H Q E h => ?_) (fun cdv A outer s H vs Q E hr h => ?_)⟩
  · obtain ⟨i, rfl, _⟩ := h
    rfl
  · obtain ⟨i, rfl, hi, q⟩ := h
    refine ⟨_, (pss_cons (ps_if (PW.pt (pw_or (pt_cmpR op_eq (pv 0) pe_int (nomark _)) (pw_or1 (pt_cmpR op_gt (pv 0) pe_int (nomark _)))))
      (pss_one (ps_ret (pe_lst (pa_cons (pv 0) (pa_cons pe_int (pa_cons pe_int pa_nil))))))
      pss_nil)
      (pss_cons (ps_if (pt_cmpR op_gt (pv 0) pe_int (nomark _))
      (pss_one (ps_ret (pe_lst (pa_cons (pv 0) (pa_cons pe_int (pa_cons pe_int pa_nil))))))
      pss_nil)
      (pss_one (ps_ret (pe_lst (pa_cons (pv 0) (pa_cons pe_int (pa_cons pe_int pa_nil)))))))), ?_⟩
    rcases (by omega : i = 0 ∨ i = 1 ∨ i = 2 ∨ i = 3 ∨ i = 4 ∨ i = 5 ∨ i = 6 ∨ i = 7 ∨ i = 8 ∨ i = 9 ∨ i = 10 ∨ i = 11 ∨ i = 12) with rfl | rfl | rfl | rfl | rfl | rfl | rfl | rfl | rfl | rfl | rfl | rfl | rfl
    · refine ⟨_, rfl, rfl, _, rfl, _, rfl, _, _, rfl, rfl, _, rfl, _, rfl, _, _, rfl, rfl, _, rfl, _, rfl, (by decide), ?_⟩
      intro a1 na1
      have Xa1 := ex_new (o := HO.lst [V.int (↑0 : Int), V.int 13, V.int 16]) na1
      have ha1 : upd H a1 (HO.lst [V.int (↑0 : Int), V.int 13, V.int 16]) a1 = some (HO.lst [V.int (↑0 : Int), V.int 13, V.int 16]) := upd_same
      generalize upd H a1 (HO.lst [V.int (↑0 : Int), V.int 13, V.int 16]) = Ga1 at Xa1 ha1 ⊢
      try dsimp only [tNil]
      exact q a1 Ga1 Xa1 na1 ha1
    · refine ⟨_, rfl, rfl, _, rfl, _, rfl, _, _, rfl, rfl, _, rfl, _, rfl, _, _, rfl, rfl, _, rfl, _, rfl, (by decide), ?_⟩
      intro a1 na1
      have Xa1 := ex_new (o := HO.lst [V.int (↑1 : Int), V.int 13, V.int 16]) na1
      have ha1 : upd H a1 (HO.lst [V.int (↑1 : Int), V.int 13, V.int 16]) a1 = some (HO.lst [V.int (↑1 : Int), V.int 13, V.int 16]) := upd_same
      generalize upd H a1 (HO.lst [V.int (↑1 : Int), V.int 13, V.int 16]) = Ga1 at Xa1 ha1 ⊢
      try dsimp only [tNil]
      exact q a1 Ga1 Xa1 na1 ha1
    · refine ⟨_, rfl, rfl, _, rfl, _, rfl, _, _, rfl, rfl, _, rfl, _, rfl, _, _, rfl, rfl, _, rfl, _, rfl, (by decide), ?_⟩
      intro a1 na1
      have Xa1 := ex_new (o := HO.lst [V.int (↑2 : Int), V.int 13, V.int 16]) na1
      have ha1 : upd H a1 (HO.lst [V.int (↑2 : Int), V.int 13, V.int 16]) a1 = some (HO.lst [V.int (↑2 : Int), V.int 13, V.int 16]) := upd_same
      generalize upd H a1 (HO.lst [V.int (↑2 : Int), V.int 13, V.int 16]) = Ga1 at Xa1 ha1 ⊢
      try dsimp only [tNil]
      exact q a1 Ga1 Xa1 na1 ha1
    · refine ⟨_, rfl, rfl, _, rfl, _, rfl, _, _, rfl, rfl, _, rfl, _, rfl, _, _, rfl, rfl, _, rfl, _, rfl, (by decide), ?_⟩
      intro a1 na1
      have Xa1 := ex_new (o := HO.lst [V.int (↑3 : Int), V.int 13, V.int 16]) na1
      have ha1 : upd H a1 (HO.lst [V.int (↑3 : Int), V.int 13, V.int 16]) a1 = some (HO.lst [V.int (↑3 : Int), V.int 13, V.int 16]) := upd_same
      generalize upd H a1 (HO.lst [V.int (↑3 : Int), V.int 13, V.int 16]) = Ga1 at Xa1 ha1 ⊢
      try dsimp only [tNil]
      exact q a1 Ga1 Xa1 na1 ha1
    · refine ⟨_, rfl, rfl, _, rfl, _, rfl, _, _, rfl, rfl, _, rfl, _, rfl, _, _, rfl, rfl, _, rfl, _, rfl, (by decide), ?_⟩
      intro a1 na1
      have Xa1 := ex_new (o := HO.lst [V.int (↑4 : Int), V.int 13, V.int 16]) na1
      have ha1 : upd H a1 (HO.lst [V.int (↑4 : Int), V.int 13, V.int 16]) a1 = some (HO.lst [V.int (↑4 : Int), V.int 13, V.int 16]) := upd_same
      generalize upd H a1 (HO.lst [V.int (↑4 : Int), V.int 13, V.int 16]) = Ga1 at Xa1 ha1 ⊢
      try dsimp only [tNil]
      exact q a1 Ga1 Xa1 na1 ha1
    · refine ⟨_, rfl, rfl, _, rfl, _, rfl, _, _, rfl, rfl, _, rfl, _, rfl, _, _, rfl, rfl, _, rfl, _, rfl, (by decide), ?_⟩
      intro a1 na1
      have Xa1 := ex_new (o := HO.lst [V.int (↑5 : Int), V.int 13, V.int 16]) na1
      have ha1 : upd H a1 (HO.lst [V.int (↑5 : Int), V.int 13, V.int 16]) a1 = some (HO.lst [V.int (↑5 : Int), V.int 13, V.int 16]) := upd_same
      generalize upd H a1 (HO.lst [V.int (↑5 : Int), V.int 13, V.int 16]) = Ga1 at Xa1 ha1 ⊢
      try dsimp only [tNil]
      exact q a1 Ga1 Xa1 na1 ha1
    · refine ⟨_, rfl, rfl, _, rfl, _, rfl, (by decide), ?_⟩
      intro a1 na1
      have Xa1 := ex_new (o := HO.lst [V.int (↑6 : Int), V.int 15, V.int 18]) na1
      have ha1 : upd H a1 (HO.lst [V.int (↑6 : Int), V.int 15, V.int 18]) a1 = some (HO.lst [V.int (↑6 : Int), V.int 15, V.int 18]) := upd_same
      generalize upd H a1 (HO.lst [V.int (↑6 : Int), V.int 15, V.int 18]) = Ga1 at Xa1 ha1 ⊢
      try dsimp only [tNil]
      exact q a1 Ga1 Xa1 na1 ha1
    · refine ⟨_, rfl, rfl, _, rfl, _, rfl, _, _, rfl, rfl, _, rfl, _, rfl, _, _, rfl, rfl, _, rfl, _, rfl, (by decide), ?_⟩
      intro a1 na1
      have Xa1 := ex_new (o := HO.lst [V.int (↑7 : Int), V.int 13, V.int 16]) na1
      have ha1 : upd H a1 (HO.lst [V.int (↑7 : Int), V.int 13, V.int 16]) a1 = some (HO.lst [V.int (↑7 : Int), V.int 13, V.int 16]) := upd_same
      generalize upd H a1 (HO.lst [V.int (↑7 : Int), V.int 13, V.int 16]) = Ga1 at Xa1 ha1 ⊢
      try dsimp only [tNil]
      exact q a1 Ga1 Xa1 na1 ha1
    · refine ⟨_, rfl, rfl, _, rfl, _, rfl, _, _, rfl, rfl, _, rfl, _, rfl, _, _, rfl, rfl, _, rfl, _, rfl, (by decide), ?_⟩
      intro a1 na1
      have Xa1 := ex_new (o := HO.lst [V.int (↑8 : Int), V.int 14, V.int 17]) na1
      have ha1 : upd H a1 (HO.lst [V.int (↑8 : Int), V.int 14, V.int 17]) a1 = some (HO.lst [V.int (↑8 : Int), V.int 14, V.int 17]) := upd_same
      generalize upd H a1 (HO.lst [V.int (↑8 : Int), V.int 14, V.int 17]) = Ga1 at Xa1 ha1 ⊢
      try dsimp only [tNil]
      exact q a1 Ga1 Xa1 na1 ha1
    · refine ⟨_, rfl, rfl, _, rfl, _, rfl, _, _, rfl, rfl, _, rfl, _, rfl, _, _, rfl, rfl, _, rfl, _, rfl, (by decide), ?_⟩
      intro a1 na1
      have Xa1 := ex_new (o := HO.lst [V.int (↑9 : Int), V.int 14, V.int 17]) na1
      have ha1 : upd H a1 (HO.lst [V.int (↑9 : Int), V.int 14, V.int 17]) a1 = some (HO.lst [V.int (↑9 : Int), V.int 14, V.int 17]) := upd_same
      generalize upd H a1 (HO.lst [V.int (↑9 : Int), V.int 14, V.int 17]) = Ga1 at Xa1 ha1 ⊢
      try dsimp only [tNil]
      exact q a1 Ga1 Xa1 na1 ha1
    · refine ⟨_, rfl, rfl, _, rfl, _, rfl, _, _, rfl, rfl, _, rfl, _, rfl, (by decide), ?_⟩
      intro a1 na1
      have Xa1 := ex_new (o := HO.lst [V.int (↑10 : Int), V.int 15, V.int 18]) na1
      have ha1 : upd H a1 (HO.lst [V.int (↑10 : Int), V.int 15, V.int 18]) a1 = some (HO.lst [V.int (↑10 : Int), V.int 15, V.int 18]) := upd_same
      generalize upd H a1 (HO.lst [V.int (↑10 : Int), V.int 15, V.int 18]) = Ga1 at Xa1 ha1 ⊢
      try dsimp only [tNil]
      exact q a1 Ga1 Xa1 na1 ha1
    · refine ⟨_, rfl, rfl, _, rfl, _, rfl, _, _, rfl, rfl, _, rfl, _, rfl, (by decide), ?_⟩
      intro a1 na1
      have Xa1 := ex_new (o := HO.lst [V.int (↑11 : Int), V.int 15, V.int 18]) na1
      have ha1 : upd H a1 (HO.lst [V.int (↑11 : Int), V.int 15, V.int 18]) a1 = some (HO.lst [V.int (↑11 : Int), V.int 15, V.int 18]) := upd_same
      generalize upd H a1 (HO.lst [V.int (↑11 : Int), V.int 15, V.int 18]) = Ga1 at Xa1 ha1 ⊢
      try dsimp only [tNil]
      exact q a1 Ga1 Xa1 na1 ha1
    · refine ⟨_, rfl, rfl, _, rfl, _, rfl, _, _, rfl, rfl, _, rfl, _, rfl, (by decide), ?_⟩
      intro a1 na1
      have Xa1 := ex_new (o := HO.lst [V.int (↑12 : Int), V.int 15, V.int 18]) na1
      have ha1 : upd H a1 (HO.lst [V.int (↑12 : Int), V.int 15, V.int 18]) a1 = some (HO.lst [V.int (↑12 : Int), V.int 15, V.int 18]) := upd_same
      generalize upd H a1 (HO.lst [V.int (↑12 : Int), V.int 15, V.int 18]) = Ga1 at Xa1 ha1 ⊢
      try dsimp only [tNil]
      exact q a1 Ga1 Xa1 na1 ha1
theorem ok__law_due {P : Program} {w : World} {K : PySem.W.Frag} {mg : Str → Option Value} {base : Heap} (T : Env K mg) : Fc P w K mg base 1 (He.ga K "_law_due") [] (sp__law_due K ) := by
  obtain ⟨fd, D, F⟩ := fb__law_due T
  exact F.all (D.bindsN fun _ _ _ _ _ _ us hl => match us, hl with | [_], _ => rfl)
end
section
def sp__law_stands (K : PySem.W.Frag) : Sp := fun vs H Q _ => ∃ (i : Nat) (x : V), vs = [.int (i : Nat), x] ∧ i < 13 ∧ ∀ H', Ex H H' → Q (.bl true) H'
theorem fb__law_stands {P : Program} {w : World} {K : PySem.W.Frag} {mg : Str → Option Value} {base : Heap} (T : Env K mg) : ∃ fd, FunD K "_law_stands" "_law_stands" (defArgs s__law_stands) (defBody s__law_stands) (defScope s__law_stands) [] [] (He.ga K "_law_stands") fd ∧ Fb P w K mg base 24 (He.ga K "_law_stands") fd ["_law_way", "_law_thing_here"] (sp__law_stands K) := by
  obtain ⟨fd, F⟩ := T.f__law_stands
  refine ⟨fd, F, fb_of F sc__law_stands (fun vs H Q E h => ?_) (fun cdv A outer s H vs Q E hr h => ?_)⟩
  · obtain ⟨i, x, rfl, _⟩ := h
    rfl
  · obtain ⟨i, x, rfl, hi, q⟩ := h
    refine ⟨_, (pss_cons (ps_set (i := 2) sc__law_stands.nd rfl (Or.inl rfl) (pe_lst pa_nil))
      (pss_cons (ps_tryTN (i := 3) rfl rfl sc__law_stands.nd rfl rfl T.g_GoingError T.g_LackError T.g_BookError (fun W pn xe tk po => (pss_one (ps_expr (c_callN (okN__law_raised T) (hr.mono (by decide)) T.g__law_raised T.k__law_raised tk (pa_cons (pv 0) (pa_cons (pv 1) pa_nil)))))) (fun a oe cls d pn hz hf => (pss_one (ps_set (i := 2) sc__law_stands.nd rfl (Or.inl rfl) (c_callQ (ok__law_kinds T) (roomM (hr.mono (by decide))) List.mem_cons_self hz hf T.g__law_kinds T.k__law_kinds takes0 (pa_cons (pv 3) pa_nil))))))
      (pss_one (ps_ret (pe_cmpR (op_eqD hr.rm.units) (pv 2) (c_call (ok__law_due T) (hr.mono (by decide)) T.g__law_due T.k__law_due takes0 (pa_cons (pv 0) pa_nil)) (nomark _)))))), ?_⟩
    refine ⟨(by decide), ?_⟩
    intro a1 na1
    have Xa1 := ex_new (o := HO.lst []) na1
    have ha1 : upd H a1 (HO.lst []) a1 = some (HO.lst []) := upd_same
    generalize upd H a1 (HO.lst []) = Ga1 at Xa1 ha1 ⊢
    refine ⟨_, rfl, _, rfl, _, _, rfl, hi, ?_⟩
    have key : ∀ (W : WX) (d : Option Addr) (H' : Hp), Ex Ga1 H' → XdAt H' d → W = wTup K [Value.ref (He.ga K "GoingError"), Value.ref (He.ga K "LackError"), Value.ref (He.ga K "BookError")] 3 (fun a cls d => tAsg (tFcP a cls d (sp__law_kinds K) (fun _ _ _ _ => False) (tCons (tVar 3) tNil)) (gName 2)) { nx := tRet (tOp (rEqD K) (tVar 2) (tFc (sp__law_due K) (fun _ _ _ _ => False) (tCons (tVar 0) tNil))) { nx := fun x H' => Q V.non H', rt := Q }, rt := Q } → W (Value.ref (He.ga K (rsC i))) d [some (.int (i : Nat)), some x, some (.ref a1), none] H' := by
      rintro W d H1 X1 hd rfl
      refine ⟨exm_all T hi, fun e ne => ?_⟩
      refine ⟨_, rfl, fun oe hz hf => ⟨e, _, d, bitsK i, rfl, rfl, hz, hf, xc_all T hi, hd, kin_all T hi, fun f H2 X2 nf hf2 => ?_⟩⟩
      refine ⟨_, rfl, _, rfl, i, rfl, hi, fun g H3 X3 ng hg => ?_⟩
      rw [kind_due hi] at hf2
      refine ⟨.list [.int (i : Nat), .int (baI i : Nat), .int (baI i + 3 : Nat)], .list [.int (i : Nat), .int (baI i : Nat), .int (baI i + 3 : Nat)], ?_, ?_, rfl, rfl, ?_⟩
      · exact .lst (sq_lst (X3 _ _ hf2)) (.cons (.int _) (.cons (.int _) (.cons (.int _) .nil)))
      · exact .lst (sq_lst hg) (.cons (.int _) (.cons (.int _) (.cons (.int _) .nil)))
      · rw [SeqAt.eqv_refl _ rfl]
        exact q _ (Xa1.trans (X1.trans (X2.trans X3)))
    exact ⟨fun _ H' X' => key _ none H' X' (.inl rfl) rfl, fun _ d H' X' hd => key _ (some d) H' X' (.inr ⟨d, _, rfl, hd⟩) rfl⟩
theorem ok__law_stands {P : Program} {w : World} {K : PySem.W.Frag} {mg : Str → Option Value} {base : Heap} (T : Env K mg) : Fc P w K mg base 24 (He.ga K "_law_stands") [] (sp__law_stands K ) := by
  obtain ⟨fd, D, F⟩ := fb__law_stands T
  exact F.all (D.bindsN fun _ _ _ _ _ _ us hl => match us, hl with | [_, _], _ => rfl)
end
section
theorem ex_exm {H : Hp} {a d : Addr} {x y z : HO} (na : H a = none) (nd : upd H a x d = none) : Ex H (upd (upd (upd H a x) d y) a z) ∧ upd (upd (upd H a x) d y) a z a = some z ∧ (d ≠ a → upd (upd (upd H a x) d y) a z d = some y) := by
  refine ⟨fun b o e => ?_, upd_same, fun da => by rw [upd_ne da]; exact upd_same⟩
  have ba := ne_of_none e na
  have da : d ≠ a := fun w => by rw [w, upd_same] at nd; cases nd
  rw [upd_ne da] at nd
  rw [upd_ne ba, upd_ne (ne_of_none e nd), upd_ne ba]
  exact e
def sp__law_two (K : PySem.W.Frag) : Sp := fun vs H Q _ => ∃ (i : Nat) (x y : V), vs = [.int (i : Nat), x, y] ∧ i < 13 ∧ 7 ≤ i ∧ ∀ f H', Ex H H' → H f = none → H' f = some (.lst [x, y]) → Q (.ref f) H'
theorem fb__law_two {P : Program} {w : World} {K : PySem.W.Frag} {mg : Str → Option Value} {base : Heap} (T : Env K mg) : ∃ fd, FunD K "_law_two" "_law_two" (defArgs s__law_two) (defBody s__law_two) (defScope s__law_two) [] [] (He.ga K "_law_two") fd ∧ Fb P w K mg base 20 (He.ga K "_law_two") fd ["_law_way", "_law_one", "_law_other"] (sp__law_two K) := by
  obtain ⟨fd, F⟩ := T.f__law_two
  refine ⟨fd, F, fb_of F sc__law_two (fun vs H Q E h => ?_) (fun cdv A outer s H vs Q E hr h => ?_)⟩
  · obtain ⟨i, x, y, rfl, _⟩ := h
    rfl
  · obtain ⟨i, x, y, rfl, hi, h7, q⟩ := h
    refine ⟨_, (pss_cons (ps_if (pt_cmpR op_eq (pv 0) pe_int (nomark _))
      (pss_cons (ps_set (i := 3) sc__law_two.nd rfl (Or.inl rfl) (pe_lst (pa_cons (pe_oexV baseV T.ox_NoText T.m_NoText_init (ok_NoText_init T) (hr.mono (by decide)) takes0 T.g_NoText (pa_cons (pv 1) pa_nil)) (pa_cons (pe_oexVK baseV T.ox_NoText T.m_NoText_init (ok_NoText_init_1_row T) (hr.mono (by decide)) takes0 T.g_NoText (pk_cons (pv 2) pk_nil)) pa_nil))))
      (pss_one (ps_ret (pe_lc (own := [("_law_e", 4)]) (by rfl) sc__law_two.nd (pi_list (pv 3)) (blkOk_by (own := [("_law_e", 4)]) (N := ["_law_way", "_law_one", "_law_other", "_law_some", "_law_e"]) (sc := defScope s__law_two) (by decide +kernel)) (fun _ _ _ _ _ => (pg_name (i := 4) sc__law_two.nd rfl (Or.inl rfl))) (fun _ _ _ _ _ => pts_nil) (fun _ _ _ _ _ => (pe_xo T.xf_NoText T.a_NoText_row (pv 4)))))))
      pss_nil)
      (pss_cons (ps_if (pt_cmpR op_eq (pv 0) pe_int (nomark _))
      (pss_cons (ps_set (i := 3) sc__law_two.nd rfl (Or.inl rfl) (pe_lst (pa_cons (pe_oexV baseL T.ox_NoLine T.m_NoLine_init (ok_NoLine_init T) (hr.mono (by decide)) takes0 T.g_NoLine (pa_cons (pv 1) pa_nil)) (pa_cons (pe_oexVK baseL T.ox_NoLine T.m_NoLine_init (ok_NoLine_init_1_name T) (hr.mono (by decide)) takes0 T.g_NoLine (pk_cons (pv 2) pk_nil)) pa_nil))))
      (pss_one (ps_ret (pe_lc (own := [("_law_e", 4)]) (by rfl) sc__law_two.nd (pi_list (pv 3)) (blkOk_by (own := [("_law_e", 4)]) (N := ["_law_way", "_law_one", "_law_other", "_law_some", "_law_e"]) (sc := defScope s__law_two) (by decide +kernel)) (fun _ _ _ _ _ => (pg_name (i := 4) sc__law_two.nd rfl (Or.inl rfl))) (fun _ _ _ _ _ => pts_nil) (fun _ _ _ _ _ => (pe_orE (pe_xo T.xf_NoLine T.a_NoLine_name (pv 4)) (pe_xo T.xf_Needed T.a_Needed_name (pv 4))))))))
      pss_nil)
      (pss_cons (ps_if (pt_cmpR op_eq (pv 0) pe_int (nomark _))
      (pss_cons (ps_set (i := 3) sc__law_two.nd rfl (Or.inl rfl) (pe_lst (pa_cons (pe_oexV baseL T.ox_NoGoing T.m_NoGoing_init (ok_NoGoing_init T) (hr.mono (by decide)) takes0 T.g_NoGoing (pa_cons (pv 1) pa_nil)) (pa_cons (pe_oexVK baseL T.ox_NoGoing T.m_NoGoing_init (ok_NoGoing_init_1_moment T) (hr.mono (by decide)) takes0 T.g_NoGoing (pk_cons (pv 2) pk_nil)) pa_nil))))
      (pss_one (ps_ret (pe_lc (own := [("_law_e", 4)]) (by rfl) sc__law_two.nd (pi_list (pv 3)) (blkOk_by (own := [("_law_e", 4)]) (N := ["_law_way", "_law_one", "_law_other", "_law_some", "_law_e"]) (sc := defScope s__law_two) (by decide +kernel)) (fun _ _ _ _ _ => (pg_name (i := 4) sc__law_two.nd rfl (Or.inl rfl))) (fun _ _ _ _ _ => pts_nil) (fun _ _ _ _ _ => (pe_orE (pe_xo T.xf_NoGoing T.a_NoGoing_moment (pv 4)) (pe_xo T.xf_Taken T.a_Taken_moment (pv 4))))))))
      pss_nil)
      (pss_cons (ps_if (pt_cmpR op_eq (pv 0) pe_int (nomark _))
      (pss_cons (ps_set (i := 3) sc__law_two.nd rfl (Or.inl rfl) (pe_lst (pa_cons (pe_oexV baseR T.ox_Needed T.m_Needed_init (ok_Needed_init T) (hr.mono (by decide)) takes0 T.g_Needed (pa_cons (pv 1) pa_nil)) (pa_cons (pe_oexVK baseR T.ox_Needed T.m_Needed_init (ok_Needed_init_1_name T) (hr.mono (by decide)) takes0 T.g_Needed (pk_cons (pv 2) pk_nil)) pa_nil))))
      (pss_one (ps_ret (pe_lc (own := [("_law_e", 4)]) (by rfl) sc__law_two.nd (pi_list (pv 3)) (blkOk_by (own := [("_law_e", 4)]) (N := ["_law_way", "_law_one", "_law_other", "_law_some", "_law_e"]) (sc := defScope s__law_two) (by decide +kernel)) (fun _ _ _ _ _ => (pg_name (i := 4) sc__law_two.nd rfl (Or.inl rfl))) (fun _ _ _ _ _ => pts_nil) (fun _ _ _ _ _ => (pe_orE (pe_xo T.xf_NoLine T.a_NoLine_name (pv 4)) (pe_xo T.xf_Needed T.a_Needed_name (pv 4))))))))
      pss_nil)
      (pss_cons (ps_if (pt_cmpR op_eq (pv 0) pe_int (nomark _))
      (pss_cons (ps_set (i := 3) sc__law_two.nd rfl (Or.inl rfl) (pe_lst (pa_cons (pe_oexV baseR T.ox_Taken T.m_Taken_init (ok_Taken_init T) (hr.mono (by decide)) takes0 T.g_Taken (pa_cons (pv 1) pa_nil)) (pa_cons (pe_oexVK baseR T.ox_Taken T.m_Taken_init (ok_Taken_init_1_moment T) (hr.mono (by decide)) takes0 T.g_Taken (pk_cons (pv 2) pk_nil)) pa_nil))))
      (pss_one (ps_ret (pe_lc (own := [("_law_e", 4)]) (by rfl) sc__law_two.nd (pi_list (pv 3)) (blkOk_by (own := [("_law_e", 4)]) (N := ["_law_way", "_law_one", "_law_other", "_law_some", "_law_e"]) (sc := defScope s__law_two) (by decide +kernel)) (fun _ _ _ _ _ => (pg_name (i := 4) sc__law_two.nd rfl (Or.inl rfl))) (fun _ _ _ _ _ => pts_nil) (fun _ _ _ _ _ => (pe_orE (pe_xo T.xf_NoGoing T.a_NoGoing_moment (pv 4)) (pe_xo T.xf_Taken T.a_Taken_moment (pv 4))))))))
      pss_nil)
      (pss_cons (ps_set (i := 3) sc__law_two.nd rfl (Or.inl rfl) (pe_lst (pa_cons (pe_oexV baseR T.ox_Round T.m_Round_init (ok_Round_init T) (hr.mono (by decide)) takes0 T.g_Round (pa_cons (pv 1) pa_nil)) (pa_cons (pe_oexVK baseR T.ox_Round T.m_Round_init (ok_Round_init_1_chain T) (hr.mono (by decide)) takes0 T.g_Round (pk_cons (pv 2) pk_nil)) pa_nil))))
      (pss_one (ps_ret (pe_lc (own := [("_law_e", 4)]) (by rfl) sc__law_two.nd (pi_list (pv 3)) (blkOk_by (own := [("_law_e", 4)]) (N := ["_law_way", "_law_one", "_law_other", "_law_some", "_law_e"]) (sc := defScope s__law_two) (by decide +kernel)) (fun _ _ _ _ _ => (pg_name (i := 4) sc__law_two.nd rfl (Or.inl rfl))) (fun _ _ _ _ _ => pts_nil) (fun _ _ _ _ _ => (pe_xo T.xf_Round T.a_Round_chain (pv 4)))))))))))), ?_⟩
    rcases (by omega : i = 7 ∨ i = 8 ∨ i = 9 ∨ i = 10 ∨ i = 11 ∨ i = 12) with rfl | rfl | rfl | rfl | rfl | rfl
    · refine ⟨_, rfl, rfl, _, rfl, _, rfl, ?_⟩
      refine ⟨(by show 1 ≤ 1000; decide), fun a na => ?_⟩
      refine ⟨_, _, rfl, upd_same, fun d nd da => ⟨rfl, ?_⟩⟩
      obtain ⟨X1, h1, k1⟩ := ex_exm (y := exd d [("row", x)]) (z := exo a (He.ga K "NoText") (some d)) na nd
      have k1 := k1 da
      dsimp only [cxOf]
      generalize upd (upd (upd H a (exo a (He.ga K "NoText") none)) d (exd d [("row", x)])) a (exo a (He.ga K "NoText") (some d)) = G1 at X1 h1 k1 ⊢
      refine ⟨_, rfl, rfl, fun a2 na2 => ⟨rfl, _, _, rfl, upd_same, fun d2 nd2 da2 => ⟨rfl, ?_⟩⟩⟩
      obtain ⟨X2, h2, k2⟩ := ex_exm (y := exd d2 [("row", y)]) (z := exo a2 (He.ga K "NoText") (some d2)) na2 nd2
      have k2 := k2 da2
      try dsimp only [cxOf]
      have h1 := X2 _ _ h1
      have k1 := X2 _ _ k1
      have X2 := X1.trans X2
      generalize upd (upd (upd G1 a2 (exo a2 (He.ga K "NoText") none)) d2 (exd d2 [("row", y)])) a2 (exo a2 (He.ga K "NoText") (some d2)) = G2 at X2 h1 k1 h2 k2 ⊢
      refine ⟨(by show 2 ≤ sizeLine; decide), fun p np => ?_⟩
      have X3 := ex_new (o := .lst [.ref a, .ref a2]) np
      have h1 := X3 _ _ h1
      have k1 := X3 _ _ k1
      have h2 := X3 _ _ h2
      have k2 := X3 _ _ k2
      have X3 := X2.trans X3
      have hp : upd G2 p (.lst [.ref a, .ref a2]) p = some (.lst [.ref a, .ref a2]) := upd_same
      generalize upd G2 p (.lst [.ref a, .ref a2]) = G3 at X3 h1 k1 h2 k2 hp ⊢
      refine ⟨_, rfl, p, rfl, ⟨_, sq_lst hp⟩, fun D nD => lc_fm L2.walk_list (fun i => [x, y][i]?) (fun H' => Ex G3 H') (fun H' z e => ex_mut e nD) (.refl _) (by show 2 ≤ 100000; decide) (fun H' e => sq_lst (e _ _ hp)) (fun i z H2 H3 acc N hi e hD la y9 k => ?_) fun H3 X9 d3 => ?_⟩
      · obtain ⟨rfl, y9⟩ := y9
        have k9 := k _ e hD
        rcases (by have : i < 2 := hi; omega : i = 0 ∨ i = 1) with rfl | rfl
        · cases y9
          refine ⟨rfl, ?_⟩
          exact ⟨_, rfl, a, d, _, x, rfl, e _ _ h1, e _ _ k1, rfl, acc, hD, la, k9⟩
        · cases y9
          refine ⟨rfl, ?_⟩
          exact ⟨_, rfl, a2, d2, _, y, rfl, e _ _ h2, e _ _ k2, rfl, acc, hD, la, k9⟩
      · exact q D H3 (X3.trans X9) (ex_fresh X3 nD) d3
    · refine ⟨_, rfl, rfl, _, rfl, _, rfl, rfl, _, rfl, _, rfl, ?_⟩
      refine ⟨(by show 1 ≤ 1000; decide), fun a na => ?_⟩
      refine ⟨_, _, rfl, upd_same, fun d nd da => ⟨rfl, ?_⟩⟩
      obtain ⟨X1, h1, k1⟩ := ex_exm (y := exd d [("name", x)]) (z := exo a (He.ga K "NoLine") (some d)) na nd
      have k1 := k1 da
      dsimp only [cxOf]
      generalize upd (upd (upd H a (exo a (He.ga K "NoLine") none)) d (exd d [("name", x)])) a (exo a (He.ga K "NoLine") (some d)) = G1 at X1 h1 k1 ⊢
      refine ⟨_, rfl, rfl, fun a2 na2 => ⟨rfl, _, _, rfl, upd_same, fun d2 nd2 da2 => ⟨rfl, ?_⟩⟩⟩
      obtain ⟨X2, h2, k2⟩ := ex_exm (y := exd d2 [("name", y)]) (z := exo a2 (He.ga K "NoLine") (some d2)) na2 nd2
      have k2 := k2 da2
      try dsimp only [cxOf]
      have h1 := X2 _ _ h1
      have k1 := X2 _ _ k1
      have X2 := X1.trans X2
      generalize upd (upd (upd G1 a2 (exo a2 (He.ga K "NoLine") none)) d2 (exd d2 [("name", y)])) a2 (exo a2 (He.ga K "NoLine") (some d2)) = G2 at X2 h1 k1 h2 k2 ⊢
      refine ⟨(by show 2 ≤ sizeLine; decide), fun p np => ?_⟩
      have X3 := ex_new (o := .lst [.ref a, .ref a2]) np
      have h1 := X3 _ _ h1
      have k1 := X3 _ _ k1
      have h2 := X3 _ _ h2
      have k2 := X3 _ _ k2
      have X3 := X2.trans X3
      have hp : upd G2 p (.lst [.ref a, .ref a2]) p = some (.lst [.ref a, .ref a2]) := upd_same
      generalize upd G2 p (.lst [.ref a, .ref a2]) = G3 at X3 h1 k1 h2 k2 hp ⊢
      refine ⟨_, rfl, p, rfl, ⟨_, sq_lst hp⟩, fun D nD => lc_fm L2.walk_list (fun i => [x, y][i]?) (fun H' => Ex G3 H') (fun H' z e => ex_mut e nD) (.refl _) (by show 2 ≤ 100000; decide) (fun H' e => sq_lst (e _ _ hp)) (fun i z H2 H3 acc N hi e hD la y9 k => ?_) fun H3 X9 d3 => ?_⟩
      · obtain ⟨rfl, y9⟩ := y9
        have k9 := k _ e hD
        rcases (by have : i < 2 := hi; omega : i = 0 ∨ i = 1) with rfl | rfl
        · cases y9
          refine ⟨rfl, ?_⟩
          exact (.inl ⟨_, rfl, a, d, _, x, rfl, e _ _ h1, e _ _ k1, rfl, acc, hD, la, k9⟩)
        · cases y9
          refine ⟨rfl, ?_⟩
          exact (.inl ⟨_, rfl, a2, d2, _, y, rfl, e _ _ h2, e _ _ k2, rfl, acc, hD, la, k9⟩)
      · exact q D H3 (X3.trans X9) (ex_fresh X3 nD) d3
    · refine ⟨_, rfl, rfl, _, rfl, _, rfl, rfl, _, rfl, _, rfl, rfl, _, rfl, _, rfl, ?_⟩
      refine ⟨(by show 1 ≤ 1000; decide), fun a na => ?_⟩
      refine ⟨_, _, rfl, upd_same, fun d nd da => ⟨rfl, ?_⟩⟩
      obtain ⟨X1, h1, k1⟩ := ex_exm (y := exd d [("moment", x)]) (z := exo a (He.ga K "NoGoing") (some d)) na nd
      have k1 := k1 da
      dsimp only [cxOf]
      generalize upd (upd (upd H a (exo a (He.ga K "NoGoing") none)) d (exd d [("moment", x)])) a (exo a (He.ga K "NoGoing") (some d)) = G1 at X1 h1 k1 ⊢
      refine ⟨_, rfl, rfl, fun a2 na2 => ⟨rfl, _, _, rfl, upd_same, fun d2 nd2 da2 => ⟨rfl, ?_⟩⟩⟩
      obtain ⟨X2, h2, k2⟩ := ex_exm (y := exd d2 [("moment", y)]) (z := exo a2 (He.ga K "NoGoing") (some d2)) na2 nd2
      have k2 := k2 da2
      try dsimp only [cxOf]
      have h1 := X2 _ _ h1
      have k1 := X2 _ _ k1
      have X2 := X1.trans X2
      generalize upd (upd (upd G1 a2 (exo a2 (He.ga K "NoGoing") none)) d2 (exd d2 [("moment", y)])) a2 (exo a2 (He.ga K "NoGoing") (some d2)) = G2 at X2 h1 k1 h2 k2 ⊢
      refine ⟨(by show 2 ≤ sizeLine; decide), fun p np => ?_⟩
      have X3 := ex_new (o := .lst [.ref a, .ref a2]) np
      have h1 := X3 _ _ h1
      have k1 := X3 _ _ k1
      have h2 := X3 _ _ h2
      have k2 := X3 _ _ k2
      have X3 := X2.trans X3
      have hp : upd G2 p (.lst [.ref a, .ref a2]) p = some (.lst [.ref a, .ref a2]) := upd_same
      generalize upd G2 p (.lst [.ref a, .ref a2]) = G3 at X3 h1 k1 h2 k2 hp ⊢
      refine ⟨_, rfl, p, rfl, ⟨_, sq_lst hp⟩, fun D nD => lc_fm L2.walk_list (fun i => [x, y][i]?) (fun H' => Ex G3 H') (fun H' z e => ex_mut e nD) (.refl _) (by show 2 ≤ 100000; decide) (fun H' e => sq_lst (e _ _ hp)) (fun i z H2 H3 acc N hi e hD la y9 k => ?_) fun H3 X9 d3 => ?_⟩
      · obtain ⟨rfl, y9⟩ := y9
        have k9 := k _ e hD
        rcases (by have : i < 2 := hi; omega : i = 0 ∨ i = 1) with rfl | rfl
        · cases y9
          refine ⟨rfl, ?_⟩
          exact (.inl ⟨_, rfl, a, d, _, x, rfl, e _ _ h1, e _ _ k1, rfl, acc, hD, la, k9⟩)
        · cases y9
          refine ⟨rfl, ?_⟩
          exact (.inl ⟨_, rfl, a2, d2, _, y, rfl, e _ _ h2, e _ _ k2, rfl, acc, hD, la, k9⟩)
      · exact q D H3 (X3.trans X9) (ex_fresh X3 nD) d3
    · refine ⟨_, rfl, rfl, _, rfl, _, rfl, rfl, _, rfl, _, rfl, rfl, _, rfl, _, rfl, rfl, _, rfl, _, rfl, ?_⟩
      refine ⟨(by show 1 ≤ 1000; decide), fun a na => ?_⟩
      refine ⟨_, _, rfl, upd_same, fun d nd da => ⟨rfl, ?_⟩⟩
      obtain ⟨X1, h1, k1⟩ := ex_exm (y := exd d [("name", x)]) (z := exo a (He.ga K "Needed") (some d)) na nd
      have k1 := k1 da
      dsimp only [cxOf]
      generalize upd (upd (upd H a (exo a (He.ga K "Needed") none)) d (exd d [("name", x)])) a (exo a (He.ga K "Needed") (some d)) = G1 at X1 h1 k1 ⊢
      refine ⟨_, rfl, rfl, fun a2 na2 => ⟨rfl, _, _, rfl, upd_same, fun d2 nd2 da2 => ⟨rfl, ?_⟩⟩⟩
      obtain ⟨X2, h2, k2⟩ := ex_exm (y := exd d2 [("name", y)]) (z := exo a2 (He.ga K "Needed") (some d2)) na2 nd2
      have k2 := k2 da2
      try dsimp only [cxOf]
      have h1 := X2 _ _ h1
      have k1 := X2 _ _ k1
      have X2 := X1.trans X2
      generalize upd (upd (upd G1 a2 (exo a2 (He.ga K "Needed") none)) d2 (exd d2 [("name", y)])) a2 (exo a2 (He.ga K "Needed") (some d2)) = G2 at X2 h1 k1 h2 k2 ⊢
      refine ⟨(by show 2 ≤ sizeLine; decide), fun p np => ?_⟩
      have X3 := ex_new (o := .lst [.ref a, .ref a2]) np
      have h1 := X3 _ _ h1
      have k1 := X3 _ _ k1
      have h2 := X3 _ _ h2
      have k2 := X3 _ _ k2
      have X3 := X2.trans X3
      have hp : upd G2 p (.lst [.ref a, .ref a2]) p = some (.lst [.ref a, .ref a2]) := upd_same
      generalize upd G2 p (.lst [.ref a, .ref a2]) = G3 at X3 h1 k1 h2 k2 hp ⊢
      refine ⟨_, rfl, p, rfl, ⟨_, sq_lst hp⟩, fun D nD => lc_fm L2.walk_list (fun i => [x, y][i]?) (fun H' => Ex G3 H') (fun H' z e => ex_mut e nD) (.refl _) (by show 2 ≤ 100000; decide) (fun H' e => sq_lst (e _ _ hp)) (fun i z H2 H3 acc N hi e hD la y9 k => ?_) fun H3 X9 d3 => ?_⟩
      · obtain ⟨rfl, y9⟩ := y9
        have k9 := k _ e hD
        rcases (by have : i < 2 := hi; omega : i = 0 ∨ i = 1) with rfl | rfl
        · cases y9
          refine ⟨rfl, ?_⟩
          exact (.inr ⟨_, rfl, a, d, _, x, rfl, e _ _ h1, e _ _ k1, rfl, acc, hD, la, k9⟩)
        · cases y9
          refine ⟨rfl, ?_⟩
          exact (.inr ⟨_, rfl, a2, d2, _, y, rfl, e _ _ h2, e _ _ k2, rfl, acc, hD, la, k9⟩)
      · exact q D H3 (X3.trans X9) (ex_fresh X3 nD) d3
    · refine ⟨_, rfl, rfl, _, rfl, _, rfl, rfl, _, rfl, _, rfl, rfl, _, rfl, _, rfl, rfl, _, rfl, _, rfl, rfl, _, rfl, _, rfl, ?_⟩
      refine ⟨(by show 1 ≤ 1000; decide), fun a na => ?_⟩
      refine ⟨_, _, rfl, upd_same, fun d nd da => ⟨rfl, ?_⟩⟩
      obtain ⟨X1, h1, k1⟩ := ex_exm (y := exd d [("moment", x)]) (z := exo a (He.ga K "Taken") (some d)) na nd
      have k1 := k1 da
      dsimp only [cxOf]
      generalize upd (upd (upd H a (exo a (He.ga K "Taken") none)) d (exd d [("moment", x)])) a (exo a (He.ga K "Taken") (some d)) = G1 at X1 h1 k1 ⊢
      refine ⟨_, rfl, rfl, fun a2 na2 => ⟨rfl, _, _, rfl, upd_same, fun d2 nd2 da2 => ⟨rfl, ?_⟩⟩⟩
      obtain ⟨X2, h2, k2⟩ := ex_exm (y := exd d2 [("moment", y)]) (z := exo a2 (He.ga K "Taken") (some d2)) na2 nd2
      have k2 := k2 da2
      try dsimp only [cxOf]
      have h1 := X2 _ _ h1
      have k1 := X2 _ _ k1
      have X2 := X1.trans X2
      generalize upd (upd (upd G1 a2 (exo a2 (He.ga K "Taken") none)) d2 (exd d2 [("moment", y)])) a2 (exo a2 (He.ga K "Taken") (some d2)) = G2 at X2 h1 k1 h2 k2 ⊢
      refine ⟨(by show 2 ≤ sizeLine; decide), fun p np => ?_⟩
      have X3 := ex_new (o := .lst [.ref a, .ref a2]) np
      have h1 := X3 _ _ h1
      have k1 := X3 _ _ k1
      have h2 := X3 _ _ h2
      have k2 := X3 _ _ k2
      have X3 := X2.trans X3
      have hp : upd G2 p (.lst [.ref a, .ref a2]) p = some (.lst [.ref a, .ref a2]) := upd_same
      generalize upd G2 p (.lst [.ref a, .ref a2]) = G3 at X3 h1 k1 h2 k2 hp ⊢
      refine ⟨_, rfl, p, rfl, ⟨_, sq_lst hp⟩, fun D nD => lc_fm L2.walk_list (fun i => [x, y][i]?) (fun H' => Ex G3 H') (fun H' z e => ex_mut e nD) (.refl _) (by show 2 ≤ 100000; decide) (fun H' e => sq_lst (e _ _ hp)) (fun i z H2 H3 acc N hi e hD la y9 k => ?_) fun H3 X9 d3 => ?_⟩
      · obtain ⟨rfl, y9⟩ := y9
        have k9 := k _ e hD
        rcases (by have : i < 2 := hi; omega : i = 0 ∨ i = 1) with rfl | rfl
        · cases y9
          refine ⟨rfl, ?_⟩
          exact (.inr ⟨_, rfl, a, d, _, x, rfl, e _ _ h1, e _ _ k1, rfl, acc, hD, la, k9⟩)
        · cases y9
          refine ⟨rfl, ?_⟩
          exact (.inr ⟨_, rfl, a2, d2, _, y, rfl, e _ _ h2, e _ _ k2, rfl, acc, hD, la, k9⟩)
      · exact q D H3 (X3.trans X9) (ex_fresh X3 nD) d3
    · refine ⟨_, rfl, rfl, _, rfl, _, rfl, rfl, _, rfl, _, rfl, rfl, _, rfl, _, rfl, rfl, _, rfl, _, rfl, rfl, _, rfl, _, rfl, ?_⟩
      refine ⟨(by show 1 ≤ 1000; decide), fun a na => ?_⟩
      refine ⟨_, _, rfl, upd_same, fun d nd da => ⟨rfl, ?_⟩⟩
      obtain ⟨X1, h1, k1⟩ := ex_exm (y := exd d [("chain", x)]) (z := exo a (He.ga K "Round") (some d)) na nd
      have k1 := k1 da
      dsimp only [cxOf]
      generalize upd (upd (upd H a (exo a (He.ga K "Round") none)) d (exd d [("chain", x)])) a (exo a (He.ga K "Round") (some d)) = G1 at X1 h1 k1 ⊢
      refine ⟨_, rfl, rfl, fun a2 na2 => ⟨rfl, _, _, rfl, upd_same, fun d2 nd2 da2 => ⟨rfl, ?_⟩⟩⟩
      obtain ⟨X2, h2, k2⟩ := ex_exm (y := exd d2 [("chain", y)]) (z := exo a2 (He.ga K "Round") (some d2)) na2 nd2
      have k2 := k2 da2
      try dsimp only [cxOf]
      have h1 := X2 _ _ h1
      have k1 := X2 _ _ k1
      have X2 := X1.trans X2
      generalize upd (upd (upd G1 a2 (exo a2 (He.ga K "Round") none)) d2 (exd d2 [("chain", y)])) a2 (exo a2 (He.ga K "Round") (some d2)) = G2 at X2 h1 k1 h2 k2 ⊢
      refine ⟨(by show 2 ≤ sizeLine; decide), fun p np => ?_⟩
      have X3 := ex_new (o := .lst [.ref a, .ref a2]) np
      have h1 := X3 _ _ h1
      have k1 := X3 _ _ k1
      have h2 := X3 _ _ h2
      have k2 := X3 _ _ k2
      have X3 := X2.trans X3
      have hp : upd G2 p (.lst [.ref a, .ref a2]) p = some (.lst [.ref a, .ref a2]) := upd_same
      generalize upd G2 p (.lst [.ref a, .ref a2]) = G3 at X3 h1 k1 h2 k2 hp ⊢
      refine ⟨_, rfl, p, rfl, ⟨_, sq_lst hp⟩, fun D nD => lc_fm L2.walk_list (fun i => [x, y][i]?) (fun H' => Ex G3 H') (fun H' z e => ex_mut e nD) (.refl _) (by show 2 ≤ 100000; decide) (fun H' e => sq_lst (e _ _ hp)) (fun i z H2 H3 acc N hi e hD la y9 k => ?_) fun H3 X9 d3 => ?_⟩
      · obtain ⟨rfl, y9⟩ := y9
        have k9 := k _ e hD
        rcases (by have : i < 2 := hi; omega : i = 0 ∨ i = 1) with rfl | rfl
        · cases y9
          refine ⟨rfl, ?_⟩
          exact ⟨_, rfl, a, d, _, x, rfl, e _ _ h1, e _ _ k1, rfl, acc, hD, la, k9⟩
        · cases y9
          refine ⟨rfl, ?_⟩
          exact ⟨_, rfl, a2, d2, _, y, rfl, e _ _ h2, e _ _ k2, rfl, acc, hD, la, k9⟩
      · exact q D H3 (X3.trans X9) (ex_fresh X3 nD) d3
theorem ok__law_two {P : Program} {w : World} {K : PySem.W.Frag} {mg : Str → Option Value} {base : Heap} (T : Env K mg) : Fc P w K mg base 20 (He.ga K "_law_two") [] (sp__law_two K ) := by
  obtain ⟨fd, D, F⟩ := fb__law_two T
  exact F.all (D.bindsN fun _ _ _ _ _ _ us hl => match us, hl with | [_, _, _], _ => rfl)
end
section
/-- tuples are kept -/
def TupK (H G : Hp) : Prop := ∀ b xs, H b = some (.tup xs) → G b = some (.tup xs)
theorem TupK.ex {H G : Hp} (e : Ex H G) : TupK H G := fun b xs h => e b _ h
theorem TupK.pot {H G : Hp} {p : Addr} (hp : Pot H p) (P : PotOn H G p) : TupK H G := fun b xs h => P.2 b _ (pot_other hp h (by intro x y z w; cases w)) h
theorem TupK.trans {H G F : Hp} (a : TupK H G) (b : TupK G F) : TupK H F := fun c xs h => b c xs (a c xs h)
/-- what is drawn for a refusal: data that repr shows -/
def ThT (K : PySem.W.Frag) (H : Hp) (x : V) : Prop := ∃ d : PyData, okD d = true ∧ szD d ≤ 100000 ∧ d.depth ≤ 5 ∧ ∀ G, TupK H G → Dp K G x d
theorem ThT.keep {K : PySem.W.Frag} {H G : Hp} {x : V} (h : ThT K H x) (k : TupK H G) : ThT K G x := by
  obtain ⟨d, h1, h2, h3, h4⟩ := h
  exact ⟨d, h1, h2, h3, fun F kF => h4 F (k.trans kF)⟩
theorem nm_okT {z : Str} (h : nmN z.cps.toList = true) : okT z = true ∧ z.length ≤ 8 := by
  obtain ⟨h1, h2, h3⟩ := nm_facts h
  exact ⟨List.all_eq_true.mpr fun c hc => decide_eq_true (Nat.lt_trans (h3 c hc).2 (by decide)), h2⟩
theorem thd_str {K : PySem.W.Frag} {H : Hp} {z : Str} (h : nmN z.cps.toList = true) : ThT K H (.str z) := by
  obtain ⟨h1, h2⟩ := nm_okT h
  refine ⟨.str z, h1, ?_, Nat.zero_le _, fun _ _ => .str z⟩
  show 10 * z.length + 2 ≤ 100000
  omega
theorem thd_int {K : PySem.W.Frag} {H : Hp} {n : Int} (h0 : 0 ≤ n) (h1 : n ≤ 10 ^ 60) : ThT K H (.int n) := by
  refine ⟨.int n, decide_eq_true ?_, (by show 1921 ≤ 100000; decide), Nat.zero_le _, fun _ _ => .int n⟩
  have : (10 : Int) ^ 60 < 10 ^ 200 := by decide +kernel
  omega
theorem dps_str (K : PySem.W.Frag) (H : Hp) : ∀ ws : List Str, DpAll K H (ws.map V.str) (ws.map PyData.str)
  | [] => .nil
  | w :: ws => .cons (.str w) (dps_str K H ws)
theorem strs_ok : ∀ {ws : List Str}, Nms ws → okL (ws.map PyData.str) = true ∧ szL (ws.map PyData.str) ≤ 84 * ws.length ∧ PyData.depthAll (ws.map PyData.str) = 0
  | [], _ => ⟨rfl, Nat.le_refl _, rfl⟩
  | w :: ws, h => by
    obtain ⟨h1, h2⟩ := nm_okT (h w List.mem_cons_self)
    obtain ⟨k1, k2, k3⟩ := strs_ok (ws := ws) fun z hz => h z (List.mem_cons_of_mem _ hz)
    refine ⟨?_, ?_, ?_⟩
    · show (okT w && okL (ws.map PyData.str)) = true
      rw [h1, k1]
      rfl
    · show 10 * w.length + 2 + 2 + szL (ws.map PyData.str) ≤ 84 * (ws.length + 1)
      omega
    · show max 0 (PyData.depthAll (ws.map PyData.str)) = 0
      rw [k3]
      rfl
theorem thd_tup {K : PySem.W.Frag} {H : Hp} {a : Addr} {ws : List Str} (ha : H a = some (.tup (ws.map V.str))) (hw : Nms ws) (hl : ws.length ≤ 20) : ThT K H (.ref a) := by
  obtain ⟨k1, k2, k3⟩ := strs_ok hw
  refine ⟨.tuple (ws.map PyData.str), k1, ?_, ?_, fun G kG => .tup (sq_tup (kG _ _ ha)) (dps_str K G ws)⟩
  · show szL (ws.map PyData.str) + 3 ≤ 100000
    omega
  · show PyData.depthAll (ws.map PyData.str) + 1 ≤ 5
    omega
def sp__law_thing (K : PySem.W.Frag) : Sp := fun vs H Q _ => ∃ (p : Addr) (i : Nat), vs = [.ref p, .int (i : Nat)] ∧ Pot H p ∧ ∀ x H', ThT K H' x → PotOn H H' p → Q x H'
theorem fb__law_thing {P : Program} {w : World} {K : PySem.W.Frag} {mg : Str → Option Value} {base : Heap} (T : Env K mg) : ∃ fd, FunD K "_law_thing" "_law_thing" (defArgs s__law_thing) (defBody s__law_thing) (defScope s__law_thing) [] [] (He.ga K "_law_thing") fd ∧ Fb P w K mg base 30 (He.ga K "_law_thing") fd ["_law_pot_here", "_law_way"] (sp__law_thing K) := by
  obtain ⟨fd, F⟩ := T.f__law_thing
  refine ⟨fd, F, fb_of F sc__law_thing (fun vs H Q E h => ?_) (fun cdv A outer s H vs Q E hr h => ?_)⟩
  · obtain ⟨p, i, rfl, _⟩ := h
    rfl
  · obtain ⟨p, i, rfl, hp, q⟩ := h
    refine ⟨_, (pss_cons (ps_if (pt_cmpR op_in_seq (pv 1) (pe_tup (pa_cons pe_int (pa_cons pe_int pa_nil))) (by rfl))
      (pss_one (ps_ret (c_call (ok__law_name T) (hr.mono (by decide)) T.g__law_name T.k__law_name takes0 (pa_cons (pv 0) pa_nil))))
      pss_nil)
      (pss_cons (ps_if (pt_cmpR op_eq (pv 1) pe_int (nomark _))
      (pss_one (ps_ret (pe_callTy call_tuple_of (by rfl) T.n_tuple (by decide +kernel) (pa_cons (pe_lc (own := [("_law_k", 2)]) (by rfl) sc__law_thing.nd (pi_range1 (by rfl) T.n_range (pa_cons (pe_op op_add pe_int (c_call (ok__law_take T) (hr.mono (by decide)) T.g__law_take T.k__law_take takes0 (pa_cons (pv 0) (pa_cons pe_int pa_nil)))) pa_nil)) (blkOk_by (own := [("_law_k", 2)]) (N := ["_law_pot_here", "_law_way", "_law_k"]) (sc := defScope s__law_thing) (by decide +kernel)) (fun _ _ _ _ _ => (pg_name (i := 2) sc__law_thing.nd rfl (Or.inl rfl))) (fun _ _ _ _ _ => pts_nil) (fun _ _ _ _ _ => (c_call (ok__law_name T) (hr.mono (by decide)) T.g__law_name T.k__law_name takes0 (pa_cons (pv 0) pa_nil)))) pa_nil))))
      pss_nil)
      (pss_cons (ps_if (pt_cmpR op_eq (c_call (ok__law_take T) (hr.mono (by decide)) T.g__law_take T.k__law_take takes0 (pa_cons (pv 0) (pa_cons pe_int pa_nil))) pe_int (nomark _))
      (pss_one (ps_ret (pe_op op_add pe_int (c_call (ok__law_take T) (hr.mono (by decide)) T.g__law_take T.k__law_take takes0 (pa_cons (pv 0) (pa_cons pe_int pa_nil))))))
      pss_nil)
      (pss_one (ps_ret (pe_op op_add pe_int (c_call (ok__law_great T) (hr.mono (by decide)) T.g__law_great T.k__law_great takes0 (pa_cons (pv 0) (pa_cons (pe_op op_pow pe_int pe_int) pa_nil))))))))), ?_⟩
    refine ⟨_, rfl, (by decide), ?_⟩
    intro a1 na1
    have Xa1 := ex_new (o := HO.tup [V.int 8, V.int 10]) na1
    have ha1 : upd H a1 (HO.tup [V.int 8, V.int 10]) a1 = some (HO.tup [V.int 8, V.int 10]) := upd_same
    generalize upd H a1 (HO.tup [V.int 8, V.int 10]) = Ga1 at Xa1 ha1 ⊢
    refine ⟨_, _, rfl, (.inr (sq_tup ha1)), rfl, rfl, _, rfl, ?_⟩
    try dsimp only [tNil]
    have R1 := (PotOn.refl hp).ex2 Xa1
    have q := fun x H' t P => q x H' t (R1.trans P)
    have hp := R1.1
    refine ite2 (fun c => ?_) (fun c => ?_)
    · exact ⟨_, rfl, p, rfl, hp, fun z H1 hz P1 => q _ H1 (thd_str hz) P1⟩
    refine ⟨_, rfl, rfl, _, rfl, ite2 (fun c => ?_) (fun c => ?_)⟩
    · refine ⟨_, rfl, p, 12, rfl, hp, (by decide), (by decide), fun s H1 s0 s1 P1 => ?_⟩
      obtain ⟨s, rfl⟩ := Int.eq_ofNat_of_zero_le s0
      refine ⟨_, _, rfl, rfl, _, rfl, (by omega), (by omega), fun D nD => ?_⟩
      have Dp : D ≠ p := pot_ne P1 nD
      have nD0 : Ga1 D = none := P1.fresh nD
      refine lc_any (n := (1 + (s : Int)).toNat) (J := Itr 0 (1 + (s : Int)).toNat) L2.walk_range (fun i acc G => PotOn Ga1 G p ∧ ∃ l : List Str, acc = l.map V.str ∧ l.length = i ∧ Nms l) (fun i acc G l e => ⟨pot_upd e.1 nD0 Dp, e.2⟩) ⟨P1, [], rfl, rfl, nofun⟩ (by omega) (fun i acc G e => ?_) (fun _ _ _ _ => trivial) (fun i x H2 H3 acc N hi e hD la y k _ => ?_) (fun acc H2 e hD => ?_)
      · obtain ⟨_, l, rfl, hl, _⟩ := e
        simp [hl]
      · obtain ⟨rfl, rfl⟩ := y
        obtain ⟨P2, l, rfl, hl, ha⟩ := e
        refine ⟨rfl, _, rfl, p, rfl, P2.1, fun z H5 hz P5 => ?_⟩
        have hD5 := P5.2 _ _ Dp hD
        refine ⟨_, hD5, la, ?_⟩
        exact k _ H5 hD5 ⟨P2.trans P5, l ++ [z], by simp, by simp [hl], fun x hx => (List.mem_append.mp hx).elim (ha x) fun y => by rw [List.mem_singleton.mp y]; exact hz⟩
      · obtain ⟨P2, l, rfl, hl, ha⟩ := e
        refine ⟨D, _, rfl, .inl ⟨sq_lst hD, fun t nt => ?_⟩⟩
        exact q _ _ (thd_tup upd_same ha (by omega)) (pot_new P2 nt)
    refine ⟨_, rfl, p, 2, rfl, hp, (by decide), (by decide), fun s H1 s0 s1 P1 => ⟨rfl, _, rfl, ite2 (fun c => ?_) (fun c => ?_)⟩⟩
    · refine ⟨_, rfl, p, 60, rfl, P1.1, (by decide), (by decide), fun d H2 d0 d1 P2 => ⟨_, _, rfl, rfl, ?_⟩⟩
      have : (60 : Int) ≤ 10 ^ 60 := by decide +kernel
      exact q _ H2 (thd_int (by omega) (by omega)) (P1.trans P2)
    · refine ⟨_, rfl, _, _, rfl, rfl, ⟨by decide, by decide, by decide⟩, p, _, rfl, P1.1, (by decide), fun d H2 d0 d1 P2 => ⟨_, _, rfl, rfl, ?_⟩⟩
      have d2 : d < 10 ^ 59 := d1
      exact q _ H2 (thd_int (by omega) (by omega)) (P1.trans P2)
theorem ok__law_thing {P : Program} {w : World} {K : PySem.W.Frag} {mg : Str → Option Value} {base : Heap} (T : Env K mg) : Fc P w K mg base 30 (He.ga K "_law_thing") [] (sp__law_thing K ) := by
  obtain ⟨fd, D, F⟩ := fb__law_thing T
  exact F.all (D.bindsN fun _ _ _ _ _ _ us hl => match us, hl with | [_, _], _ => rfl)
end
section
theorem flat_rep {α : Type} (x : α) : ∀ d : Nat, (List.replicate d [x]).flatten = List.replicate d x
  | 0 => rfl
  | d + 1 => by rw [List.replicate_succ, List.flatten_cons, flat_rep x d, List.replicate_succ]; rfl
def sp_law (K : PySem.W.Frag) : Sp := fun vs H Q _ => ∃ (a : Addr) (ns : List Int), vs = [.ref a] ∧ SqL K H a (ns.map V.int) ∧ ns.length ≤ 63 ∧ ∀ H', Q (.bl true) H'
theorem ok_law {P : Program} {w : World} {K : PySem.W.Frag} {mg : Str → Option Value} {base : Heap} (T : Env K mg) {fd : FuncData} (F : FunD K "law" "law" (defArgs s_law) (defBody s_law) (defScope s_law) [] [] (He.ga K "law") fd) : Fb P w K mg base 31 (He.ga K "law") fd ["_law_script"] (sp_law K) := by
  refine fb_of F sc_law (fun vs H Q E h => ?_) (fun cdv A outer s H vs Q E hr h => ?_)
  · obtain ⟨a, ns, rfl, _⟩ := h
    rfl
  · obtain ⟨a, ns, rfl, hS, hl, q⟩ := h
    refine ⟨_, (pss_cons (ps_for (passes_of rfl) rfl (pi_range1 (by rfl) T.n_range (pa_cons (pe_callB (call_max2 rfl) (by rfl) T.n_max (by decide +kernel) (pa_cons pe_int (pa_cons (pe_callB (call_min2 rfl) (by rfl) T.n_min (by decide +kernel) (pa_cons (pe_callB call_len (by rfl) T.n_len (by decide +kernel) (pa_cons (pv 0) pa_nil)) (pa_cons pe_int pa_nil))) pa_nil))) pa_nil)) (pg_name (i := 1) sc_law.nd rfl (Or.inl rfl))
      (pss_cons (ps_set (i := 2) sc_law.nd rfl (Or.inl rfl) (c_call (ok__law_pot T) (hr.mono (by decide)) T.g__law_pot T.k__law_pot takes0 (pa_cons (pv 0) (pa_cons (pv 1) pa_nil))))
      (Evl.pss_cut (ps_set (i := 3) sc_law.nd rfl (Or.inl rfl) (pe_join pe_str (pe_op op_rep (pe_lst (pa_cons pe_str pa_nil)) (c_call (ok__law_take T) (hr.mono (by decide)) T.g__law_take T.k__law_take takes0 (pa_cons (pv 2) (pa_cons pe_int pa_nil))))))
      (Evl.pss_cut (ps_for (passes_of rfl) rfl (pi_range1 (by rfl) T.n_range (pa_cons pe_int pa_nil)) (pg_name (i := 4) sc_law.nd rfl (Or.inl rfl))
      (pss_one (ps_if (PW.pt (pw_or (pt_cmpR (op_neD hr.rm.units) (c_call (ok2__law_kinds T) (hr.mono (by decide)) T.g__law_kinds T.k__law_kinds takes0 (pa_cons (c_call (ok__law_plain T) (hr.mono (by decide)) T.g__law_plain T.k__law_plain takes0 (pa_cons (pv 4) (pa_cons (pv 3) pa_nil))) pa_nil)) (c_call (ok__law_due T) (hr.mono (by decide)) T.g__law_due T.k__law_due takes0 (pa_cons (pv 4) pa_nil)) (nomark _)) (pw_or1 (pt_not (pt_val (c_call (ok__law_stands T) (hr.mono (by decide)) T.g__law_stands T.k__law_stands takes0 (pa_cons (pv 4) (pa_cons (pv 3) pa_nil))))))))
      (pss_one (ps_ret pe_bl))
      pss_nil)))
      (pss_one (ps_for (passes_of rfl) rfl (pi_range2 (by rfl) T.n_range (pa_cons pe_int (pa_cons pe_int pa_nil))) (pg_name (i := 4) sc_law.nd rfl (Or.inl rfl))
      (pss_cons (ps_par (i := 5) (j := 6) (by rfl) sc_law.nd rfl rfl (by decide) rfl rfl (pa_cons (c_call (ok__law_thing T) (hr.mono (by decide)) T.g__law_thing T.k__law_thing takes0 (pa_cons (pv 2) (pa_cons (pv 4) pa_nil))) (pa_cons (c_call (ok__law_thing T) (hr.mono (by decide)) T.g__law_thing T.k__law_thing takes0 (pa_cons (pv 2) (pa_cons (pv 4) pa_nil))) pa_nil)) (by rfl))
      (pss_one (ps_if (PW.pt (pw_or (pt_not (pt_val (c_call (ok__law_stands T) (hr.mono (by decide)) T.g__law_stands T.k__law_stands takes0 (pa_cons (pv 4) (pa_cons (pv 5) pa_nil))))) (pw_or1 (pt_cmpR op_ne (pe_callB (call_repr hr) (by rfl) T.n_repr (by decide +kernel) (pa_cons (c_call (ok__law_two T) (hr.mono (by decide)) T.g__law_two T.k__law_two takes0 (pa_cons (pv 4) (pa_cons (pv 5) (pa_cons (pv 6) pa_nil)))) pa_nil)) (pe_callB (call_repr hr) (by rfl) T.n_repr (by decide +kernel) (pa_cons (pe_lst (pa_cons (pv 5) (pa_cons (pv 6) pa_nil))) pa_nil)) (nomark _)))))
      (pss_one (ps_ret pe_bl))
      pss_nil)))))))))
      (pss_one (ps_ret pe_bl))), ?_⟩
    refine ⟨_, rfl, _, _, rfl, .inl ⟨_, hS, rfl⟩, _, _, rfl, _, _, rfl, _, rfl, (turns_lo 6 _ (by decide)), (turns_hi 6 _ (by decide)), for_range (fun i σ H' => Ex H H' ∧ ∃ v1 v2 v3 v4 v5 v6, σ = [some (.ref a), v1, v2, v3, v4, v5, v6]) ⟨.refl H, _, _, _, _, _, _, rfl⟩ ?_ ?_⟩
    · rintro i σ H1 hi ⟨X1, v1, v2, v3, v4, v5, v6, rfl⟩
      have i1 : i < 1000 := turns_lt 6 _ (by decide) hi
      refine ⟨_, rfl, _, rfl, a, ns, _, rfl, ex_sql X1 hS, by omega, by omega, fun p H2 np P2 K2 => ?_⟩
      have X2 : Ex H H2 := fun b o e => by rw [K2 b (ne_of_none (X1 b o e) np)]; exact X1 b o e
      have hp0 : H p = none := ex_fresh X1 np
      have hp2 : Pot H2 p := P2
      refine ⟨fun σ' H' => ∃ z : Str, σ' = [some (.ref a), some (.int (0 + (i : Int))), some (.ref p), some (.str z), v4, v5, v6] ∧ Ex H H' ∧ Pot H' p, ?_, ?_⟩
      · refine ⟨⟨_, rfl⟩, (by decide), ?_⟩
        intro a1 na1
        have Xa1 := ex_new (o := HO.lst [V.str (Str.ofString "words")]) na1
        have ha1 : upd H2 a1 (HO.lst [V.str (Str.ofString "words")]) a1 = some (HO.lst [V.str (Str.ofString "words")]) := upd_same
        generalize upd H2 a1 (HO.lst [V.str (Str.ofString "words")]) = Ga1 at Xa1 ha1 ⊢
        have R1 := (PotOn.refl hp2).ex2 Xa1
        have a1p := pot_ne (PotOn.refl hp2) na1
        refine ⟨_, rfl, p, 4, rfl, R1.1, (by decide), (by decide), fun d H3 d0 d1 P3 => ?_⟩
        obtain ⟨d, rfl⟩ := Int.eq_ofNat_of_zero_le d0
        have R3 := R1.trans P3
        have a1h := P3.2 _ _ a1p ha1
        refine ⟨a1, _, _, rfl, rfl, a1h, (by omega), (by omega), (by show 1 * (d : Int).toNat ≤ sizeLine; rw [sizeLine_eq]; omega), fun b nb => ?_⟩
        refine ⟨_, b, List.replicate d (Str.ofString "words"), rfl, rfl, .inl (sq_lst ?_), ?_, ?_⟩
        · rw [upd_same, Int.toNat_natCast, List.map_replicate]
          rw [flat_rep]
        · rcases (by omega : d = 0 ∨ d = 1 ∨ d = 2 ∨ d = 3) with rfl | rfl | rfl | rfl <;> decide
        · have X3 : Ex H H3 := PotOn.ex X2 hp0 R3
          exact ⟨_, rfl, X3.trans (ex_new nb), (pot_new R3 nb).1⟩
      rintro σ' H4 ⟨z, rfl, X4, hp4⟩
      refine ⟨fun σ' H' => ∃ v4, σ' = [some (.ref a), some (.int (0 + (i : Int))), some (.ref p), some (.str z), v4, v5, v6] ∧ Ex H H' ∧ Pot H' p, ?_, ?_⟩
      · refine ⟨7, rfl, by decide, by decide, for_range (n := 7) (fun i9 σ H' => ∃ v4, σ = [some (.ref a), some (.int (0 + (i : Int))), some (.ref p), some (.str z), v4, v5, v6] ∧ Ex H H' ∧ Pot H' p) ⟨v4, rfl, X4, hp4⟩ ?_ ?_⟩
        · rintro j σ H5 hj ⟨v4, rfl, X5, hp5⟩
          rw [show (0 : Int) + ((j : Nat) : Int) = ((j : Nat) : Int) from Int.zero_add _]
          refine ⟨_, rfl, _, rfl, j, z, rfl, hj, fun e ne => ⟨e, _, bitsK j, rfl, upd_same, xc_all T (by omega), kin_all T (by omega), fun f H6 X6 nf hf => ?_⟩⟩
          have X6 := (ex_new ne).trans X6
          refine ⟨_, rfl, j, rfl, (by omega), fun g H7 X7 ng hg => ?_⟩
          rw [kind_due (by omega)] at hf
          refine ⟨.list [.int (j : Nat), .int (baI j : Nat), .int (baI j + 3 : Nat)], .list [.int (j : Nat), .int (baI j : Nat), .int (baI j + 3 : Nat)], ?_, ?_, rfl, rfl, ?_⟩
          · exact .lst (sq_lst (X7 _ _ hf)) (.cons (.int _) (.cons (.int _) (.cons (.int _) .nil)))
          · exact .lst (sq_lst hg) (.cons (.int _) (.cons (.int _) (.cons (.int _) .nil)))
          rw [SeqAt.eqv_refl _ rfl]
          refine ⟨_, rfl, ?_⟩
          refine ⟨_, rfl, _, rfl, _, _, rfl, (by omega), ?_⟩
          intro H8 X8
          refine ⟨_, rfl, ?_⟩
          have R8 := (PotOn.refl hp5).ex2 (X6.trans (X7.trans X8))
          exact ⟨_, rfl, X5.trans (X6.trans (X7.trans X8)), R8.1⟩
        · rintro σ H5 ⟨v4, rfl, X5, hp5⟩
          exact ⟨_, rfl, X5, hp5⟩
      rintro σ' H5 ⟨v4, rfl, X5, hp5⟩
      refine ⟨_, _, rfl, ⟨(by decide), ⟨(by decide), ⟨(by decide), (by decide)⟩⟩⟩, ?_⟩
      refine for_range (n := 6) (fun i9 σ H' => ∃ v4 v5 v6, σ = [some (.ref a), some (.int (0 + (i : Int))), some (.ref p), some (.str z), v4, v5, v6] ∧ Ex H H' ∧ Pot H' p) ⟨v4, v5, v6, rfl, X5, hp5⟩ ?_ ?_
      · rintro j σ H6 hj ⟨v4, v5, v6, rfl, X6, hp6⟩
        have hj : j < 6 := hj
        rw [show (7 : Int) + ((j : Nat) : Int) = ((7 + j : Nat) : Int) by omega]
        refine ⟨_, rfl, _, rfl, p, 7 + j, rfl, hp6, fun x H7 tx P7 => ⟨_, rfl, _, rfl, p, 7 + j, rfl, P7.1, fun y H8 ty P8 => ?_⟩⟩
        have tx8 := tx.keep (TupK.pot P7.1 P8)
        have P68 := P7.trans P8
        have X8 : Ex H H8 := PotOn.ex X6 hp0 P68
        refine ⟨_, _, rfl, _, rfl, _, rfl, 7 + j, x, rfl, (by omega), fun H9 X9 => ⟨_, rfl, ?_⟩⟩
        obtain ⟨dx, a1, a2, a3, a4⟩ := tx8
        obtain ⟨dy, b1, b2, b3, b4⟩ := ty
        have okl : okD (.list [dx, dy]) = true := by
          show (okD dx && (okD dy && true)) = true
          rw [a1, b1]
          rfl
        have szl : szD (.list [dx, dy]) ≤ 16000000 := by
          show szD dx + 2 + (szD dy + 2 + 0) + 3 ≤ 16000000
          omega
        have dl : (PyData.list [dx, dy]).depth ≤ 60 := by
          show max dx.depth (max dy.depth 0) + 1 ≤ 60
          omega
        refine ⟨_, rfl, _, rfl, _, rfl, 7 + j, x, y, rfl, (by omega), (by omega), fun f HA XA nf hf => ?_⟩
        have k1 : TupK H8 HA := TupK.ex (X9.trans XA)
        refine rr_data (.lst (sq_lst hf) (.cons (a4 _ k1) (.cons (b4 _ k1) .nil))) okl szl dl ?_
        refine ⟨_, rfl, _, rfl, (by show 2 ≤ sizeLine; decide), fun l nl => ?_⟩
        have k2 : TupK H8 _ := TupK.ex ((X9.trans XA).trans (ex_new (o := .lst [x, y]) nl))
        refine rr_data (.lst (sq_lst upd_same) (.cons (a4 _ k2) (.cons (b4 _ k2) .nil))) okl szl dl ?_
        have R9 := ((PotOn.refl P8.1).ex2 ((X9.trans XA).trans (ex_new (o := .lst [x, y]) nl)))
        refine ⟨rfl, _, rfl, ?_⟩
        try dsimp only [tNil]
        refine ite2 (fun c => ?_) (fun _ => ?_)
        · rw [decide_eq_true rfl] at c
          cases c
        · exact ⟨_, _, _, rfl, X8.trans ((X9.trans XA).trans (ex_new nl)), R9.1⟩
      · rintro σ H6 ⟨v4, v5, v6, rfl, X6, hp6⟩
        exact ⟨X6, _, _, _, _, _, _, rfl⟩
    · rintro σ H' ⟨X1, v1, v2, v3, v4, v5, v6, rfl⟩
      exact q _
end
end Toy
namespace Toy
open PySem PySem.Spec PyProof.Rows L2 L3
theorem env_of {K : PySem.W.Frag} {h : Heap} {mg : Str → Option Value} (X : K.In h) (G : h.Ns mainGlobals mg) (c : SaysX xf fn K) : Env K mg :=
  ⟨He.glo_ok X G (c.fact 0 (f := fun K => (He.Fa.glo "_law_pot").ok K) rfl),
  He.glo_ok X G (c.fact 1 (f := fun K => (He.Fa.glo "_law_take").ok K) rfl),
  He.glo_ok X G (c.fact 2 (f := fun K => (He.Fa.glo "_law_great").ok K) rfl),
  He.glo_ok X G (c.fact 3 (f := fun K => (He.Fa.glo "_law_name").ok K) rfl),
  He.glo_ok X G (c.fact 4 (f := fun K => (He.Fa.glo "_law_kinds").ok K) rfl),
  He.glo_ok X G (c.fact 5 (f := fun K => (He.Fa.glo "_law_plain").ok K) rfl),
  He.glo_ok X G (c.fact 6 (f := fun K => (He.Fa.glo "_law_raised").ok K) rfl),
  He.glo_ok X G (c.fact 7 (f := fun K => (He.Fa.glo "_law_due").ok K) rfl),
  He.glo_ok X G (c.fact 8 (f := fun K => (He.Fa.glo "_law_stands").ok K) rfl),
  He.glo_ok X G (c.fact 9 (f := fun K => (He.Fa.glo "_law_two").ok K) rfl),
  He.glo_ok X G (c.fact 10 (f := fun K => (He.Fa.glo "_law_thing").ok K) rfl),
  He.glo_ok X G (c.fact 11 (f := fun K => (He.Fa.glo "law").ok K) rfl),
  He.free_ok X G (c.fact 12 (f := fun K => (He.Fa.free "LookupError").ok K) rfl),
  He.free_ok X G (c.fact 13 (f := fun K => (He.Fa.free "RuntimeError").ok K) rfl),
  He.free_ok X G (c.fact 14 (f := fun K => (He.Fa.free "ValueError").ok K) rfl),
  He.free_ok X G (c.fact 15 (f := fun K => (He.Fa.free "divmod").ok K) rfl),
  He.free_ok X G (c.fact 16 (f := fun K => (He.Fa.free "isinstance").ok K) rfl),
  He.free_ok X G (c.fact 17 (f := fun K => (He.Fa.free "len").ok K) rfl),
  He.free_ok X G (c.fact 18 (f := fun K => (He.Fa.free "max").ok K) rfl),
  He.free_ok X G (c.fact 19 (f := fun K => (He.Fa.free "min").ok K) rfl),
  He.free_ok X G (c.fact 20 (f := fun K => (He.Fa.free "range").ok K) rfl),
  He.free_ok X G (c.fact 21 (f := fun K => (He.Fa.free "repr").ok K) rfl),
  He.free_ok X G (c.fact 22 (f := fun K => (He.Fa.free "tuple").ok K) rfl),
  He.glo_ok X G (c.fact 23 (f := fun K => (He.Fa.glo "GoingError").ok K) rfl),
  He.glo_ok X G (c.fact 24 (f := fun K => (He.Fa.glo "LackError").ok K) rfl),
  He.glo_ok X G (c.fact 25 (f := fun K => (He.Fa.glo "BookError").ok K) rfl),
  He.glo_ok X G (c.fact 26 (f := fun K => (He.Fa.glo "NoTime").ok K) rfl),
  exo_of (c.fact 27 (f := exoB bmV "ValueError.__new__" "NoTime") rfl),
  He.glo_ok X G (c.fact 28 (f := fun K => (He.Fa.glo "NoPiece").ok K) rfl),
  exo_of (c.fact 29 (f := exoB bmV "ValueError.__new__" "NoPiece") rfl),
  He.glo_ok X G (c.fact 30 (f := fun K => (He.Fa.glo "NoDays").ok K) rfl),
  exo_of (c.fact 31 (f := exoB bmV "ValueError.__new__" "NoDays") rfl),
  He.glo_ok X G (c.fact 32 (f := fun K => (He.Fa.glo "NoCard").ok K) rfl),
  exo_of (c.fact 33 (f := exoB bmV "ValueError.__new__" "NoCard") rfl),
  He.glo_ok X G (c.fact 34 (f := fun K => (He.Fa.glo "NoName").ok K) rfl),
  exo_of (c.fact 35 (f := exoB bmV "ValueError.__new__" "NoName") rfl),
  He.glo_ok X G (c.fact 36 (f := fun K => (He.Fa.glo "NoRow").ok K) rfl),
  exo_of (c.fact 37 (f := exoB bmV "ValueError.__new__" "NoRow") rfl),
  He.glo_ok X G (c.fact 38 (f := fun K => (He.Fa.glo "NoText").ok K) rfl),
  He.glo_ok X G (c.fact 39 (f := fun K => (He.Fa.glo "NoLine").ok K) rfl),
  He.glo_ok X G (c.fact 40 (f := fun K => (He.Fa.glo "NoGoing").ok K) rfl),
  He.glo_ok X G (c.fact 41 (f := fun K => (He.Fa.glo "Needed").ok K) rfl),
  He.glo_ok X G (c.fact 42 (f := fun K => (He.Fa.glo "Taken").ok K) rfl),
  He.glo_ok X G (c.fact 43 (f := fun K => (He.Fa.glo "Round").ok K) rfl),
  He.glo_ok X G (c.fact 44 (f := fun K => (He.Fa.glo "TooMuch").ok K) rfl),
  exo_of (c.fact 45 (f := exoB bmR "RuntimeError.__new__" "TooMuch") rfl),
  bxi_of (c.fact 46 (f := bxiF "ValueError.__init__" "GoingError") rfl),
  bxi_of (c.fact 47 (f := bxiF "LookupError.__init__" "LackError") rfl),
  bxi_of (c.fact 48 (f := bxiF "RuntimeError.__init__" "BookError") rfl),
  oex_of (c.fact 49 (f := oexF bmV "ValueError.__new__" "NoText") rfl),
  He.meth_ok (c.fact 50 (f := fun K => (He.Fa.meth "NoText" "__init__").ok K) rfl),
  xfB_ok (c.fact 51 (f := fun K => xfB K (He.ga K "NoText")) rfl),
  He.noat_ok (c.fact 52 (f := fun K => (He.Fa.noat "NoText" "row").ok K) rfl),
  oex_of (c.fact 53 (f := oexF bmL "LookupError.__new__" "NoLine") rfl),
  He.meth_ok (c.fact 54 (f := fun K => (He.Fa.meth "NoLine" "__init__").ok K) rfl),
  xfB_ok (c.fact 55 (f := fun K => xfB K (He.ga K "NoLine")) rfl),
  He.noat_ok (c.fact 56 (f := fun K => (He.Fa.noat "NoLine" "name").ok K) rfl),
  oex_of (c.fact 57 (f := oexF bmL "LookupError.__new__" "NoGoing") rfl),
  He.meth_ok (c.fact 58 (f := fun K => (He.Fa.meth "NoGoing" "__init__").ok K) rfl),
  xfB_ok (c.fact 59 (f := fun K => xfB K (He.ga K "NoGoing")) rfl),
  He.noat_ok (c.fact 60 (f := fun K => (He.Fa.noat "NoGoing" "moment").ok K) rfl),
  oex_of (c.fact 61 (f := oexF bmR "RuntimeError.__new__" "Needed") rfl),
  He.meth_ok (c.fact 62 (f := fun K => (He.Fa.meth "Needed" "__init__").ok K) rfl),
  xfB_ok (c.fact 63 (f := fun K => xfB K (He.ga K "Needed")) rfl),
  He.noat_ok (c.fact 64 (f := fun K => (He.Fa.noat "Needed" "name").ok K) rfl),
  oex_of (c.fact 65 (f := oexF bmR "RuntimeError.__new__" "Taken") rfl),
  He.meth_ok (c.fact 66 (f := fun K => (He.Fa.meth "Taken" "__init__").ok K) rfl),
  xfB_ok (c.fact 67 (f := fun K => xfB K (He.ga K "Taken")) rfl),
  He.noat_ok (c.fact 68 (f := fun K => (He.Fa.noat "Taken" "moment").ok K) rfl),
  oex_of (c.fact 69 (f := oexF bmR "RuntimeError.__new__" "Round") rfl),
  He.meth_ok (c.fact 70 (f := fun K => (He.Fa.meth "Round" "__init__").ok K) rfl),
  xfB_ok (c.fact 71 (f := fun K => xfB K (He.ga K "Round")) rfl),
  He.noat_ok (c.fact 72 (f := fun K => (He.Fa.noat "Round" "chain").ok K) rfl),
  excC_of (c.fact 73 (f := excCB "NoTime") rfl),
  of_decide_eq_true (c.fact 74 (f := kitF "NoTime" "GoingError" true) rfl),
  of_decide_eq_true (c.fact 75 (f := kitF "NoTime" "LackError" false) rfl),
  of_decide_eq_true (c.fact 76 (f := kitF "NoTime" "BookError" false) rfl),
  of_decide_eq_true (c.fact 77 (f := kitF "NoTime" "NoTime" true) rfl),
  of_decide_eq_true (c.fact 78 (f := kitF "NoTime" "NoPiece" false) rfl),
  of_decide_eq_true (c.fact 79 (f := kitF "NoTime" "NoDays" false) rfl),
  of_decide_eq_true (c.fact 80 (f := kitF "NoTime" "NoCard" false) rfl),
  of_decide_eq_true (c.fact 81 (f := kitF "NoTime" "NoName" false) rfl),
  of_decide_eq_true (c.fact 82 (f := kitF "NoTime" "NoRow" false) rfl),
  of_decide_eq_true (c.fact 83 (f := kitF "NoTime" "NoText" false) rfl),
  of_decide_eq_true (c.fact 84 (f := kitF "NoTime" "NoLine" false) rfl),
  of_decide_eq_true (c.fact 85 (f := kitF "NoTime" "NoGoing" false) rfl),
  of_decide_eq_true (c.fact 86 (f := kitF "NoTime" "Needed" false) rfl),
  of_decide_eq_true (c.fact 87 (f := kitF "NoTime" "Taken" false) rfl),
  of_decide_eq_true (c.fact 88 (f := kitF "NoTime" "Round" false) rfl),
  of_decide_eq_true (c.fact 89 (f := kitF "NoTime" "TooMuch" false) rfl),
  of_decide_eq_true (c.fact 90 (f := kitFT "NoTime" "ValueError" true) rfl),
  of_decide_eq_true (c.fact 91 (f := kitFT "NoTime" "LookupError" false) rfl),
  of_decide_eq_true (c.fact 92 (f := kitFT "NoTime" "RuntimeError" false) rfl),
  of_decide_eq_true (c.fact 93 (f := exm3F "NoTime" ["GoingError", "LackError", "BookError"]) rfl),
  excC_of (c.fact 94 (f := excCB "NoPiece") rfl),
  of_decide_eq_true (c.fact 95 (f := kitF "NoPiece" "GoingError" true) rfl),
  of_decide_eq_true (c.fact 96 (f := kitF "NoPiece" "LackError" false) rfl),
  of_decide_eq_true (c.fact 97 (f := kitF "NoPiece" "BookError" false) rfl),
  of_decide_eq_true (c.fact 98 (f := kitF "NoPiece" "NoTime" false) rfl),
  of_decide_eq_true (c.fact 99 (f := kitF "NoPiece" "NoPiece" true) rfl),
  of_decide_eq_true (c.fact 100 (f := kitF "NoPiece" "NoDays" false) rfl),
  of_decide_eq_true (c.fact 101 (f := kitF "NoPiece" "NoCard" false) rfl),
  of_decide_eq_true (c.fact 102 (f := kitF "NoPiece" "NoName" false) rfl),
  of_decide_eq_true (c.fact 103 (f := kitF "NoPiece" "NoRow" false) rfl),
  of_decide_eq_true (c.fact 104 (f := kitF "NoPiece" "NoText" false) rfl),
  of_decide_eq_true (c.fact 105 (f := kitF "NoPiece" "NoLine" false) rfl),
  of_decide_eq_true (c.fact 106 (f := kitF "NoPiece" "NoGoing" false) rfl),
  of_decide_eq_true (c.fact 107 (f := kitF "NoPiece" "Needed" false) rfl),
  of_decide_eq_true (c.fact 108 (f := kitF "NoPiece" "Taken" false) rfl),
  of_decide_eq_true (c.fact 109 (f := kitF "NoPiece" "Round" false) rfl),
  of_decide_eq_true (c.fact 110 (f := kitF "NoPiece" "TooMuch" false) rfl),
  of_decide_eq_true (c.fact 111 (f := kitFT "NoPiece" "ValueError" true) rfl),
  of_decide_eq_true (c.fact 112 (f := kitFT "NoPiece" "LookupError" false) rfl),
  of_decide_eq_true (c.fact 113 (f := kitFT "NoPiece" "RuntimeError" false) rfl),
  of_decide_eq_true (c.fact 114 (f := exm3F "NoPiece" ["GoingError", "LackError", "BookError"]) rfl),
  excC_of (c.fact 115 (f := excCB "NoDays") rfl),
  of_decide_eq_true (c.fact 116 (f := kitF "NoDays" "GoingError" true) rfl),
  of_decide_eq_true (c.fact 117 (f := kitF "NoDays" "LackError" false) rfl),
  of_decide_eq_true (c.fact 118 (f := kitF "NoDays" "BookError" false) rfl),
  of_decide_eq_true (c.fact 119 (f := kitF "NoDays" "NoTime" false) rfl),
  of_decide_eq_true (c.fact 120 (f := kitF "NoDays" "NoPiece" false) rfl),
  of_decide_eq_true (c.fact 121 (f := kitF "NoDays" "NoDays" true) rfl),
  of_decide_eq_true (c.fact 122 (f := kitF "NoDays" "NoCard" false) rfl),
  of_decide_eq_true (c.fact 123 (f := kitF "NoDays" "NoName" false) rfl),
  of_decide_eq_true (c.fact 124 (f := kitF "NoDays" "NoRow" false) rfl),
  of_decide_eq_true (c.fact 125 (f := kitF "NoDays" "NoText" false) rfl),
  of_decide_eq_true (c.fact 126 (f := kitF "NoDays" "NoLine" false) rfl),
  of_decide_eq_true (c.fact 127 (f := kitF "NoDays" "NoGoing" false) rfl),
  of_decide_eq_true (c.fact 128 (f := kitF "NoDays" "Needed" false) rfl),
  of_decide_eq_true (c.fact 129 (f := kitF "NoDays" "Taken" false) rfl),
  of_decide_eq_true (c.fact 130 (f := kitF "NoDays" "Round" false) rfl),
  of_decide_eq_true (c.fact 131 (f := kitF "NoDays" "TooMuch" false) rfl),
  of_decide_eq_true (c.fact 132 (f := kitFT "NoDays" "ValueError" true) rfl),
  of_decide_eq_true (c.fact 133 (f := kitFT "NoDays" "LookupError" false) rfl),
  of_decide_eq_true (c.fact 134 (f := kitFT "NoDays" "RuntimeError" false) rfl),
  of_decide_eq_true (c.fact 135 (f := exm3F "NoDays" ["GoingError", "LackError", "BookError"]) rfl),
  excC_of (c.fact 136 (f := excCB "NoCard") rfl),
  of_decide_eq_true (c.fact 137 (f := kitF "NoCard" "GoingError" true) rfl),
  of_decide_eq_true (c.fact 138 (f := kitF "NoCard" "LackError" false) rfl),
  of_decide_eq_true (c.fact 139 (f := kitF "NoCard" "BookError" false) rfl),
  of_decide_eq_true (c.fact 140 (f := kitF "NoCard" "NoTime" false) rfl),
  of_decide_eq_true (c.fact 141 (f := kitF "NoCard" "NoPiece" false) rfl),
  of_decide_eq_true (c.fact 142 (f := kitF "NoCard" "NoDays" false) rfl),
  of_decide_eq_true (c.fact 143 (f := kitF "NoCard" "NoCard" true) rfl),
  of_decide_eq_true (c.fact 144 (f := kitF "NoCard" "NoName" false) rfl),
  of_decide_eq_true (c.fact 145 (f := kitF "NoCard" "NoRow" false) rfl),
  of_decide_eq_true (c.fact 146 (f := kitF "NoCard" "NoText" false) rfl),
  of_decide_eq_true (c.fact 147 (f := kitF "NoCard" "NoLine" false) rfl),
  of_decide_eq_true (c.fact 148 (f := kitF "NoCard" "NoGoing" false) rfl),
  of_decide_eq_true (c.fact 149 (f := kitF "NoCard" "Needed" false) rfl),
  of_decide_eq_true (c.fact 150 (f := kitF "NoCard" "Taken" false) rfl),
  of_decide_eq_true (c.fact 151 (f := kitF "NoCard" "Round" false) rfl),
  of_decide_eq_true (c.fact 152 (f := kitF "NoCard" "TooMuch" false) rfl),
  of_decide_eq_true (c.fact 153 (f := kitFT "NoCard" "ValueError" true) rfl),
  of_decide_eq_true (c.fact 154 (f := kitFT "NoCard" "LookupError" false) rfl),
  of_decide_eq_true (c.fact 155 (f := kitFT "NoCard" "RuntimeError" false) rfl),
  of_decide_eq_true (c.fact 156 (f := exm3F "NoCard" ["GoingError", "LackError", "BookError"]) rfl),
  excC_of (c.fact 157 (f := excCB "NoName") rfl),
  of_decide_eq_true (c.fact 158 (f := kitF "NoName" "GoingError" true) rfl),
  of_decide_eq_true (c.fact 159 (f := kitF "NoName" "LackError" false) rfl),
  of_decide_eq_true (c.fact 160 (f := kitF "NoName" "BookError" false) rfl),
  of_decide_eq_true (c.fact 161 (f := kitF "NoName" "NoTime" false) rfl),
  of_decide_eq_true (c.fact 162 (f := kitF "NoName" "NoPiece" false) rfl),
  of_decide_eq_true (c.fact 163 (f := kitF "NoName" "NoDays" false) rfl),
  of_decide_eq_true (c.fact 164 (f := kitF "NoName" "NoCard" false) rfl),
  of_decide_eq_true (c.fact 165 (f := kitF "NoName" "NoName" true) rfl),
  of_decide_eq_true (c.fact 166 (f := kitF "NoName" "NoRow" false) rfl),
  of_decide_eq_true (c.fact 167 (f := kitF "NoName" "NoText" false) rfl),
  of_decide_eq_true (c.fact 168 (f := kitF "NoName" "NoLine" false) rfl),
  of_decide_eq_true (c.fact 169 (f := kitF "NoName" "NoGoing" false) rfl),
  of_decide_eq_true (c.fact 170 (f := kitF "NoName" "Needed" false) rfl),
  of_decide_eq_true (c.fact 171 (f := kitF "NoName" "Taken" false) rfl),
  of_decide_eq_true (c.fact 172 (f := kitF "NoName" "Round" false) rfl),
  of_decide_eq_true (c.fact 173 (f := kitF "NoName" "TooMuch" false) rfl),
  of_decide_eq_true (c.fact 174 (f := kitFT "NoName" "ValueError" true) rfl),
  of_decide_eq_true (c.fact 175 (f := kitFT "NoName" "LookupError" false) rfl),
  of_decide_eq_true (c.fact 176 (f := kitFT "NoName" "RuntimeError" false) rfl),
  of_decide_eq_true (c.fact 177 (f := exm3F "NoName" ["GoingError", "LackError", "BookError"]) rfl),
  excC_of (c.fact 178 (f := excCB "NoRow") rfl),
  of_decide_eq_true (c.fact 179 (f := kitF "NoRow" "GoingError" true) rfl),
  of_decide_eq_true (c.fact 180 (f := kitF "NoRow" "LackError" false) rfl),
  of_decide_eq_true (c.fact 181 (f := kitF "NoRow" "BookError" false) rfl),
  of_decide_eq_true (c.fact 182 (f := kitF "NoRow" "NoTime" false) rfl),
  of_decide_eq_true (c.fact 183 (f := kitF "NoRow" "NoPiece" false) rfl),
  of_decide_eq_true (c.fact 184 (f := kitF "NoRow" "NoDays" false) rfl),
  of_decide_eq_true (c.fact 185 (f := kitF "NoRow" "NoCard" false) rfl),
  of_decide_eq_true (c.fact 186 (f := kitF "NoRow" "NoName" false) rfl),
  of_decide_eq_true (c.fact 187 (f := kitF "NoRow" "NoRow" true) rfl),
  of_decide_eq_true (c.fact 188 (f := kitF "NoRow" "NoText" false) rfl),
  of_decide_eq_true (c.fact 189 (f := kitF "NoRow" "NoLine" false) rfl),
  of_decide_eq_true (c.fact 190 (f := kitF "NoRow" "NoGoing" false) rfl),
  of_decide_eq_true (c.fact 191 (f := kitF "NoRow" "Needed" false) rfl),
  of_decide_eq_true (c.fact 192 (f := kitF "NoRow" "Taken" false) rfl),
  of_decide_eq_true (c.fact 193 (f := kitF "NoRow" "Round" false) rfl),
  of_decide_eq_true (c.fact 194 (f := kitF "NoRow" "TooMuch" false) rfl),
  of_decide_eq_true (c.fact 195 (f := kitFT "NoRow" "ValueError" true) rfl),
  of_decide_eq_true (c.fact 196 (f := kitFT "NoRow" "LookupError" false) rfl),
  of_decide_eq_true (c.fact 197 (f := kitFT "NoRow" "RuntimeError" false) rfl),
  of_decide_eq_true (c.fact 198 (f := exm3F "NoRow" ["GoingError", "LackError", "BookError"]) rfl),
  excC_of (c.fact 199 (f := excCB "TooMuch") rfl),
  of_decide_eq_true (c.fact 200 (f := kitF "TooMuch" "GoingError" false) rfl),
  of_decide_eq_true (c.fact 201 (f := kitF "TooMuch" "LackError" false) rfl),
  of_decide_eq_true (c.fact 202 (f := kitF "TooMuch" "BookError" true) rfl),
  of_decide_eq_true (c.fact 203 (f := kitF "TooMuch" "NoTime" false) rfl),
  of_decide_eq_true (c.fact 204 (f := kitF "TooMuch" "NoPiece" false) rfl),
  of_decide_eq_true (c.fact 205 (f := kitF "TooMuch" "NoDays" false) rfl),
  of_decide_eq_true (c.fact 206 (f := kitF "TooMuch" "NoCard" false) rfl),
  of_decide_eq_true (c.fact 207 (f := kitF "TooMuch" "NoName" false) rfl),
  of_decide_eq_true (c.fact 208 (f := kitF "TooMuch" "NoRow" false) rfl),
  of_decide_eq_true (c.fact 209 (f := kitF "TooMuch" "NoText" false) rfl),
  of_decide_eq_true (c.fact 210 (f := kitF "TooMuch" "NoLine" false) rfl),
  of_decide_eq_true (c.fact 211 (f := kitF "TooMuch" "NoGoing" false) rfl),
  of_decide_eq_true (c.fact 212 (f := kitF "TooMuch" "Needed" false) rfl),
  of_decide_eq_true (c.fact 213 (f := kitF "TooMuch" "Taken" false) rfl),
  of_decide_eq_true (c.fact 214 (f := kitF "TooMuch" "Round" false) rfl),
  of_decide_eq_true (c.fact 215 (f := kitF "TooMuch" "TooMuch" true) rfl),
  of_decide_eq_true (c.fact 216 (f := kitFT "TooMuch" "ValueError" false) rfl),
  of_decide_eq_true (c.fact 217 (f := kitFT "TooMuch" "LookupError" false) rfl),
  of_decide_eq_true (c.fact 218 (f := kitFT "TooMuch" "RuntimeError" true) rfl),
  of_decide_eq_true (c.fact 219 (f := exm3F "TooMuch" ["GoingError", "LackError", "BookError"]) rfl),
  excC_of (c.fact 220 (f := excCB "NoText") rfl),
  of_decide_eq_true (c.fact 221 (f := kitF "NoText" "GoingError" true) rfl),
  of_decide_eq_true (c.fact 222 (f := kitF "NoText" "LackError" false) rfl),
  of_decide_eq_true (c.fact 223 (f := kitF "NoText" "BookError" false) rfl),
  of_decide_eq_true (c.fact 224 (f := kitF "NoText" "NoTime" false) rfl),
  of_decide_eq_true (c.fact 225 (f := kitF "NoText" "NoPiece" false) rfl),
  of_decide_eq_true (c.fact 226 (f := kitF "NoText" "NoDays" false) rfl),
  of_decide_eq_true (c.fact 227 (f := kitF "NoText" "NoCard" false) rfl),
  of_decide_eq_true (c.fact 228 (f := kitF "NoText" "NoName" false) rfl),
  of_decide_eq_true (c.fact 229 (f := kitF "NoText" "NoRow" false) rfl),
  of_decide_eq_true (c.fact 230 (f := kitF "NoText" "NoText" true) rfl),
  of_decide_eq_true (c.fact 231 (f := kitF "NoText" "NoLine" false) rfl),
  of_decide_eq_true (c.fact 232 (f := kitF "NoText" "NoGoing" false) rfl),
  of_decide_eq_true (c.fact 233 (f := kitF "NoText" "Needed" false) rfl),
  of_decide_eq_true (c.fact 234 (f := kitF "NoText" "Taken" false) rfl),
  of_decide_eq_true (c.fact 235 (f := kitF "NoText" "Round" false) rfl),
  of_decide_eq_true (c.fact 236 (f := kitF "NoText" "TooMuch" false) rfl),
  of_decide_eq_true (c.fact 237 (f := kitFT "NoText" "ValueError" true) rfl),
  of_decide_eq_true (c.fact 238 (f := kitFT "NoText" "LookupError" false) rfl),
  of_decide_eq_true (c.fact 239 (f := kitFT "NoText" "RuntimeError" false) rfl),
  of_decide_eq_true (c.fact 240 (f := exm3F "NoText" ["GoingError", "LackError", "BookError"]) rfl),
  excC_of (c.fact 241 (f := excCB "NoLine") rfl),
  of_decide_eq_true (c.fact 242 (f := kitF "NoLine" "GoingError" false) rfl),
  of_decide_eq_true (c.fact 243 (f := kitF "NoLine" "LackError" true) rfl),
  of_decide_eq_true (c.fact 244 (f := kitF "NoLine" "BookError" false) rfl),
  of_decide_eq_true (c.fact 245 (f := kitF "NoLine" "NoTime" false) rfl),
  of_decide_eq_true (c.fact 246 (f := kitF "NoLine" "NoPiece" false) rfl),
  of_decide_eq_true (c.fact 247 (f := kitF "NoLine" "NoDays" false) rfl),
  of_decide_eq_true (c.fact 248 (f := kitF "NoLine" "NoCard" false) rfl),
  of_decide_eq_true (c.fact 249 (f := kitF "NoLine" "NoName" false) rfl),
  of_decide_eq_true (c.fact 250 (f := kitF "NoLine" "NoRow" false) rfl),
  of_decide_eq_true (c.fact 251 (f := kitF "NoLine" "NoText" false) rfl),
  of_decide_eq_true (c.fact 252 (f := kitF "NoLine" "NoLine" true) rfl),
  of_decide_eq_true (c.fact 253 (f := kitF "NoLine" "NoGoing" false) rfl),
  of_decide_eq_true (c.fact 254 (f := kitF "NoLine" "Needed" false) rfl),
  of_decide_eq_true (c.fact 255 (f := kitF "NoLine" "Taken" false) rfl),
  of_decide_eq_true (c.fact 256 (f := kitF "NoLine" "Round" false) rfl),
  of_decide_eq_true (c.fact 257 (f := kitF "NoLine" "TooMuch" false) rfl),
  of_decide_eq_true (c.fact 258 (f := kitFT "NoLine" "ValueError" false) rfl),
  of_decide_eq_true (c.fact 259 (f := kitFT "NoLine" "LookupError" true) rfl),
  of_decide_eq_true (c.fact 260 (f := kitFT "NoLine" "RuntimeError" false) rfl),
  of_decide_eq_true (c.fact 261 (f := exm3F "NoLine" ["GoingError", "LackError", "BookError"]) rfl),
  excC_of (c.fact 262 (f := excCB "NoGoing") rfl),
  of_decide_eq_true (c.fact 263 (f := kitF "NoGoing" "GoingError" false) rfl),
  of_decide_eq_true (c.fact 264 (f := kitF "NoGoing" "LackError" true) rfl),
  of_decide_eq_true (c.fact 265 (f := kitF "NoGoing" "BookError" false) rfl),
  of_decide_eq_true (c.fact 266 (f := kitF "NoGoing" "NoTime" false) rfl),
  of_decide_eq_true (c.fact 267 (f := kitF "NoGoing" "NoPiece" false) rfl),
  of_decide_eq_true (c.fact 268 (f := kitF "NoGoing" "NoDays" false) rfl),
  of_decide_eq_true (c.fact 269 (f := kitF "NoGoing" "NoCard" false) rfl),
  of_decide_eq_true (c.fact 270 (f := kitF "NoGoing" "NoName" false) rfl),
  of_decide_eq_true (c.fact 271 (f := kitF "NoGoing" "NoRow" false) rfl),
  of_decide_eq_true (c.fact 272 (f := kitF "NoGoing" "NoText" false) rfl),
  of_decide_eq_true (c.fact 273 (f := kitF "NoGoing" "NoLine" false) rfl),
  of_decide_eq_true (c.fact 274 (f := kitF "NoGoing" "NoGoing" true) rfl),
  of_decide_eq_true (c.fact 275 (f := kitF "NoGoing" "Needed" false) rfl),
  of_decide_eq_true (c.fact 276 (f := kitF "NoGoing" "Taken" false) rfl),
  of_decide_eq_true (c.fact 277 (f := kitF "NoGoing" "Round" false) rfl),
  of_decide_eq_true (c.fact 278 (f := kitF "NoGoing" "TooMuch" false) rfl),
  of_decide_eq_true (c.fact 279 (f := kitFT "NoGoing" "ValueError" false) rfl),
  of_decide_eq_true (c.fact 280 (f := kitFT "NoGoing" "LookupError" true) rfl),
  of_decide_eq_true (c.fact 281 (f := kitFT "NoGoing" "RuntimeError" false) rfl),
  of_decide_eq_true (c.fact 282 (f := exm3F "NoGoing" ["GoingError", "LackError", "BookError"]) rfl),
  excC_of (c.fact 283 (f := excCB "Needed") rfl),
  of_decide_eq_true (c.fact 284 (f := kitF "Needed" "GoingError" false) rfl),
  of_decide_eq_true (c.fact 285 (f := kitF "Needed" "LackError" false) rfl),
  of_decide_eq_true (c.fact 286 (f := kitF "Needed" "BookError" true) rfl),
  of_decide_eq_true (c.fact 287 (f := kitF "Needed" "NoTime" false) rfl),
  of_decide_eq_true (c.fact 288 (f := kitF "Needed" "NoPiece" false) rfl),
  of_decide_eq_true (c.fact 289 (f := kitF "Needed" "NoDays" false) rfl),
  of_decide_eq_true (c.fact 290 (f := kitF "Needed" "NoCard" false) rfl),
  of_decide_eq_true (c.fact 291 (f := kitF "Needed" "NoName" false) rfl),
  of_decide_eq_true (c.fact 292 (f := kitF "Needed" "NoRow" false) rfl),
  of_decide_eq_true (c.fact 293 (f := kitF "Needed" "NoText" false) rfl),
  of_decide_eq_true (c.fact 294 (f := kitF "Needed" "NoLine" false) rfl),
  of_decide_eq_true (c.fact 295 (f := kitF "Needed" "NoGoing" false) rfl),
  of_decide_eq_true (c.fact 296 (f := kitF "Needed" "Needed" true) rfl),
  of_decide_eq_true (c.fact 297 (f := kitF "Needed" "Taken" false) rfl),
  of_decide_eq_true (c.fact 298 (f := kitF "Needed" "Round" false) rfl),
  of_decide_eq_true (c.fact 299 (f := kitF "Needed" "TooMuch" false) rfl),
  of_decide_eq_true (c.fact 300 (f := kitFT "Needed" "ValueError" false) rfl),
  of_decide_eq_true (c.fact 301 (f := kitFT "Needed" "LookupError" false) rfl),
  of_decide_eq_true (c.fact 302 (f := kitFT "Needed" "RuntimeError" true) rfl),
  of_decide_eq_true (c.fact 303 (f := exm3F "Needed" ["GoingError", "LackError", "BookError"]) rfl),
  excC_of (c.fact 304 (f := excCB "Taken") rfl),
  of_decide_eq_true (c.fact 305 (f := kitF "Taken" "GoingError" false) rfl),
  of_decide_eq_true (c.fact 306 (f := kitF "Taken" "LackError" false) rfl),
  of_decide_eq_true (c.fact 307 (f := kitF "Taken" "BookError" true) rfl),
  of_decide_eq_true (c.fact 308 (f := kitF "Taken" "NoTime" false) rfl),
  of_decide_eq_true (c.fact 309 (f := kitF "Taken" "NoPiece" false) rfl),
  of_decide_eq_true (c.fact 310 (f := kitF "Taken" "NoDays" false) rfl),
  of_decide_eq_true (c.fact 311 (f := kitF "Taken" "NoCard" false) rfl),
  of_decide_eq_true (c.fact 312 (f := kitF "Taken" "NoName" false) rfl),
  of_decide_eq_true (c.fact 313 (f := kitF "Taken" "NoRow" false) rfl),
  of_decide_eq_true (c.fact 314 (f := kitF "Taken" "NoText" false) rfl),
  of_decide_eq_true (c.fact 315 (f := kitF "Taken" "NoLine" false) rfl),
  of_decide_eq_true (c.fact 316 (f := kitF "Taken" "NoGoing" false) rfl),
  of_decide_eq_true (c.fact 317 (f := kitF "Taken" "Needed" false) rfl),
  of_decide_eq_true (c.fact 318 (f := kitF "Taken" "Taken" true) rfl),
  of_decide_eq_true (c.fact 319 (f := kitF "Taken" "Round" false) rfl),
  of_decide_eq_true (c.fact 320 (f := kitF "Taken" "TooMuch" false) rfl),
  of_decide_eq_true (c.fact 321 (f := kitFT "Taken" "ValueError" false) rfl),
  of_decide_eq_true (c.fact 322 (f := kitFT "Taken" "LookupError" false) rfl),
  of_decide_eq_true (c.fact 323 (f := kitFT "Taken" "RuntimeError" true) rfl),
  of_decide_eq_true (c.fact 324 (f := exm3F "Taken" ["GoingError", "LackError", "BookError"]) rfl),
  excC_of (c.fact 325 (f := excCB "Round") rfl),
  of_decide_eq_true (c.fact 326 (f := kitF "Round" "GoingError" false) rfl),
  of_decide_eq_true (c.fact 327 (f := kitF "Round" "LackError" false) rfl),
  of_decide_eq_true (c.fact 328 (f := kitF "Round" "BookError" true) rfl),
  of_decide_eq_true (c.fact 329 (f := kitF "Round" "NoTime" false) rfl),
  of_decide_eq_true (c.fact 330 (f := kitF "Round" "NoPiece" false) rfl),
  of_decide_eq_true (c.fact 331 (f := kitF "Round" "NoDays" false) rfl),
  of_decide_eq_true (c.fact 332 (f := kitF "Round" "NoCard" false) rfl),
  of_decide_eq_true (c.fact 333 (f := kitF "Round" "NoName" false) rfl),
  of_decide_eq_true (c.fact 334 (f := kitF "Round" "NoRow" false) rfl),
  of_decide_eq_true (c.fact 335 (f := kitF "Round" "NoText" false) rfl),
  of_decide_eq_true (c.fact 336 (f := kitF "Round" "NoLine" false) rfl),
  of_decide_eq_true (c.fact 337 (f := kitF "Round" "NoGoing" false) rfl),
  of_decide_eq_true (c.fact 338 (f := kitF "Round" "Needed" false) rfl),
  of_decide_eq_true (c.fact 339 (f := kitF "Round" "Taken" false) rfl),
  of_decide_eq_true (c.fact 340 (f := kitF "Round" "Round" true) rfl),
  of_decide_eq_true (c.fact 341 (f := kitF "Round" "TooMuch" false) rfl),
  of_decide_eq_true (c.fact 342 (f := kitFT "Round" "ValueError" false) rfl),
  of_decide_eq_true (c.fact 343 (f := kitFT "Round" "LookupError" false) rfl),
  of_decide_eq_true (c.fact 344 (f := kitFT "Round" "RuntimeError" true) rfl),
  of_decide_eq_true (c.fact 345 (f := exm3F "Round" ["GoingError", "LackError", "BookError"]) rfl),
  c.def_ 0 (d := d_NoText_init) rfl,
  c.def_ 1 (d := d_NoLine_init) rfl,
  c.def_ 2 (d := d_NoGoing_init) rfl,
  c.def_ 3 (d := d_Needed_init) rfl,
  c.def_ 4 (d := d_Taken_init) rfl,
  c.def_ 5 (d := d_Round_init) rfl,
  c.def_ 6 (d := d__law_pot) rfl,
  c.def_ 7 (d := d__law_take) rfl,
  c.def_ 8 (d := d__law_great) rfl,
  c.def_ 9 (d := d__law_name) rfl,
  c.def_ 10 (d := d__law_kinds) rfl,
  c.def_ 11 (d := d__law_plain) rfl,
  c.def_ 12 (d := d__law_raised) rfl,
  c.def_ 13 (d := d__law_due) rfl,
  c.def_ 14 (d := d__law_stands) rfl,
  c.def_ 15 (d := d__law_two) rfl,
  c.def_ 16 (d := d__law_thing) rfl,
  c.def_ 17 (d := d_law) rfl⟩
end Toy
open PySem PySem.W PySem.Calls PyProof.Rows
set_option maxRecDepth 100000 in
set_option maxHeartbeats 0 in
theorem PySem.Challenge.cw_shortgoings_k16_refusals_made_holds : PySem.Challenge.rw_shortgoings_k16_refusals_made.Holds := by
  w_on; o_law
  refine HandSHeadRun.head_any (r := OpenLaw.row PySem.Challenge.rw_shortgoings_k16_refusals_made) (q := view (OpenLaw.row PySem.Challenge.rw_shortgoings_k16_refusals_made).prog [29]) (H := Toy.hk) (ob := Toy.ob) (M := 8000) (loose := Toy.nss) (d := HandSHeadRun.topDef (OpenLaw.row PySem.Challenge.rw_shortgoings_k16_refusals_made).prog 29) (kwd := []) Toy.ob_eq
    (by kernel_rfl) (fun s => by kernel_rfl) Toy.run (by kernel_rfl) (by kernel_rfl) (by kernel_rfl) (by rfl) (by first | assumption | decide +kernel) (by decide +kernel) ⟨rfl, rfl, rfl, rfl, rfl, by decide +kernel⟩ ?hw ?hc
  case hw => w_witness2
  case hc =>
    refine L3.walk_end (l := PySem.Challenge.rw_shortgoings_k16_refusals_made) (n := 63) (k := 31) (x := "_law_script") rfl (by decide) (by kernel_rfl) (L3.rm_caller.mono (by decide)) ?F
    intro w mg fa h Y G hmg0
    obtain ⟨K, KX, c⟩ := Y
    have hmg : mg ("law" : PySem.Str) = some (.ref fa) := by
      have e : (HandSHeadRun.topDef (OpenLaw.row PySem.Challenge.rw_shortgoings_k16_refusals_made).prog 29).name = ("law" : PySem.Str) := by kernel_rfl
      rw [← e]
      exact hmg0
    have T := Toy.env_of KX G c
    have e := hmg.symm.trans T.g_law
    cases e
    obtain ⟨fd, F⟩ := T.f_law
    have b := L2.FunD.bindsA (ps := ["_law_script"]) F fun _ _ _ _ _ _ us hl => match us, hl with | [_], _ => rfl
    exact ⟨K, fd, Toy.sp_law K, KX, fun s v => b s [v] rfl, fun H a ns hl hS => ⟨a, ns, rfl, hS, hl, fun _ => rfl⟩, fun base _ _ => Toy.ok_law T F⟩
