import PyProof.Rows.All
import Wide.All
import OpenK.AllK
import Wide.FinOn
import PyProof.EqAt
import PyProof.EqKinds
import PyProof.TupleCall
import HandS.ForMost
import HandS.ForExc
import HandS.Defaults
import HandS.MakeKwOnly
import HandS.WideBits
import HandS.IsInst
import HandS.Flow
import HandS.Style
import HandS.Evl
import HandS.StrMore
import HandS.TupAny
import HandS.SortInts
import HandS.RaiseMore
import HandS.Zip
import HandS.Head0
import HandS.Head1
import HandS.Head2
import HandS.HeadEnd
import HandS.HeadHook1
import HandS.HeadHook2
import HandS.Walk
import PyProof.Rows.StrJoinRep
import PyProof.StrLawsLast
import HandS.Codes
import HandS.ExcIs
import KE.KTryMore
import KE.KFmtOwn
import PyProof.InstSpecial
import HandS.TryOnly
import HandS.FStr
import HandS.Conv
import HandS.SetFor
import HandS.Strs
import HandS.OwnEq
import HandS.Deep
import HandS.RaiseFrom
import HandS.SuiteRaise
import HandS.Exc
import KE.GoesMore
import PySem.Challenge.RW_shortgoings_k33_papers_judged
set_option Elab.async false
set_option linter.all false
set_option maxRecDepth 100000
set_option maxHeartbeats 4000000
namespace L3
open PySem PySem.Spec PyProof.Rows L2
structure Rm (k : Nat) (A : Around) : Prop where
  rm : Room k A
  gd : A.guards = some []
theorem Rm.mono {j k : Nat} {A : Around} (r : Rm k A) (h : j ≤ k) : Rm j A := ⟨r.rm.mono h, r.gd⟩
theorem Rm.deeper {k : Nat} {A : Around} (r : Rm (k + 1) A) (env : Env) : Rm k (A.deeper env) := ⟨r.rm.deeper env, r.gd⟩
structure Fb (P : Program) (w : World) (K : PySem.W.Frag) (mg : Str → Option Value) (base : Heap) (k : Nat) (f : Addr) (fd : FuncData) (ps : List Str) (sp : Sp) : Prop where
  len : ∀ vs H Q E, sp vs H Q E → vs.length = ps.length
  run : ∀ (A : Around) (outer : List Env) (s : Shared) (H : Hp) (args : Args) (us : List Value) (vs : List V) (Q : VK) (E : XK), Rm k A → Env0 P w K mg base A outer s H → BindsTo s fd args (ps.zip us) → Vals vs us → sp vs H Q E →
    codeAny (model P w) A (.call (.ref f) args) (CR (L2.CX P w) outer P w H s Q E) s
section
variable {P : Program} {w : World} {K : PySem.W.Frag} {mg : Str → Option Value} {base : Heap} {x qual : Str} {params : Arguments} {body : List Stmt} {scope : Scope} {dvs : List V} {kws : List (Str × V)} {f : Addr} {fd : FuncData} {k : Nat} {ps N : List Str} {sp : Sp}
theorem fb_of (F : FunD K x qual params body scope dvs kws f fd) (S : FnScope N ps scope) (len : ∀ vs H Q E, sp vs H Q E → vs.length = ps.length)
    (hbody : ∀ (cdv : Value) (A : Around) (outer : List Env) (s : Shared) (H : Hp) (vs : List V) (Q : VK) (E : XK), Rm k (A.deeper (envOfC qual scope s.heap.objs.size f cdv)) → sp vs H Q E →
      ∃ t, PSs (cxOf (L2.CX P w) P w K mg base N qual scope f cdv A outer s H E) body t ∧ t { nx := fun _ H' => Q .non H', rt := Q } (start N vs) H) : Fb P w K mg base (k + 1) f fd ps sp := by
  obtain ⟨oc, od, dV, kV, doc, pm, an, cdv, ct, osl, rfl, lk, hcd, _, _⟩ := F.ex
  refine ⟨len, fun A outer s H args us vs Q E hr e0 hb r hsp => ?_⟩
  have hl := len _ _ _ _ hsp
  have KX : K.In s.heap := e0.mod.kin.keeps fun b o e => (e0.bs b o e).1
  have lim : s.heap.NoLimit := e0.mod.nolimit.keeps fun b o e => (e0.bs b o e).1
  have hkind : ∀ y ∈ ps.zip us, scope.names.lookup y.1 = some .local ∨ (scope.names.lookup y.1 = some .cell ∧ ((cellsFrom (s.heap.objs.size + 1) scope.names []).lookup y.1).isSome = true) := fun ⟨n, v⟩ hy => by
    rcases S.par n (List.of_mem_zip hy).1 with q | q
    · exact .inl q
    · exact .inr ⟨q, PySem.W.cellsFrom_some _ _ _ (.inl q)⟩
  refine codeAny_call_function hr.rm.depth (KX _ _ lk) rfl S.co S.gen rfl (PySem.W.codeRec_of KX hcd) (hb _ _ _ _ ?_)
  refine wpAny_newFunctionEnv_cells S.kind hkind fun env he s1 x => ?_
  subst he
  refine ⟨lim.keeps x.toInCall.keep, codeAny_func ?_⟩
  obtain ⟨t, ht, hq⟩ := hbody cdv A outer s H vs Q E (hr.deeper _) hsp
  have I : Inv (cxOf (L2.CX P w) P w K mg base N qual scope f cdv A outer s H E) [] (start N vs) H s1 := inv_start S hr.rm.hd e0 hl r x
  refine wpAny_mono (ht.run [] s1 (start N vs) H _ I hq) (fun fl s' hs => ?_) fun e s' hs => hs
  have fin : ∀ {σ' : L2.St} {H' : Hp} {v : V} {u : Value}, Inv (cxOf (L2.CX P w) P w K mg base N qual scope f cdv A outer s H E) [] σ' H' s' → RelV v u → Q v H' → CE outer P w H s Q u s' :=
    fun {σ' H' v u} J rv q => ⟨v, H', J.os, J.bare, J.base, J.hok, rv, q⟩
  cases fl with
  | ret u =>
    obtain ⟨v, σ', H', J, rv, q⟩ := hs
    exact fin J rv q
  | next =>
    obtain ⟨σ', H', J, q⟩ := hs
    exact fin (v := V.non) (u := Value.none) J rfl q
  | brk =>
    obtain ⟨_, _, _, q⟩ := hs
    exact False.elim q
  | cont =>
    obtain ⟨_, _, _, q⟩ := hs
    exact False.elim q
theorem Fb.mono {j : Nat} (F : Fb P w K mg base j f fd ps sp) (h : j ≤ k) : Fb P w K mg base k f fd ps sp := ⟨F.len, fun A outer s H args us vs Q E hr => F.run A outer s H args us vs Q E (hr.mono h)⟩
theorem Fb.imp {sp' : Sp} (F : Fb P w K mg base k f fd ps sp) (h : ∀ vs H Q E, sp' vs H Q E → sp vs H Q E) : Fb P w K mg base k f fd ps sp' :=
  ⟨fun vs H Q E q => F.len vs H Q E (h _ _ _ _ q), fun A outer s H args us vs Q E hr he hb hv hs => F.run A outer s H args us vs Q E hr he hb hv (h _ _ _ _ hs)⟩
def Fc (P : Program) (w : World) (K : PySem.W.Frag) (mg : Str → Option Value) (base : Heap) (k : Nat) (f : Addr) (ks : List Str) (sp : Sp) : Prop :=
  ∀ (A : Around) (outer : List Env) (s : Shared) (H : Hp) (us ws : List Value) (vs : List V) (Q : VK) (E : XK), Rm k A → Env0 P w K mg base A outer s H → Vals vs (us ++ ws) → ws.length = ks.length → sp vs H Q E →
    codeAny (model P w) A (.call (.ref f) ⟨us, ks.zip ws⟩) (CR (L2.CX P w) outer P w H s Q E) s
theorem Fc.mono {j : Nat} {ks : List Str} (F : Fc P w K mg base j f ks sp) (h : j ≤ k) : Fc P w K mg base k f ks sp := fun A outer s H us ws vs Q E hr => F A outer s H us ws vs Q E (hr.mono h)
theorem Fc.imp {sp' : Sp} {ks : List Str} (F : Fc P w K mg base k f ks sp) (h : ∀ vs H Q E, sp' vs H Q E → sp vs H Q E) : Fc P w K mg base k f ks sp' :=
  fun A outer s H us ws vs Q E hr he hv hl hs => F A outer s H us ws vs Q E hr he hv hl (h _ _ _ _ hs)
/-- every parameter is given by place -/
theorem Fb.all (F : Fb P w K mg base k f fd ps sp) (hb : Binds K fd ps []) : Fc P w K mg base k f [] sp := fun A outer s H us ws vs Q E hr e0 r hl h => by
  cases ws with
  | cons w ws => cases hl
  | nil =>
    rw [List.append_nil] at r
    have KX : K.In s.heap := e0.mod.kin.keeps fun b o e => (e0.bs b o e).1
    have l2 : us.length = ps.length := by rw [← r.length]; exact F.len _ _ _ _ h
    have b := hb s us KX (by rw [List.append_nil]; exact l2)
    rw [List.append_nil] at b
    exact F.run A outer s H ⟨us, []⟩ us vs Q E hr e0 b r h
/-- all parameters given, some by name, no defaults -/
theorem Fb.names (D : FunD K x qual params body scope [] kws f fd) (F : Fb P w K mg base k f fd ps sp) (n : Nat) (ks : List Str) (g : {α : Type} → List α → List α)
    (hrel : ∀ {vs : List V} {us : List Value}, Vals vs us → Vals (g vs) (g us))
    (h : ∀ (kV doc pm : Value) (an : Option Addr) (cdv ct : Value) (us ws : List Value), us.length = n → ws.length = ks.length →
      bindArgs (PySem.W.fnOf x qual params body scope .none kV doc pm an cdv ct) ⟨us, ks.zip ws⟩ = pure (ps.zip (g (us ++ ws)))) :
    Fc P w K mg base k f ks (fun vs H Q E => vs.length = n + ks.length ∧ sp (g vs) H Q E) := by
  obtain ⟨oc, od, dV, kV, doc, pm, an, cdv, ct, osl, rfl, lk, hcd, hD, hK⟩ := D.ex
  rcases hD with ⟨_, rfl⟩ | ⟨e, _⟩
  · intro A outer s H us ws vs Q E hr e0 r hl hsp
    have l2 : us.length = n := by
      have e := r.length
      rw [hsp.1, List.length_append, hl] at e
      omega
    exact F.run A outer s H ⟨us, ks.zip ws⟩ (g (us ++ ws)) (g vs) Q E hr e0 (.of_eq (h kV doc pm an cdv ct us ws l2 hl)) (hrel r) hsp.2
  · exact absurd rfl e
end
def tFc (sp : Sp) (W : WX) (t : TA) : TE := fun σ H Q => t σ H fun vs H1 => sp vs H1 Q (WE W σ)
section
variable {X : Cx} {k : Nat} {f C : Addr} {ks : List Str} {sp : Sp} {W : WX} {x m : Str} {p pos apos : Pos} {e o : Expr} {es : List Expr} {kws : List Keyword} {ta : TE} {t tk : TA}
theorem run_fc {pins : List (Addr × Obj)} {σ : L2.St} {H : Hp} {s : Shared} {Q : VK} {us ws : List Value} {vs : List V} (F : Fc X.prog X.w X.K X.mg X.base k f ks sp) (hr : Rm k X.A) (hx : Takes X W)
    (I : Inv X pins σ H s) (r : Vals vs (us ++ ws)) (hl : ws.length = ks.length) (h : sp vs H Q (WE W σ)) : wpAny (model X.prog X.w) X.A (call (.ref f) us (ks.zip ws)) (EP X pins σ Q) X.xe s := by
  refine wpAny_call (codeAny_mono (F X.A X.stack s H us ws vs Q (WE W σ) hr I.env0 r hl h) fun r s' hq => ?_)
  cases r with
  | error e => exact passAt hx σ pins H s e s' I hq
  | ok fl =>
    cases fl with
    | ret u => exact I.after hq
    | next => exact False.elim hq
    | brk => exact False.elim hq
    | cont => exact False.elim hq
/-- f(e, ..) -/
theorem c_call (F : Fc X.prog X.w X.K X.mg X.base k f [] sp) (hr : Rm k X.A) (hm : X.mg x = some (.ref f)) (hk : PySem.W.keepIn X.K (.ref f) = true) (hx : Takes X W)
    (ha : PA X (e :: es) t) (hg : Gl X x := by rfl) (hdb : (x == ("__debug__" : Str)) = false := by decide) (he : starEach (e :: es) X.env = (false, eval e X.env) :: starEach es X.env := by rfl) (hpl : (backTo pos (starEach es X.env)).any (·.1) = false := by rfl) :
    PE X (.Call (.Name x p) (e :: es) [] pos) (tFc sp W t) := by
  refine ⟨fun pins s σ H Q I h => ?_⟩
  refine wpAny_Call_Name_kw (ld_glob I hg hm ?_ hdb)
  refine PySem.W.callWith_K (h₀ := X.base) I.ok.mod.kin hk (thn (ha.run pos pins s σ H _ I h) fun us s1 ⟨vs, H1, I1, r, q⟩ => ⟨I1.kIn, ?_⟩) he hpl
  exact run_fc (ws := []) F hr hx I1 (by rw [List.append_nil]; exact r) rfl q
/-- f(k = v, ..) -/
theorem c_callK0 (F : Fc X.prog X.w X.K X.mg X.base k f ks sp) (hr : Rm k X.A) (hm : X.mg x = some (.ref f)) (hk : PySem.W.keepIn X.K (.ref f) = true) (hx : Takes X W)
    (hkw : PK X kws tk) (hg : Gl X x := by rfl) (hall : (backToKw pos (keywordEach kws X.env)).all (·.1.isSome) = true := by rfl) (hks : (backToKw pos (keywordEach kws X.env)).filterMap (·.1) = ks := by rfl)
    (hdb : (x == ("__debug__" : Str)) = false := by decide)
    (hpl : ((backTo pos (starEach [] X.env)).any (·.1) || (backToKw pos (keywordEach kws X.env)).any (·.1.isNone)) = false := by rfl) :
    PE X (.Call (.Name x p) [] kws pos) (fun σ H Q => tk σ H fun zs H2 => zs.length = ks.length ∧ sp zs H2 Q (WE W σ)) := by
  refine ⟨fun pins s σ H Q I h => ?_⟩
  refine wpAny_Call_Name_kw (ld_glob I hg hm ?_ hdb)
  refine PySem.W.callWith_KW0 (h₀ := X.base) I.ok.mod.kin hk hall ?_ hpl
  refine thn (hkw.run pos pins s σ H _ I h) fun ws s2 ⟨zs, H2, I2, rz, l2, q2⟩ => ⟨I2.kIn, ?_⟩
  rw [hks]
  exact run_fc (us := []) F hr hx I2 rz (rz.length.symm.trans l2) q2
end
@[irreducible] def rRepr (K : PySem.W.Frag) : List V → Hp → VK → Prop := fun xs H Q => ∃ (a : Addr) (d : PyData), xs = [.ref a] ∧ Dp K H (.ref a) d ∧ d.hasDict = false ∧ d.showable = true ∧ d.depth ≤ 60 ∧ d.shown.length ≤ sizeLine ∧ Q (.str d.shown) H
theorem call_repr {X : Cx} {k : Nat} (hr : Rm k X.A) : CallR X (.builtin "repr") (rRepr X.K) := by
  intro pins s σ H xs us Q I r h
  unfold rRepr at h
  obtain ⟨a, d, rfl, hd, hnd, hs, hdp, hsz, q⟩ := h
  cases r with
  | cons r1 r2 =>
    cases r2
    obtain ⟨as, rd⟩ := Dp.reads I d (.ref a) _ hd r1
    obtain rfl : _ = Value.ref a := r1
    refine repr_of_reads' rd hs (PyData.noDict_hsm hnd) hr.gd (by have := hr.rm.un; omega) (fun _ _ e => e) (fun h' u tk hk => ?_) hsz
    exact ⟨.str d.shown, H, I.kept hk, ⟨u, rfl⟩, q⟩
theorem rm_caller : Rm 230 callerA := ⟨⟨rfl, by decide, by decide⟩, rfl⟩
section
variable {P : Program} {w : World} {K : PySem.W.Frag} {mg mb : Str → Option Value} {k : Nat} {fa a : Addr} {fd : FuncData} {x : Str} {sp : Sp} {s₁ : Shared} {vs : List Value} {ns : List Int}
/-- the law's call over one abstract heap, in which at most the script is tracked -/
theorem law_core (H : Hp) (KX : K.In s₁.heap) (hns : s₁.heap.Ns mainGlobals mg) (hb : s₁.heap.Ns builtinsNs mb) (hbb : ∀ x : Str, x ≠ "__name__" → mb x = bootBuiltins x) (hlim : s₁.heap.NoLimit) (hg : s₁.gens = #[])
    (ha : s₁.heap.get? a = some { cls := .type "list", data := .seq vs.toArray }) (hr : Rm k callerA)
    (F : ∀ base : Heap, K.In base → base.Ns mainGlobals mg → Fb P w K mg base k fa fd [x] sp) (hbind : ∀ (s : Shared) (u : Value), BindsTo s fd ⟨[u], []⟩ [(x, u)])
    (hO : Only H) (hsp : sp [.ref a] H (fun v _ => v = .bl true) fun _ _ _ => False) (hok : HOk P w H s₁.heap) (hA : ∀ b, H b ≠ none → b = a) (hK : H a ≠ none → K.lookup a = none) :
    codeAny (model P w) callerA (.call (.ref fa) ⟨[.ref a], []⟩) (fun r s' => r = .ok (.ret (.bool true)) ∧ OldK s₁.heap s'.heap ∧ s'.os = s₁.os ∧ AllBare s'.gens) s₁ := by
  have isA : ∀ {b : Addr} {u : HO}, H b = some u → b = a := fun {b u} q => hA b (fun z => nomatch (q.symm.trans z))
  have free : ∀ {b : Addr} {o : Obj} {es : Array DictEntry} {ep : Nat}, s₁.heap.get? b = some o → o.data = .dict es ep → H b = none := fun {b o es ep} e d => by
    cases q : H b with
    | none => rfl
    | some u =>
      have eb := isA q
      subst eb
      rw [ha] at e
      cases e
      cases (show Data.seq vs.toArray _ = Data.dict es ep from d)
  have nsK : ∀ {b : Addr} {m : Str → Option Value}, s₁.heap.Ns b m → (hidT s₁.heap H).Ns b m := fun {b m} ⟨o, es, ep, e, d, r⟩ => ⟨o, es, ep, hidT_get e (free e d), d, r⟩
  have inK : K.In (hidT s₁.heap H) := fun b o e => hidT_get (KX b o e) (by
    cases q : H b with
    | none => rfl
    | some u =>
      have eb := isA q
      subst eb
      rw [hK (fun z => nomatch (q.symm.trans z))] at e
      cases e)
  have hM : Mod K mg (hidT s₁.heap H) := ⟨inK, nsK hns, ⟨mb, nsK hb, hbb⟩, let ⟨mc, h1, h2⟩ := hlim; ⟨mc, nsK h1, h2⟩⟩
  have e0 : Env0 P w K mg (hidT s₁.heap H) callerA [] s₁ H := ⟨rfl, hM, fun b o e => of_hidT e, Nat.le_of_eq (hidT_size _ _), trivial, (fun b z => nomatch (show b ∈ ([] : List Addr) from z)), hok, .of_eq hg⟩
  refine codeAny_mono ((F _ inK (nsK hns)).run callerA [] s₁ H ⟨[.ref a], []⟩ [.ref a] [.ref a] _ _ hr e0 (hbind s₁ (.ref a)) (.cons rfl .nil) hsp) fun r s' h => ?_
  cases r with
  | error e =>
    obtain ⟨_, _, _, _, _, _, _, _, _, _, _, _, z⟩ := h
    exact z.elim
  | ok fl =>
    cases fl with
    | next => exact h.elim
    | brk => exact h.elim
    | cont => exact h.elim
    | ret u =>
      obtain ⟨v, H', os, bare, un, hok2, rv, rfl⟩ := h
      obtain rfl : u = Value.bool true := rv
      refine ⟨rfl, OldK.of_keep fun b o e => ?_, os, bare⟩
      cases q : H b with
      | none => exact un.keep b o e q (fun z => nomatch (show b ∈ ([] : List Addr) from z)) (fun z => nomatch z)
      | some u =>
        rcases hO b with z | ⟨ob, xs, z⟩
        · exact nomatch (q.symm.trans z)
        · have e1 := (hok b _ z).1
          have e2 := (hok2 b _ (un.frzs b ob _ z)).1
          rw [e] at e1
          cases e1
          exact e2
theorem law_end (KX : K.In s₁.heap) (hns : s₁.heap.Ns mainGlobals mg) (hb : s₁.heap.Ns builtinsNs mb) (hbb : ∀ x : Str, x ≠ "__name__" → mb x = bootBuiltins x) (hlim : s₁.heap.NoLimit) (hg : s₁.gens = #[])
    (ha : s₁.heap.get? a = some { cls := .type "list", data := .seq vs.toArray }) (hi : IntsAre vs ns) (hl : ns.length ≤ sizeLine) (hr : Rm k callerA)
    (F : ∀ base : Heap, K.In base → base.Ns mainGlobals mg → Fb P w K mg base k fa fd [x] sp) (hbind : ∀ (s : Shared) (u : Value), BindsTo s fd ⟨[u], []⟩ [(x, u)])
    (hsp : ∀ H : Hp, SqL K H a (ns.map V.int) → sp [.ref a] H (fun v _ => v = .bl true) fun _ _ _ => False) :
    codeAny (model P w) callerA (.call (.ref fa) ⟨[.ref a], []⟩) (fun r s' => r = .ok (.ret (.bool true)) ∧ OldK s₁.heap s'.heap ∧ s'.os = s₁.os ∧ AllBare s'.gens) s₁ := by
  have rv := vals_ints hi
  cases hk : K.lookup a with
  | some o =>
    have e := KX a o hk
    rw [ha] at e
    cases e
    have sq : SqL K (fun _ => none) a (ns.map V.int) := .inr ⟨_, vs.toArray, _, hk, rfl, rfl, rfl, by rw [List.size_toArray, hi.length]; exact hl, by simpa using rv⟩
    exact law_core (fun _ => none) KX hns hb hbb hlim hg ha hr F hbind (fun _ => .inl rfl) (hsp _ sq) (fun b u z => nomatch (show (none : Option HO) = some u from z)) (fun b z => absurd rfl z) fun z => absurd rfl z
  | none =>
    have h1 : ∀ b, b ≠ a → (upd (fun _ => none) a (.frz { cls := .type "list", data := .seq vs.toArray } (.lst (ns.map V.int)))) b = none := fun b n => upd_ne n
    refine law_core (upd (fun _ => none) a (.frz { cls := .type "list", data := .seq vs.toArray } (.lst (ns.map V.int)))) KX hns hb hbb hlim hg ha hr F hbind (fun b => ?_) (hsp _ (.inl (.inr ⟨_, upd_same⟩))) (fun b u z => ?_) (fun b z => ?_) fun _ => hk
    · by_cases n : b = a
      · subst n
        exact .inr ⟨_, _, upd_same⟩
      · exact .inl (h1 b n)
    · by_cases n : b = a
      · subst n
        rw [upd_same] at z
        cases z
        exact ⟨ha, by rw [List.length_map]; exact hl, vs, _, rv, ha⟩
      · rw [h1 b n] at z
        cases z
    · by_cases n : b = a
      · exact n
      · exact absurd (h1 b n) z
end
theorem walk_end {l : PySem.W.OpenLaw} {n k : Nat} {q : Program} {loose : List Str} {XP : (Str → Option Value) → Heap → Prop} {YP : World → Heap → Prop} {d : DefRec} {x : Str}
    (hn : l.most = some n) (hn2 : n ≤ sizeLine) (hdf : d.params.defaults = []) (hr : Rm k callerA)
    (F : ∀ (w : World) (mg : Str → Option Value) (fa : Addr) (h : Heap), YP w h → h.Ns mainGlobals mg → mg d.name = some (.ref fa) →
      ∃ (K : PySem.W.Frag) (fd : FuncData) (sp : Sp), K.In h ∧ (∀ (s : Shared) (u : Value), BindsTo s fd ⟨[u], []⟩ [(x, u)]) ∧
        (∀ (H : Hp) (a : Addr) (ns : List Int), ns.length ≤ n → SqL K H a (ns.map V.int) → sp [.ref a] H (fun v _ => v = .bl true) fun _ _ _ => False) ∧
        ∀ base : Heap, K.In base → base.Ns mainGlobals mg → Fb l.prog w K mg base k fa fd [x] sp) :
    PySem.W.WalkO q loose XP YP l.row.toRowW d [] (fun f vs => PySem.call f vs) := by
  refine Att.attach_call hn hdf fun w s₀ s₁ mg mb fa o pm cd doc a vs ns G Y ho hd hcd hmg hobj hints hlen hg => ?_
  obtain ⟨K, fd, sp, KX, hb, hsp, hF⟩ := F w mg fa _ Y G.T.g hmg
  exact law_end KX G.T.g G.T.b G.T.builtins G.T.nolimit hg hobj hints (Nat.le_trans hlen hn2) hr hF hb (fun H hS => hsp H a ns hlen hS)
end L3
set_option Elab.async false
set_option linter.all false
set_option maxRecDepth 100000
set_option maxHeartbeats 4000000
namespace L3
open PySem PySem.Spec PyProof.Rows L2
abbrev Fx := PySem.W.Frag → Bool
def obsX (xf : List Fx) (fn : List He.DefD) (K : PySem.W.Frag) : He.AlD := ((xf.all fun p => p K) && fn.all fun d => d.ok K, fn.map fun d => He.fnW K d.at_)
def SaysX (xf : List Fx) (fn : List He.DefD) (K : PySem.W.Frag) : Prop := obsX xf fn K = He.valD fn
section
variable {xf : List Fx} {fn : List He.DefD} {K : PySem.W.Frag}
theorem SaysX.fact (c : SaysX xf fn K) (i : Nat) {f : Fx} (h : xf[i]? = some f := by rfl) : f K = true := by
  have c1 := (He.ba (show ((xf.all fun f => f K) && fn.all fun d => d.ok K) = true from congrArg (fun z : He.AlD => z.1) c)).1
  exact List.all_eq_true.mp c1 f (List.mem_of_getElem? h)
theorem SaysX.def_ (c : SaysX xf fn K) (i : Nat) {d : He.DefD} (h : fn[i]? = some d := by rfl) : ∃ fd, FunD K d.name d.qual d.params d.body d.scope (d.dvs K) (d.kws K) (He.fAd K d.at_) fd := by
  have c2 := (He.ba (show ((xf.all fun f => f K) && fn.all fun d => d.ok K) = true from congrArg (fun z : He.AlD => z.1) c)).2
  have e : fn.map (fun d => He.fnW K d.at_) = fn.map He.DefD.val := congrArg (fun z : He.AlD => z.2) c
  have e2 : (fn.map fun d => He.fnW K d.at_)[i]? = (fn.map He.DefD.val)[i]? := by rw [e]
  rw [List.getElem?_map, List.getElem?_map, h] at e2
  exact He.DefD.funD (Option.some.inj e2) (List.all_eq_true.mp c2 d (List.mem_of_getElem? h))
end
structure Exo (K : PySem.W.Frag) (C : Addr) (bmB : List Value) (newId : String) : Prop where
  x : PySem.W.excIn K C bmB newId = true
  kp : PySem.W.keepIn K (.ref C) = true
  sub : PySem.W.subIn K (.ref C) (.type "BaseException") = some true
  ty : PySem.W.typeIn K (.ref C) = some (.type "type")
abbrev bmV : List Value := [.type "ValueError", .type "Exception", .type "BaseException", .type "object"]
def exoB (bmB : List Value) (newId : String) (x : Str) : Fx := fun K => PySem.W.excIn K (He.ga K x) bmB newId && (PySem.W.keepIn K (.ref (He.ga K x)) && (decide (PySem.W.subIn K (.ref (He.ga K x)) (.type "BaseException") = some true) && decide (PySem.W.typeIn K (.ref (He.ga K x)) = some (.type "type"))))
theorem exo_of {bmB : List Value} {newId : String} {x : Str} {K : PySem.W.Frag} (h : exoB bmB newId x K = true) : Exo K (He.ga K x) bmB newId := by
  obtain ⟨h1, h⟩ := He.ba h
  obtain ⟨h2, h⟩ := He.ba h
  obtain ⟨h3, h4⟩ := He.ba h
  exact ⟨h1, h2, of_decide_eq_true h3, of_decide_eq_true h4⟩
end L3
set_option Elab.async false
set_option linter.all false
set_option maxRecDepth 100000
set_option maxHeartbeats 4000000
namespace L3
open PySem PySem.Spec PyProof.Rows L2
abbrev Ex (H H' : Hp) : Prop := Same H H'
theorem ex_new {H : Hp} {p : Addr} {o : HO} (h : H p = none) : Ex H (upd H p o) := fun a u e => by
  rw [upd_ne (ne_of_none e h)]
  exact e
/-- an object that H does not know may change -/
theorem ex_mut {H H' : Hp} {p : Addr} {o : HO} (e : Ex H H') (h : H p = none) : Ex H (upd H' p o) := fun a u ha => by
  rw [upd_ne (ne_of_none ha h)]
  exact e a u ha
theorem ex_sql {K : PySem.W.Frag} {H H' : Hp} {a : Addr} {xs : List V} (e : Ex H H') (h : SqL K H a xs) : SqL K H' a xs := Same.seq e h
theorem ex_sqt {K : PySem.W.Frag} {H H' : Hp} {a : Addr} {xs : List V} (e : Ex H H') (h : SqT K H a xs) : SqT K H' a xs := by
  rcases h with (h | ⟨o, h⟩) | h
  · exact .inl (.inl (e _ _ h))
  · exact .inl (.inr ⟨o, e _ _ h⟩)
  · exact .inr h
theorem ex_fresh {H H' : Hp} {p : Addr} (e : Ex H H') (h : H' p = none) : H p = none := Same.free e h
theorem sq_lst {K : PySem.W.Frag} {H : Hp} {a : Addr} {xs : List V} (h : H a = some (.lst xs)) : SqL K H a xs := .inl (.inl h)
theorem sq_tup {K : PySem.W.Frag} {H : Hp} {a : Addr} {xs : List V} (h : H a = some (.tup xs)) : SqT K H a xs := .inl (.inl h)
/-- a value of a known type -/
def isW : V → Bool
  | .int _ => true
  | _ => false
def isM : V → Bool
  | .int i => decide (0 ≤ i)
  | _ => false
def Cl (K : PySem.W.Frag) (H : Hp) (x : V) : Prop := ∃ t b c, TyX K H x t ∧ PySem.W.kitOne K t (.type "int") = some b ∧ PySem.W.kitOne K t (.type "bool") = some c ∧ isW x = (b && !c)
section
variable {K : PySem.W.Frag} {H : Hp}
theorem cl_int (i : Int) : Cl K H (.int i) := ⟨_, true, false, .base (.int i), kit_ty (by decide +kernel), kit_ty (by decide +kernel), rfl⟩
end
theorem isM_w {x : V} (h : isM x = true) : ∃ i, x = .int i ∧ 0 ≤ i := by
  cases x with
  | int i => exact ⟨i, rfl, of_decide_eq_true h⟩
  | _ => cases h
theorem isM_f {x : V} (h : isW x = false) : isM x = false := by
  cases x with
  | int i => cases h
  | _ => rfl
/-- given values and defaults in the parameters' order -/
def pick {α : Type} (ix : List (Sum Nat Nat)) (us its : List α) : List α := ix.filterMap fun j => match j with
  | .inl i => us[i]?
  | .inr i => its[i]?
theorem pick_vals {vs ds : List V} {us its : List Value} (ix : List (Sum Nat Nat)) (r1 : Vals vs us) (r2 : Vals ds its) : Vals (pick ix vs ds) (pick ix us its) := by
  have one : ∀ {vs : List V} {us : List Value} (i : Nat), Vals vs us → (∃ v u, vs[i]? = some v ∧ us[i]? = some u ∧ RelV v u) ∨ (vs[i]? = none ∧ us[i]? = none) := fun {vs us} i r => by
    cases e : vs[i]? with
    | none => exact .inr ⟨rfl, r.none_of e⟩
    | some v =>
      obtain ⟨u, h1, h2⟩ := r.get e
      exact .inl ⟨v, u, rfl, h1, h2⟩
  induction ix with
  | nil => exact .nil
  | cons j ix ih =>
    unfold pick at ih ⊢
    cases j with
    | inl i =>
      rcases one i r1 with ⟨v, u, h1, h2, h3⟩ | ⟨h1, h2⟩
      · simp only [List.filterMap_cons, h1, h2]
        exact .cons h3 ih
      · simp only [List.filterMap_cons, h1, h2]
        exact ih
    | inr i =>
      rcases one i r2 with ⟨v, u, h1, h2, h3⟩ | ⟨h1, h2⟩
      · simp only [List.filterMap_cons, h1, h2]
        exact .cons h3 ih
      · simp only [List.filterMap_cons, h1, h2]
        exact ih
end L3
namespace L3
open PySem PySem.Spec PyProof.Rows L2
theorem log_of {n : Nat} (h : n < 10 ^ 200) : n.log2 < 1920 := PySem.Flt.log2_lt_of (by decide) (Nat.lt_trans h (by decide +kernel))
/-- data that repr shows, without dicts: whole numbers of at most 500 figures, texts of any signs -/
def okI (i : Int) : Bool := decide (i.natAbs < 10 ^ 200)
def okT (x : Str) : Bool := x.cps.toList.all fun c => decide (c < 16 ^ 8)
mutual
def okD : PyData → Bool
  | .none => true
  | .bool _ => true
  | .int i => okI i
  | .str x => okT x
  | .list xs => okL xs
  | .tuple xs => okL xs
  | .dict _ => false
def okL : List PyData → Bool
  | [] => true
  | x :: xs => okD x && okL xs
end
mutual
def szD : PyData → Nat
  | .none => 4
  | .bool _ => 5
  | .int _ => 1921
  | .str x => 10 * x.length + 2
  | .list xs => szL xs + 3
  | .tuple xs => szL xs + 3
  | .dict _ => 0
def szL : List PyData → Nat
  | [] => 0
  | x :: xs => szD x + 2 + szL xs
end
mutual
theorem okD_tells : ∀ d : PyData, okD d = true → d.hasDict = false ∧ d.showable = true ∧ d.shown.length ≤ szD d
  | .none, _ => ⟨rfl, rfl, Nat.le_refl _⟩
  | .bool b, _ => ⟨rfl, rfl, by cases b <;> decide⟩
  | .int i, h => by
    have h1 : i.natAbs < 10 ^ 200 := of_decide_eq_true (show decide (i.natAbs < 10 ^ 200) = true from h)
    exact ⟨rfl, decide_eq_true (log_of h1), int_text_len_1921 (log_of h1)⟩
  | .str x, h => by
    have h1 : ∀ c ∈ x.cps.toList, c < 16 ^ 8 := fun c hc => of_decide_eq_true (List.all_eq_true.mp h c hc)
    exact ⟨rfl, rfl, StrLaws.reprText_len x h1⟩
  | .list xs, h => by
    obtain ⟨h1, h2, h3⟩ := okL_tells xs h
    refine ⟨h1, h2, Nat.le_trans (listText_len_le (PyData.shownAll xs)) ?_⟩
    have e := PyData.shownAll_length xs
    show _ ≤ szL xs + 3
    omega
  | .tuple xs, h => by
    obtain ⟨h1, h2, h3⟩ := okL_tells xs h
    refine ⟨h1, h2, Nat.le_trans (tupleText_len_le (PyData.shownAll xs)) ?_⟩
    have e := PyData.shownAll_length xs
    show _ ≤ szL xs + 3
    omega
  | .dict _, h => by cases h
theorem okL_tells : ∀ xs : List PyData, okL xs = true → PyData.hasDictAll xs = false ∧ PyData.showableAll xs = true ∧ ((PyData.shownAll xs).map (·.length)).sum + 2 * xs.length ≤ szL xs
  | [], _ => ⟨rfl, rfl, Nat.le_refl _⟩
  | x :: xs, h => by
    obtain ⟨g1, g2⟩ := He.ba (show (okD x && okL xs) = true from h)
    obtain ⟨h1, h2, h3⟩ := okD_tells x g1
    obtain ⟨k1, k2, k3⟩ := okL_tells xs g2
    refine ⟨?_, ?_, ?_⟩
    · show (x.hasDict || PyData.hasDictAll xs) = false
      rw [h1, k1]
      rfl
    · show (x.showable && PyData.showableAll xs) = true
      rw [h2, k2]
      rfl
    · show (x.shown.length + ((PyData.shownAll xs).map (·.length)).sum) + 2 * (xs.length + 1) ≤ szD x + 2 + szL xs
      omega
end
/-- repr of a list, a tuple -/
theorem rr_data {K : PySem.W.Frag} {H : Hp} {a : Addr} {d : PyData} {Q : VK} (h : Dp K H (.ref a) d) (ho : okD d = true) (hz : szD d ≤ 16000000) (hd : d.depth ≤ 60) (q : Q (.str d.shown) H) : rRepr K [.ref a] H Q := by
  obtain ⟨h1, h2, h3⟩ := okD_tells d ho
  unfold rRepr
  exact ⟨a, d, rfl, h, h1, h2, hd, Nat.le_trans h3 (Nat.le_trans hz (by rw [sizeLine_eq]; decide)), q⟩
section
variable {K : PySem.W.Frag} {H : Hp} {a : Addr} {ns : List Int} {Q : VK}
theorem dpAll_ints (K : PySem.W.Frag) (H : Hp) : ∀ ns : List Int, DpAll K H (ns.map V.int) (ns.map PyData.int)
  | [] => .nil
  | n :: ns => .cons (.int n) (dpAll_ints K H ns)
theorem ints_ok : ∀ ns : List Int, (∀ n ∈ ns, okI n = true) → okL (ns.map PyData.int) = true
  | [], _ => rfl
  | n :: ns, h => by
    show (okI n && okL (ns.map PyData.int)) = true
    rw [ints_ok ns fun m hm => h m (List.mem_cons_of_mem _ hm), h n List.mem_cons_self]
    rfl
theorem ints_sz : ∀ ns : List Int, szL (ns.map PyData.int) = 1923 * ns.length
  | [] => rfl
  | n :: ns => by
    show 1921 + 2 + szL (ns.map PyData.int) = 1923 * (ns.length + 1)
    rw [ints_sz ns]
    omega
theorem ints_depth : ∀ ns : List Int, PyData.depthAll (ns.map PyData.int) = 0
  | [] => rfl
  | n :: ns => by
    show max 0 (PyData.depthAll (ns.map PyData.int)) = 0
    rw [ints_depth ns]
    rfl
end
end L3
namespace L3
open PySem PySem.Spec PyProof.Rows L2
section
variable {K : PySem.W.Frag} {a : Addr} {xs : List V} {g : TG} {tt : TT} {te : TE} {vs : List Nat} {σ : L2.St} {H1 : Hp} {D : Addr} {Qd : Hp → Prop}
theorem small_len {n : Nat} (h : n ≤ 100000) : n < sizeLine := Nat.lt_of_le_of_lt h (by rw [sizeLine_eq]; decide)
abbrev Turn (g : TG) (tt : TT) (te : TE) (vs : List Nat) (σ : L2.St) (D : Addr) (x : V) (H : Hp) (N : Hp → Prop) : Prop :=
  g x (wipe σ vs) H fun σ2 H2 => wipe σ2 vs = wipe σ vs ∧ tt σ2 H2 fun b H3 => if b = true then te σ2 H3 fun y H4 => ∃ acc, H4 D = some (.lst acc) ∧ acc.length < sizeLine ∧ N (upd H4 D (.lst (acc ++ [y]))) else N H3
end
end L3
namespace L3
open PySem PySem.Spec PyProof.Rows L2
abbrev turns (most : Int) (n : Nat) : Int := if (if most < (n : Int) then most else (n : Int)) > (1 : Int) then (if most < (n : Int) then most else (n : Int)) else (1 : Int)
theorem turns_lo (most : Int) (n : Nat) (h : 0 < most ∧ most ≤ 63) : -(2 ^ 62) ≤ turns most n := by
  unfold turns
  split <;> split <;> omega
theorem turns_hi (most : Int) (n : Nat) (h : 0 < most ∧ most ≤ 63) : turns most n < 2 ^ 62 := by
  unfold turns
  split <;> split <;> omega
theorem turns_lt {i : Nat} (most : Int) (n : Nat) (h : 0 < most ∧ most ≤ 63) (hi : i < (turns most n).toNat) : i < 1000 := by
  unfold turns at hi
  split at hi <;> split at hi <;> omega
end L3
set_option Elab.async false
set_option linter.all false
set_option maxRecDepth 100000
set_option maxHeartbeats 4000000
namespace L3
open PySem PySem.Spec PyProof.Rows L2 TL
section
variable {J : It} {n : Nat} {G : Hp → Prop} {Y : Nat → Hp → V → Hp → Prop} {g : TG} {tt : TT} {te : TE} {vs : List Nat} {σ : L2.St} {H1 : Hp} {D : Addr} {Qd : Hp → Prop}
theorem range_fm_succ (fm : Nat → Option V) (i : Nat) : (List.range (i + 1)).filterMap fm = match fm i with
    | some y => (List.range i).filterMap fm ++ [y]
    | none => (List.range i).filterMap fm := by
  rw [List.range_succ, List.filterMap_append]
  cases e : fm i with
  | none => simp [e]
  | some y => simp [e]
theorem fm_len (fm : Nat → Option V) (i : Nat) : ((List.range i).filterMap fm).length ≤ i := by
  have := List.length_filterMap_le fm (List.range i)
  rwa [List.length_range] at this
theorem lc_fm (w : L2.Walk J n G Y) (fm : Nat → Option V) (I : Hp → Prop) (hI : ∀ H l, I H → I (upd H D (.lst l))) (i0 : I H1) (hn : n ≤ 100000) (hG : ∀ H, I H → G H)
    (hs : ∀ (i : Nat) (x : V) (H H' : Hp) (acc : List V) (N : Hp → Prop), i < n → I H → H D = some (.lst acc) → acc.length < sizeLine → Y i H x H' →
      (∀ H4, I H4 → H4 D = some (.lst acc) → match fm i with | some y => N (upd H4 D (.lst (acc ++ [y]))) | none => N H4) → Turn g tt te vs σ D x H' N)
    (hd : ∀ H, I H → H D = some (.lst ((List.range n).filterMap fm)) → Qd H) :
    ∃ W : Nat → Nat → Hp → Prop, (∃ m, W 0 m (upd H1 D (.lst []))) ∧ ∀ i m H, W i m H →
      (J.stop i H ∧ Qd H) ∨ (J.go i H ∧ ∃ Nx : Hp → Prop, (∀ H', Nx H' → ∃ m', m' < m ∧ W (i + 1) m' H') ∧ ∀ x H', J.yld i H x H' → Turn g tt te vs σ D x H' Nx) := by
  refine L2.lc_it w (fun i H => I H ∧ i ≤ n ∧ H D = some (.lst ((List.range i).filterMap fm))) ⟨hI _ _ i0, Nat.zero_le _, upd_same⟩ (fun i H _ p => hG H p.1) ?_ (fun H p => hd H p.1 p.2.2)
  rintro i x H H' hi ⟨p1, p2, p3⟩ y
  refine hs i x H H' _ _ hi p1 p3 (small_len (Nat.le_trans (fm_len fm i) (by omega))) y fun H4 i4 d4 => ?_
  have e := range_fm_succ fm i
  cases q : fm i with
  | none =>
    rw [q] at e
    exact ⟨i4, hi, by rw [e]; exact d4⟩
  | some y =>
    rw [q] at e
    exact ⟨hI _ _ i4, hi, by rw [upd_same, e]⟩
end
end L3
set_option Elab.async false
set_option linter.all false
set_option maxRecDepth 100000
set_option maxHeartbeats 4000000
namespace Mo
open PySem TL
def val (l : List Nat) : Nat := NumText.digitsVal l
end Mo
set_option Elab.async false
set_option linter.all false
set_option maxRecDepth 100000
set_option maxHeartbeats 4000000
namespace L3
open PySem PySem.Spec PyProof.Rows L2
end L3
set_option Elab.async false
set_option linter.all false
set_option maxRecDepth 100000
set_option maxHeartbeats 4000000
namespace L3
open PySem PySem.Spec PyProof.Rows L2
def keyD : Key → PyData
  | .inl i => .int i
  | .inr x => .str x
def zipK : List (Key × V) → List PyData → List (PyData × PyData)
  | (k, _) :: r, d :: ds => (keyD k, d) :: zipK r ds
  | _, _ => []
inductive Dq (K : PySem.W.Frag) (H : Hp) : V → PyData → Prop
  | non : Dq K H .non .none
  | bl (b : Bool) : Dq K H (.bl b) (.bool b)
  | int (i : Int) : Dq K H (.int i) (.int i)
  | str (x : Str) : Dq K H (.str x) (.str x)
  | lst {a : Addr} {xs : List V} {ds : List PyData} : SqL K H a xs → xs.length = ds.length → (∀ (i : Nat) (x : V) (d : PyData), xs[i]? = some x → ds[i]? = some d → Dq K H x d) → Dq K H (.ref a) (.list ds)
  | tup {a : Addr} {xs : List V} {ds : List PyData} : SqT K H a xs → xs.length = ds.length → (∀ (i : Nat) (x : V) (d : PyData), xs[i]? = some x → ds[i]? = some d → Dq K H x d) → Dq K H (.ref a) (.tuple ds)
  | dct {a : Addr} {kvs : List (Key × V)} {ds : List PyData} : H a = some (.dK kvs) → kvs.length = ds.length → (∀ (i : Nat) (k : Key) (x : V) (d : PyData), kvs[i]? = some (k, x) → ds[i]? = some d → Dq K H x d) → Dq K H (.ref a) (.dict (zipK kvs ds))
theorem Dq.mono {K : PySem.W.Frag} {H H' : Hp} {x : V} {d : PyData} (e : Ex H H') (h : Dq K H x d) : Dq K H' x d := by
  induction h with
  | non => exact .non
  | bl b => exact .bl b
  | int i => exact .int i
  | str x => exact .str x
  | lst s l _ ih => exact .lst (ex_sql e s) l ih
  | tup s l _ ih => exact .tup (ex_sqt e s) l ih
  | dct s l _ ih => exact .dct (e _ _ s) l ih
theorem all_reads {h : Heap} : ∀ (xs : List V) (ds : List PyData) (us : List Value), xs.length = ds.length → Vals xs us → (∀ (i : Nat) (x : V) (d : PyData), xs[i]? = some x → ds[i]? = some d → ∀ u, RelV x u → ∃ as, Reads h u d as ∧ sysModules ∉ as) → ∃ as, ReadsAll h us ds as ∧ sysModules ∉ as
  | [], [], _, _, r, _ => by
    cases r
    exact ⟨_, .nil, by simp⟩
  | x :: xs, d :: ds, _, l, r, h => by
    cases r with
    | cons r1 r2 =>
      obtain ⟨as, q1, n1⟩ := h 0 x d rfl rfl _ r1
      obtain ⟨bs, q2, n2⟩ := all_reads xs ds _ (by simpa using l) r2 fun i y e h1 h2 => h (i + 1) y e (by simpa using h1) (by simpa using h2)
      refine ⟨_, .cons q1 q2, fun z => ?_⟩
      rcases List.mem_append.mp z with z | z
      · exact n1 z
      · exact n2 z
theorem key_reads {h : Heap} {k : Key} {v : Value} (e : keyIs k v = true) : Reads h v (keyD k) [] := by
  rcases keyIs_shape e with ⟨i, t, rfl, rfl⟩ | ⟨x, t, rfl, rfl⟩
  · exact .int i t
  · exact .str x t
theorem kv_reads {P : Program} {w : World} {h : Heap} : ∀ (kvs : List (Key × V)) (ds : List PyData) (es : List DictEntry) (vs : List (Key × Value)), kvs.length = ds.length → KV kvs vs → Pairs (mixKind P w) es vs →
    (∀ (i : Nat) (k : Key) (x : V) (d : PyData), kvs[i]? = some (k, x) → ds[i]? = some d → ∀ u, RelV x u → ∃ as, Reads h u d as ∧ sysModules ∉ as) →
    ReadsAll h (es.map (·.key)) ((zipK kvs ds).map (·.1)) [] ∧ ∃ bs, ReadsAll h (es.map (·.val)) ((zipK kvs ds).map (·.2)) bs ∧ sysModules ∉ bs
  | [], [], es, vs, _, r, p, _ => by
    cases r
    cases p
    exact ⟨.nil, _, .nil, by simp⟩
  | (k, x) :: kvs, d :: ds, es, vs, l, r, p, h => by
    cases r with
    | cons r1 r2 =>
      cases p with
      | cons p1 p2 p3 =>
        obtain ⟨as, q1, n1⟩ := h 0 k x d rfl rfl _ r1.2
        obtain ⟨h1, bs, q2, n2⟩ := kv_reads kvs ds _ _ (by simpa using l) r2 p3 fun i k' y e h1 h2 => h (i + 1) k' y e (by simpa using h1) (by simpa using h2)
        refine ⟨ReadsAll.cons (as := []) (bs := []) (key_reads (by have e : k = _ := r1.1; subst e; exact p1)) h1, as ++ bs, ReadsAll.cons (by rw [← p2] at q1; exact q1) q2, fun z => ?_⟩
        rcases List.mem_append.mp z with z | z
        · exact n1 z
        · exact n2 z
/-- the part that is written holds sys.modules: a dict -/
def SysK (K : PySem.W.Frag) : Prop := ∃ o, K.lookup sysModules = some o ∧ o.cls = .type "dict"
def sysB : Fx := fun K => match K.lookup sysModules with
  | some o => match o.cls with
    | .type n => n == "dict"
    | _ => false
  | none => false
theorem sys_of {K : PySem.W.Frag} (h : sysB K = true) : SysK K := by
  unfold sysB at h
  split at h
  · rename_i o e
    split at h
    · rename_i n c
      have : n = "dict" := by simpa using h
      exact ⟨o, e, by rw [c, this]⟩
    · cases h
  · cases h
theorem Dq.reads {X : Cx} {pins : List (Addr × Obj)} {σ : L2.St} {H : Hp} {s : Shared} (I : Inv X pins σ H s) (S : SysK X.K) {x : V} {d : PyData} (h : Dq X.K H x d) : ∀ u, RelV x u → ∃ as, Reads s.heap u d as ∧ sysModules ∉ as := by
  obtain ⟨o1, k1, c1⟩ := S
  have g1 := I.kIn _ _ k1
  induction h with
  | non =>
    intro u r
    cases r
    exact ⟨_, .none, by simp⟩
  | bl b =>
    intro u r
    cases r
    exact ⟨_, .bool b, by simp⟩
  | int i =>
    rintro u ⟨t, rfl⟩
    exact ⟨_, .int i t, by simp⟩
  | str x =>
    rintro u ⟨t, rfl⟩
    exact ⟨_, .str x t, by simp⟩
  | @lst a xs ds hs l _ ih =>
    intro u r
    cases r
    obtain ⟨its, rv, ⟨o, n, ho, hc, _, hd⟩, _⟩ := I.list hs
    obtain ⟨as, hr, hn⟩ := all_reads xs ds its l rv ih
    refine ⟨_, .list ho hc hd hr, fun z => ?_⟩
    rcases List.mem_cons.mp z with z | z
    · rw [← z, g1] at ho
      cases ho
      rw [c1] at hc
      injection hc with z2
      exact absurd z2 (by decide)
    · exact hn z
  | @tup a xs ds hs l _ ih =>
    intro u r
    cases r
    obtain ⟨its, rv, ⟨o, ho, hc, n, hd⟩, _⟩ := I.tuple hs
    obtain ⟨as, hr, hn⟩ := all_reads xs ds its l rv ih
    exact ⟨_, .tuple ho hc hd hr, hn⟩
  | @dct a kvs ds hs l _ ih =>
    intro u r
    cases r
    obtain ⟨_, ns, vs, rk, o, es, ep, ho, ⟨hc, _, _⟩, hd, _, hp, _⟩ := dk_of I.hok hs
    obtain ⟨h1, bs, h2, hn⟩ := kv_reads kvs ds es.toList vs l rk hp ih
    refine ⟨_, .dict ho hc hd h1 h2, fun z => ?_⟩
    rcases List.mem_cons.mp z with z | z
    · rw [← z] at ns
      simp at ns
    · exact hn (by simpa using z)
end L3
set_option Elab.async false
set_option linter.all false
set_option maxRecDepth 100000
set_option maxHeartbeats 4000000
namespace L3
open PySem PySem.Spec PyProof.Rows L2
theorem Rm.in1 {k : Nat} {A : Around} (r : Rm (k + 1) A) : Rm k A.in1 := ⟨r.rm.in1, r.gd⟩
section
variable {X : Cx} {K : PySem.W.Frag}
theorem ix_listK (K : PySem.W.Frag) (h : X.K = K := by rfl) : IxR X (rIxL K) := h ▸ ix_list
theorem ix_tupK (K : PySem.W.Frag) (h : X.K = K := by rfl) : IxR X (rIxT K) := h ▸ ix_tup
theorem call_lenK (K : PySem.W.Frag) (h : X.K = K := by rfl) : CallR X (.builtin "len") (fun xs H Q => ∃ x n, xs = [x] ∧ LenV K x H n ∧ Q (.int n) H) := h ▸ call_len
end
end L3
set_option Elab.async false
set_option linter.all false
set_option maxRecDepth 100000
set_option maxHeartbeats 4000000
namespace L3
open PySem PySem.Spec PyProof.Rows L2
section
variable {J : It} {n : Nat} {G : Hp → Prop} {Y : Nat → Hp → V → Hp → Prop} {g : TG} {tt : TT} {te : TE} {vs : List Nat} {σ : L2.St} {H1 : Hp} {D : Addr} {Qd : Hp → Prop}
theorem lc_any (w : L2.Walk J n G Y) (I : Nat → List V → Hp → Prop) (hI : ∀ i acc H l, I i acc H → I i acc (upd H D (.lst l))) (i0 : I 0 [] H1) (hn : n ≤ 100000) (hl : ∀ i acc H, I i acc H → acc.length ≤ i) (hG : ∀ i acc H, I i acc H → G H)
    (hs : ∀ (i : Nat) (x : V) (H H' : Hp) (acc : List V) (N : Hp → Prop), i < n → I i acc H → H D = some (.lst acc) → acc.length < sizeLine → Y i H x H' →
      (∀ y H4, H4 D = some (.lst acc) → I (i + 1) (acc ++ [y]) H4 → N (upd H4 D (.lst (acc ++ [y])))) → (∀ H4, H4 D = some (.lst acc) → I (i + 1) acc H4 → N H4) → Turn g tt te vs σ D x H' N)
    (hd : ∀ acc H, I n acc H → H D = some (.lst acc) → Qd H) :
    ∃ W : Nat → Nat → Hp → Prop, (∃ m, W 0 m (upd H1 D (.lst []))) ∧ ∀ i m H, W i m H →
      (J.stop i H ∧ Qd H) ∨ (J.go i H ∧ ∃ Nx : Hp → Prop, (∀ H', Nx H' → ∃ m', m' < m ∧ W (i + 1) m' H') ∧ ∀ x H', J.yld i H x H' → Turn g tt te vs σ D x H' Nx) := by
  refine L2.lc_it w (fun i H => i ≤ n ∧ ∃ acc, I i acc H ∧ H D = some (.lst acc)) ⟨Nat.zero_le _, [], hI _ _ _ _ i0, upd_same⟩ (fun i H _ p => ?_) ?_ (fun H p => ?_)
  · obtain ⟨_, acc, p, _⟩ := p
    exact hG i acc H p
  · rintro i x H H' hi ⟨p1, acc, p2, p3⟩ y
    have := hl _ _ _ p2
    refine hs i x H H' acc _ hi p2 p3 (small_len (by omega)) y (fun y H4 d4 i4 => ⟨hi, _, hI _ _ _ _ i4, upd_same⟩) fun H4 d4 i4 => ⟨hi, _, i4, d4⟩
  · obtain ⟨_, acc, p, d⟩ := p
    exact hd acc H p d
end
end L3
set_option Elab.async false
set_option linter.all false
set_option maxRecDepth 100000
set_option maxHeartbeats 4000000
namespace SrtA
open PySem PyProof.Rows Srt SrtO
section
variable {prog : Program} {w : World} {A : Around} {E : Value → Shared → Prop} {s : Shared}
theorem collect_tup {l : Addr} {vs : List Value} {Q : List Value → Shared → Prop} (hl : s.heap.IsTuple l vs.toArray)
    (h : Q vs { s with heap := (s.heap.push (seqObj "list" #[] 0)).update s.heap.objs.size (Obj.mapSeq (· ++ vs.toArray)) }) (hsz : vs.length ≤ sizeLine) :
    wpAny (model prog w) A (collect (.ref l)) Q E s := by
  obtain ⟨o, ho, hc, n, hd⟩ := id hl
  unfold collect
  refine wpAny_bind (wpAny_runValue (codeAny_builtin entry_proto_collect' ?_))
  show wpAny _ _ (do again (.builtin "list.__iadd__" ⟨[← newList [], .ref l], []⟩)) _ _ s
  refine wpAny_bind (wpAny_newList (wpAny_pure ⟨Code.quiet_builtin _ (by decide +kernel), codeAny_builtin entry_list_iadd' ?_⟩))
  show wpAny _ _ (Builtin.List.listExtendWith (.ref s.heap.objs.size) (.ref l) (.ref s.heap.objs.size)) _ _ { s with heap := s.heap.push (seqObj "list" #[] 0) }
  unfold Builtin.List.listExtendWith
  have ho' : (s.heap.push (seqObj "list" #[] 0)).get? l = some o := Heap.get?_push_of_some _ ho
  refine wpAny_bind (wpAny_typeOf (T := "tuple") ⟨o, ho', hc⟩ ?_)
  have ht : (Value.type "tuple" == Value.type "tuple") = true := by rfl
  rw [if_pos (by rw [ht]; simp)]
  refine wpAny_bind (listItems_at ho' hd ?_)
  refine wpAny_bind (listItems_at (xs := #[]) (n := 0) (Heap.get?_push_size _ rfl) rfl ?_)
  rw [if_neg (by simp)]
  refine wpAny_bind (listUpdate_at (xs := #[]) (n := 0) (Heap.get?_push_size _ rfl) rfl ?_ (Nat.zero_le _) (by show (#[] ++ vs.toArray).size ≤ sizeLine + 1; simp only [Array.size_append, List.size_toArray, List.length_nil]; omega))
  refine wpAny_pure ?_
  show wpAny (model prog w) A (do
      let o ← load s.heap.objs.size
      match o.data with
      | .seq xs _ => pure xs.toList
      | _ => unsupported "internal:collect") Q E { s with heap := (s.heap.push (seqObj "list" #[] 0)).update s.heap.objs.size (Obj.mapSeq (· ++ vs.toArray)) }
  refine wpAny_bind (wpAny_load (get?_update_seq (Heap.get?_push_size _ rfl) _) ?_)
  show wpAny _ _ (pure ((#[] : Array Value) ++ vs.toArray).toList) Q E _
  rw [show ((#[] : Array Value) ++ vs.toArray).toList = vs by simp]
  exact wpAny_pure h
theorem sorted_tup {l : Addr} {vs : List Value} {ltv : Value → Value → Bool} {Q : Value → Shared → Prop} (O : Swo ltv) (hl : s.heap.IsTuple l vs.toArray) (hz : vs.length ≤ sizeLine)
    (hS : 2 ≤ vs.length → ∀ (h₁ : Heap) (a : Addr), h₁.get? a = some (seqObj "list" vs.toArray 0) → (∀ b o, s.heap.get? b = some o → b ≠ a ∧ h₁.get? b = some o) → SortableO prog w A.in1.in1 { s with heap := h₁ } a vs ltv)
    (h : ∀ out : List Value, Srtd ltv out → Stb ltv out vs → Q (.ref (s.heap.objs.size + 1)) { s with heap := sortedAll s.heap vs out.toArray }) :
    wpAny (model prog w) A (call (.builtin "sorted") [.ref l]) Q E s := by
  refine Calls.call_function_entry kind_sorted plain_sorted entry_sorted (args_sorted1 _) ?_
  unfold Builtin.«sorted»
  refine wpAny_bind (m := checkCount "sorted" 1 1 _) (wpAny_pure ?_)
  refine wpAny_bind (collect_tup hl ?_ hz)
  refine wpAny_bind (wpAny_newList ?_ hz)
  have hsz : ((s.heap.push (seqObj "list" #[] 0)).update s.heap.objs.size (Obj.mapSeq (· ++ vs.toArray))).objs.size = s.heap.objs.size + 1 := by
    rw [Heap.size_update, size_push']
  have hoL : (((s.heap.push (seqObj "list" #[] 0)).update s.heap.objs.size (Obj.mapSeq (· ++ vs.toArray))).push (seqObj "list" vs.toArray 0)).get? (s.heap.objs.size + 1) = some (seqObj "list" vs.toArray 0) := by
    rw [← hsz]; exact Heap.get?_push_size _ rfl
  have keep : ∀ b o, s.heap.get? b = some o → b ≠ s.heap.objs.size + 1 ∧ (((s.heap.push (seqObj "list" #[] 0)).update s.heap.objs.size (Obj.mapSeq (· ++ vs.toArray))).push (seqObj "list" vs.toArray 0)).get? b = some o := fun b o q => by
    have hlt : b < s.heap.objs.size := Heap.lt_size q
    refine ⟨Nat.ne_of_lt (Nat.lt_succ_of_lt hlt), Heap.get?_push_of_some _ ?_⟩
    rw [Heap.get?_update_ne _ _ _ _ (Nat.ne_of_lt hlt)]
    exact Heap.get?_push_of_some _ q
  show wpAny _ _ _ _ _ { s with heap := ((s.heap.push (seqObj "list" #[] 0)).update s.heap.objs.size (Obj.mapSeq (· ++ vs.toArray))).push (seqObj "list" vs.toArray 0) }
  rw [hsz]
  refine wpAny_bind (wpAny_holding (wpAny_call_entry slot_list_sort ⟨_, hoL, rfl⟩ entry_list_sort (list_sort_ord O hoL hz (fun h2 => hS h2 _ _ hoL keep) fun out hs hb => ⟨_, rfl, ?_⟩) (args_list_sort _)))
  exact wpAny_pure ⟨_, rfl, h out hs hb⟩
end
end SrtA
namespace L3
open PySem PySem.Spec PyProof.Rows L2
/-- the numbers in order -/
def srt (ns : List Int) : List Int := ns.mergeSort (fun a b => decide (a ≤ b))
theorem srt_perm (ns : List Int) : (srt ns).Perm ns := List.mergeSort_perm ns _
theorem srt_sorted (ns : List Int) : (srt ns).Pairwise (· ≤ ·) := by
  have h := List.pairwise_mergeSort (le := fun a b : Int => decide (a ≤ b)) (fun a b c h1 h2 => decide_eq_true (Int.le_trans (of_decide_eq_true h1) (of_decide_eq_true h2))) (fun a b => by
    rcases Int.le_total a b with h | h
    · rw [decide_eq_true h]; rfl
    · rw [decide_eq_true h, Bool.or_true]) ns
  exact h.imp fun h => of_decide_eq_true h
theorem sorted_uniq : ∀ {xs ys : List Int}, xs.Perm ys → xs.Pairwise (· ≤ ·) → ys.Pairwise (· ≤ ·) → xs = ys
  | [], ys, p, _, _ => p.nil_eq
  | x :: xs, [], p, _, _ => absurd p.symm.nil_eq (by simp)
  | x :: xs, y :: ys, p, hx, hy => by
    have e : x = y := by
      have h1 : x ∈ y :: ys := p.subset List.mem_cons_self
      have h2 : y ∈ x :: xs := p.symm.subset List.mem_cons_self
      have l1 : y ≤ x := by
        rcases List.mem_cons.mp h1 with h | h
        · omega
        · exact (List.pairwise_cons.mp hy).1 x h
      have l2 : x ≤ y := by
        rcases List.mem_cons.mp h2 with h | h
        · omega
        · exact (List.pairwise_cons.mp hx).1 y h
      omega
    subst e
    rw [sorted_uniq (List.perm_cons x |>.mp p) (List.pairwise_cons.mp hx).2 (List.pairwise_cons.mp hy).2]
theorem srt_eq {xs ns : List Int} (p : xs.Perm ns) (h : xs.Pairwise (· ≤ ·)) : xs = srt ns := sorted_uniq (p.trans (srt_perm ns).symm) h (srt_sorted ns)
/-- sorted(xs), xs a list or a tuple of whole numbers -/
def rSortedA (K : PySem.W.Frag) : List V → Hp → VK → Prop := fun vs H Q => ∃ (a : Addr) (ns : List Int), vs = [V.ref a] ∧ (SqL K H a (ns.map V.int) ∨ SqT K H a (ns.map V.int)) ∧ ∀ p : Addr, H p = none → Q (.ref p) (upd H p (.lst ((srt ns).map V.int)))
section
variable {X : Cx}
theorem cr_sortedA (K : PySem.W.Frag) (hK : X.K = K := by rfl) : CallR X (.builtin "sorted") (rSortedA K) := by
  subst hK
  intro pins s σ H vs us Q I r h
  obtain ⟨a, ns, rfl, hs | hs, q⟩ := h
  · exact cr_sortedI pins s σ H [.ref a] us Q I r ⟨a, ns, rfl, hs, fun ns' p h1 h2 hp => by rw [srt_eq h1 h2]; exact q p hp⟩
  · obtain ⟨its, rv, hl, hz⟩ := I.tuple hs
    rw [Vals.ref1 r]
    have hi := rv.ints
    refine SrtA.sorted_tup SrtO.swo_int hl (by rw [← rv.length]; exact hz) (fun h2 h₁ a' _ _ => SrtO.ints_sortable hi h2) fun out h1 h2 => ?_
    obtain ⟨k1, k2, k3⟩ := SrtO.ints_out hi h1 h2
    obtain ⟨ep, he'⟩ := PyProof.Rows.sortedAll_at s.heap its out.toArray
    have hlen : ((out.map SrtO.iv).map V.int).length ≤ sizeLine := by
      rw [List.length_map, k2.length_eq]
      rw [List.length_map] at hz
      exact hz
    have q2 := q (s.heap.objs.size + 1) (I.hok.fresh (Nat.le_succ _))
    rw [← srt_eq k2 k3] at q2
    exact ⟨.ref _, upd H (s.heap.objs.size + 1) (.lst ((out.map SrtO.iv).map V.int)), I.laid (t' := s.toks) (fun _ _ => PyProof.Rows.sortedAll_old) (Nat.le_succ _) ⟨hlen, out, ep, vals_of_ints k1, he'⟩, rfl, q2⟩
end
section
variable {X : Cx} {K : PySem.W.Frag}
theorem pg_tupK (K : PySem.W.Frag) {es : List Expr} {k : Nat} {t : TGs} {n : Nat} {pos : Pos} (hc : X.calm = true) (h : PGs X es t)
    (hn : (assignEach es X.env).length = n := by rfl) (hst : (assignEach es X.env).findIdx? (·.1) = none := by rfl) (hK : X.K = K := by rfl) : PG X (.Tuple es k pos) (gTup K n t) := hK ▸ pg_tup hc h hn hst
theorem inV_int (d : Int) (ns : List Int) : inV (.int d) (ns.map V.int) = decide (d ∈ ns) := by
  induction ns with
  | nil => rfl
  | cons n r ih =>
    show (eqV (.int n) (.int d) || inV (.int d) (r.map V.int)) = _
    rw [ih]
    have e : eqV (.int n) (.int d) = decide (d = n) := by
      show decide (n = d) = _
      exact decide_eq_decide.mpr ⟨fun h => h.symm, fun h => h.symm⟩
    rw [e]
    by_cases h : d = n
    · simp [h]
    · simp [h]
theorem flat_ints (ns : List Int) : (ns.map V.int).all flatV = true := by
  induction ns with
  | nil => rfl
  | cons n r ih => exact (Bool.and_eq_true_iff.mpr ⟨rfl, ih⟩)
end
theorem isM_nat (n : Nat) : isM (.int (n : Int)) = true := decide_eq_true (Int.natCast_nonneg n)
end L3
set_option Elab.async false
set_option linter.all false
set_option maxRecDepth 100000
set_option maxHeartbeats 4000000
namespace L3
open PySem PySem.Spec PyProof.Rows L2
end L3
set_option Elab.async false
set_option linter.all false
set_option maxRecDepth 100000
set_option maxHeartbeats 4000000
namespace L3
open PySem PySem.Spec PyProof.Rows L2
end L3
set_option Elab.async false
set_option linter.all false
set_option maxRecDepth 100000
set_option maxHeartbeats 4000000
namespace L3
open PySem PySem.Spec PyProof.Rows L2
theorem range_fm {α β : Type} (g : α → Option β) : ∀ l : List α, (List.range l.length).filterMap (fun i => l[i]?.bind g) = l.filterMap g
  | [] => rfl
  | x :: l => by
    rw [List.length_cons, List.range_succ_eq_map, List.filterMap_cons, List.filterMap_map, List.filterMap_cons]
    have ih := range_fm g l
    have e : ((fun i => (x :: l)[i]?.bind g) ∘ Nat.succ) = fun i => l[i]?.bind g := funext fun i => by simp
    rw [e, ih]
    simp
section
variable {J : It} {G : Hp → Prop} {g : TG} {tt : TT} {te : TE} {vs : List Nat} {σ : L2.St} {H1 : Hp} {D : Addr} {Qd : Hp → Prop}
/-- a comprehension over xs (told as values by v), each of which gives gm x, or nothing -/
theorem lc_on {α : Type} (xs : List α) (v : α → V) (w : L2.Walk J (xs.map v).length G (L2.YAt (xs.map v))) (gm : α → Option V) (I : Hp → Prop) (hI : ∀ H l, I H → I (upd H D (.lst l))) (i0 : I H1) (hn : xs.length ≤ 100000) (hG : ∀ H, I H → G H)
    (hs : ∀ (i : Nat) (x : α) (H : Hp) (acc : List V) (N : Hp → Prop), xs[i]? = some x → I H → H D = some (.lst acc) → acc.length < sizeLine →
      (∀ H4, I H4 → H4 D = some (.lst acc) → match gm x with | some y => N (upd H4 D (.lst (acc ++ [y]))) | none => N H4) → Turn g tt te vs σ D (v x) H N)
    (hd : ∀ H, I H → H D = some (.lst (xs.filterMap gm)) → Qd H) :
    ∃ W : Nat → Nat → Hp → Prop, (∃ m, W 0 m (upd H1 D (.lst []))) ∧ ∀ i m H, W i m H →
      (J.stop i H ∧ Qd H) ∨ (J.go i H ∧ ∃ Nx : Hp → Prop, (∀ H', Nx H' → ∃ m', m' < m ∧ W (i + 1) m' H') ∧ ∀ x H', J.yld i H x H' → Turn g tt te vs σ D x H' Nx) := by
  refine lc_fm w (fun i => xs[i]?.bind gm) I hI i0 (by rw [List.length_map]; exact hn) hG (fun i x H H' acc N hi p hD la y k => ?_) fun H p hD => hd H p ?_
  · obtain ⟨rfl, hx⟩ := y
    rw [List.getElem?_map] at hx
    obtain ⟨z, hz, rfl⟩ := Option.map_eq_some_iff.mp hx
    refine hs i z _ acc N hz p hD la fun H4 p4 d4 => ?_
    have := k H4 p4 d4
    simp only [hz, Option.bind_some] at this
    exact this
  · rw [hD, List.length_map, range_fm]
/-- a comprehension over a range -/
theorem lc_rg {lo : Int} {n : Nat} (gm : Nat → Option V) (I : Hp → Prop) (hI : ∀ H l, I H → I (upd H D (.lst l))) (i0 : I H1) (hn : n ≤ 100000)
    (hs : ∀ (i : Nat) (H : Hp) (acc : List V) (N : Hp → Prop), i < n → I H → H D = some (.lst acc) → acc.length < sizeLine →
      (∀ H4, I H4 → H4 D = some (.lst acc) → match gm i with | some y => N (upd H4 D (.lst (acc ++ [y]))) | none => N H4) → Turn g tt te vs σ D (.int (lo + i)) H N)
    (hd : ∀ H, I H → H D = some (.lst ((List.range n).filterMap gm)) → Qd H) :
    ∃ W : Nat → Nat → Hp → Prop, (∃ m, W 0 m (upd H1 D (.lst []))) ∧ ∀ i m H, W i m H →
      ((Itr lo n).stop i H ∧ Qd H) ∨ ((Itr lo n).go i H ∧ ∃ Nx : Hp → Prop, (∀ H', Nx H' → ∃ m', m' < m ∧ W (i + 1) m' H') ∧ ∀ x H', (Itr lo n).yld i H x H' → Turn g tt te vs σ D x H' Nx) := by
  refine lc_fm (L2.walk_range (lo := lo) (n := n)) gm I hI i0 hn (fun _ _ => trivial) (fun i x H H' acc N hi p hD la y k => ?_) hd
  obtain ⟨rfl, rfl⟩ := y
  exact hs i _ acc N hi p hD la k
end
section
variable {J : It} {G : Hp → Prop} {g : TG} {tb : TS} {D : Ends} {σ : L2.St} {H : Hp}
/-- a for over xs (told as values by v) -/
theorem for_on {α : Type} (xs : List α) (v : α → V) (w : L2.Walk J (xs.map v).length G (L2.YAt (xs.map v))) (Pv : Nat → L2.St → Hp → Prop) (h0 : Pv 0 σ H) (hG : ∀ i σ H, Pv i σ H → G H)
    (hs : ∀ (i : Nat) (x : α) (σ : L2.St) (H : Hp), xs[i]? = some x → Pv i σ H → g (v x) σ H fun σ2 H2 => tb { D with nx := Pv (i + 1), ct := Pv (i + 1), bk := D.nx } σ2 H2) (hd : ∀ σ H, Pv xs.length σ H → D.nx σ H) :
    ∃ W : Nat → Nat → L2.St → Hp → Prop, (∃ m, W 0 m σ H) ∧ ∀ i m σ H, W i m σ H →
      (J.stop i H ∧ D.nx σ H) ∨ (J.go i H ∧ ∃ N : L2.St → Hp → Prop, (∀ σ' H', N σ' H' → ∃ m', m' < m ∧ W (i + 1) m' σ' H') ∧ ∀ x H', J.yld i H x H' → g x σ H' fun σ2 H2 => tb { D with nx := N, ct := N, bk := D.nx } σ2 H2) := by
  refine L2.for_it w Pv h0 (fun i σ H _ p => hG i σ H p) (fun i x σ H H' hi p y => ?_) (fun σ H p => hd σ H (by rw [List.length_map] at p; exact p))
  obtain ⟨rfl, hx⟩ := y
  rw [List.getElem?_map] at hx
  obtain ⟨z, hz, rfl⟩ := Option.map_eq_some_iff.mp hx
  exact hs i z σ _ hz p
end
theorem take_snoc {α : Type} {l : List α} {i : Nat} {x : α} (h : l[i]? = some x) : l.take (i + 1) = l.take i ++ [x] := by
  rw [List.take_add_one, h]
  rfl
/-- what stands elsewhere than at f stays -/
def Oth (f : Addr) (H H' : Hp) : Prop := ∀ b o, b ≠ f → H b = some o → H' b = some o
theorem Oth.refl (f : Addr) (H : Hp) : Oth f H H := fun _ _ _ e => e
theorem Oth.trans {f : Addr} {H H1 H2 : Hp} (a : Oth f H H1) (b : Oth f H1 H2) : Oth f H H2 := fun c o h e => b c o h (a c o h e)
theorem Oth.upd {f : Addr} {H H1 : Hp} {o : HO} (a : Oth f H H1) : Oth f H (L2.upd H1 f o) := fun b u nb e => by rw [upd_ne nb]; exact a b u nb e
theorem Oth.ex {f : Addr} {H0 H H1 : Hp} (x : Ex H0 H) (n : H0 f = none) (a : Oth f H H1) : Ex H0 H1 := fun b o e => a b o (ne_of_none e n) (x b o e)
@[irreducible] def rReprX (K : PySem.W.Frag) : List V → Hp → VK → Prop := fun xs H Q => ∃ (x : V) (d : PyData), xs = [x] ∧ Dp K H x d ∧ d.hasDict = false ∧ d.showable = true ∧ d.depth ≤ 60 ∧ d.shown.length ≤ sizeLine ∧ Q (.str d.shown) H
theorem call_reprX {X : Cx} {k : Nat} (K : PySem.W.Frag) (hr : Rm k X.A) (hK : X.K = K := by rfl) : CallR X (.builtin "repr") (rReprX K) := by
  subst hK
  intro pins s σ H xs us Q I r h
  unfold rReprX at h
  obtain ⟨x, d, rfl, hd, hnd, hs, hdp, hsz, q⟩ := h
  have main : ∀ a, x = .ref a → wpAny (model X.prog X.w) X.A (call (.builtin "repr") us) (EP X pins σ Q) X.xe s := fun a ea => by
    subst ea
    refine call_repr hr pins s σ H [.ref a] us Q I r ?_
    unfold rRepr
    exact ⟨a, d, rfl, hd, hnd, hs, hdp, hsz, q⟩
  cases hd with
  | non =>
    obtain ⟨u, rfl, e⟩ := vals1 r
    obtain rfl : u = Value.none := e
    exact PySem.P.repr_of_none ⟨.str _, H, I.tok _, ⟨_, rfl⟩, q⟩
  | bl b =>
    obtain ⟨u, rfl, e⟩ := vals1 r
    obtain rfl : u = Value.bool b := e
    exact PySem.P.repr_of_bool ⟨.str _, H, I.tok _, ⟨_, rfl⟩, q⟩
  | int i =>
    obtain ⟨u, rfl, t, rfl⟩ := vals1 r
    exact PySem.P.repr_of_int (of_decide_eq_true hs) ⟨.str _, H, I.tok _, ⟨_, rfl⟩, q⟩
  | str z =>
    obtain ⟨u, rfl, t, rfl⟩ := vals1 r
    exact PySem.P.repr_of_str ⟨.str _, H, I.tok _, ⟨_, rfl⟩, q⟩ hsz
  | lst _ _ => exact main _ rfl
  | tup _ _ => exact main _ rfl
theorem rx_data {K : PySem.W.Frag} {H : Hp} {x : V} {d : PyData} {Q : VK} (h : Dp K H x d) (ho : okD d = true) (hz : szD d ≤ 16000000) (hd : d.depth ≤ 60) (q : Q (.str d.shown) H) : rReprX K [x] H Q := by
  obtain ⟨h1, h2, h3⟩ := okD_tells d ho
  unfold rReprX
  exact ⟨x, d, rfl, h, h1, h2, hd, Nat.le_trans h3 (Nat.le_trans hz (by rw [sizeLine_eq]; decide)), q⟩
theorem sz_le {n : Nat} (h : n ≤ 100000) : n ≤ sizeLine := Nat.le_of_lt (small_len h)
end L3
set_option Elab.async false
set_option linter.all false
set_option maxRecDepth 100000
set_option maxHeartbeats 4000000
namespace L3
open PySem PySem.Spec PyProof.Rows L2
theorem tyOf_mono {K : PySem.W.Frag} {H H' : Hp} {x : V} {t : Value} (e : Ex H H') (h : TyOf K H x t) : TyOf K H' x t := by
  cases h with
  | non => exact .non
  | bl x => exact .bl x
  | int i => exact .int i
  | str x => exact .str x
  | flt x => exact .flt x
  | lst h => exact .lst (e _ _ h)
  | frz h => exact .frz (e _ _ h)
  | tup h => exact .tup (e _ _ h)
  | dK h => exact .dK (e _ _ h)
  | dT h => exact .dT (e _ _ h)
  | ins h cl ha hn htk hm => exact .ins (e _ _ h) cl ha hn htk hm
theorem tyX_mono {K : PySem.W.Frag} {H H' : Hp} {x : V} {t : Value} (e : Ex H H') (h : TyX K H x t) : TyX K H' x t := by
  cases h with
  | base h => exact .base (tyOf_mono e h)
  | byt b => exact .byt b
  | set h => exact .set (e _ _ h)
  | kList h c => exact .kList h c
  | kTuple h c => exact .kTuple h c
  | kDict h c => exact .kDict h c
  | fTuple h => exact .fTuple (e _ _ h)
  | fDict h => exact .fDict (e _ _ h)
theorem Cl.mono {K : PySem.W.Frag} {H H' : Hp} {x : V} (c : Cl K H x) (e : Ex H H') : Cl K H' x := let ⟨t, b, d, h1, h2⟩ := c; ⟨t, b, d, tyX_mono e h1, h2⟩
section
variable {J : It} {n : Nat} {G : Hp → Prop} {g : TG} {tt : TT} {te : TE} {vs : List Nat} {σ : L2.St} {H1 : Hp} {D : Addr} {Qd : Hp → Prop}
/-- a comprehension over pairs of xs and ys -/
theorem lc_zip {α β : Type} (xs : List α) (ys : List β) (v : α → V) (w : β → V) (wk : L2.Walk J n G (L2.YPair (fun i => (xs.map v)[i]?) (fun i => (ys.map w)[i]?))) (hn : n = min xs.length ys.length) (gm : α → β → Option V) (I : Hp → Prop) (hI : ∀ H l, I H → I (upd H D (.lst l))) (i0 : I H1) (hz : xs.length ≤ 100000) (hG : ∀ H, I H → G H)
    (hs : ∀ (i : Nat) (a : α) (b : β) (u : Addr) (H : Hp) (acc : List V) (N : Hp → Prop), xs[i]? = some a → ys[i]? = some b → I H → H u = none → H D = some (.lst acc) → acc.length < sizeLine →
      (∀ H4, I H4 → H4 D = some (.lst acc) → match gm a b with | some y => N (upd H4 D (.lst (acc ++ [y]))) | none => N H4) → Turn g tt te vs σ D (.ref u) (upd H u (.tup [v a, w b])) N)
    (hd : ∀ H, I H → H D = some (.lst ((xs.zip ys).filterMap fun p => gm p.1 p.2)) → Qd H) :
    ∃ W : Nat → Nat → Hp → Prop, (∃ m, W 0 m (upd H1 D (.lst []))) ∧ ∀ i m H, W i m H →
      (J.stop i H ∧ Qd H) ∨ (J.go i H ∧ ∃ Nx : Hp → Prop, (∀ H', Nx H' → ∃ m', m' < m ∧ W (i + 1) m' H') ∧ ∀ x H', J.yld i H x H' → Turn g tt te vs σ D x H' Nx) := by
  refine lc_fm wk (fun i => (xs.zip ys)[i]?.bind fun p => gm p.1 p.2) I hI i0 (by omega) hG (fun i x H H' acc N hi p hD la y k => ?_) fun H p hD => hd H p ?_
  · obtain ⟨u, x1, x2, rfl, nu, rfl, g1, g2⟩ := y
    dsimp only at g1 g2
    rw [List.getElem?_map] at g1 g2
    obtain ⟨a, ha, rfl⟩ := Option.map_eq_some_iff.mp g1
    obtain ⟨b, hb, rfl⟩ := Option.map_eq_some_iff.mp g2
    refine hs i a b u H acc N ha hb p nu hD la fun H4 p4 d4 => ?_
    have := k H4 p4 d4
    have ez : (xs.zip ys)[i]? = some (a, b) := by
      rw [List.getElem?_zip_eq_some]
      exact ⟨ha, hb⟩
    simp only [ez, Option.bind_some] at this
    exact this
  · rw [hD, hn, ← List.length_zip, range_fm]
end
end L3
set_option Elab.async false
set_option linter.all false
set_option maxRecDepth 100000
set_option maxHeartbeats 4000000
namespace L3
open PySem PySem.Spec PyProof.Rows L2 PySem.SeqAt PySem.Calls
end L3
set_option Elab.async false
set_option linter.all false
set_option maxRecDepth 100000
set_option maxHeartbeats 4000000
namespace L3
open PySem PySem.Spec PyProof.Rows L2 PySem.SeqAt PySem.Calls
end L3
set_option Elab.async false
set_option linter.all false
set_option maxRecDepth 100000
set_option maxHeartbeats 4000000
namespace L3
open PySem PySem.Spec PyProof.Rows L2 PySem.SeqAt PySem.Calls
/-- a promise that is asked for nothing -/
theorem fc_no {P : Program} {w : World} {K : PySem.W.Frag} {mg : Str → Option Value} {base : Heap} {k : Nat} {f : Addr} {ks : List Str} {sp : Sp} (h : ∀ vs H Q E, ¬ sp vs H Q E) : Fc P w K mg base k f ks sp := fun _ _ _ _ _ _ _ _ _ _ _ _ _ z => absurd z (h _ _ _ _)
end L3
set_option Elab.async false
set_option linter.all false
set_option maxRecDepth 100000
set_option maxHeartbeats 4000000
namespace L3
open PySem PySem.Spec PyProof.Rows L2 PySem.SeqAt PySem.Calls
end L3
set_option Elab.async false
set_option linter.all false
set_option maxRecDepth 100000
set_option maxHeartbeats 4000000
namespace L3
open PySem PySem.Spec PyProof.Rows L2
theorem sz_big {n : Nat} (h : n ≤ 16000000) : n ≤ sizeLine := Nat.le_trans h (by rw [sizeLine_eq]; decide)
theorem sz_lt {n : Nat} (h : n ≤ 16000000) : n < sizeLine := Nat.lt_of_le_of_lt h (by rw [sizeLine_eq]; decide)
end L3
set_option Elab.async false
set_option linter.all false
set_option maxRecDepth 100000
set_option maxHeartbeats 4000000
namespace L3
open PySem PySem.Spec PyProof.Rows L2
structure FbN (P : Program) (w : World) (K : PySem.W.Frag) (mg : Str → Option Value) (base : Heap) (k : Nat) (f : Addr) (fd : FuncData) (ps : List Str) (sp : Sp) : Prop where
  len : ∀ vs H Q E, sp vs H Q E → vs.length = ps.length
  run : ∀ (A : Around) (outer : List Env) (s : Shared) (H : Hp) (args : Args) (us : List Value) (vs : List V) (Q : VK) (E : XK), Rm k A → Env0 P w K mg base A outer s H → BindsTo s fd args (ps.zip us) → Vals vs us → sp vs H Q E →
    codeAny (model P w) A (.call (.ref f) args) (CR (L2N.CX P w) outer P w H s Q E) s
section
variable {P : Program} {w : World} {K : PySem.W.Frag} {mg : Str → Option Value} {base : Heap} {x qual : Str} {params : Arguments} {body : List Stmt} {scope : Scope} {dvs : List V} {kws : List (Str × V)} {f : Addr} {fd : FuncData} {k : Nat} {ps N : List Str} {sp : Sp}
theorem FbN.mono {j : Nat} (F : FbN P w K mg base j f fd ps sp) (h : j ≤ k) : FbN P w K mg base k f fd ps sp := ⟨F.len, fun A outer s H args us vs Q E hr => F.run A outer s H args us vs Q E (hr.mono h)⟩
theorem FbN.imp {sp' : Sp} (F : FbN P w K mg base k f fd ps sp) (h : ∀ vs H Q E, sp' vs H Q E → sp vs H Q E) : FbN P w K mg base k f fd ps sp' :=
  ⟨fun vs H Q E q => F.len vs H Q E (h _ _ _ _ q), fun A outer s H args us vs Q E hr he hb hv hs => F.run A outer s H args us vs Q E hr he hb hv (h _ _ _ _ hs)⟩
def FcN (P : Program) (w : World) (K : PySem.W.Frag) (mg : Str → Option Value) (base : Heap) (k : Nat) (f : Addr) (ks : List Str) (sp : Sp) : Prop :=
  ∀ (A : Around) (outer : List Env) (s : Shared) (H : Hp) (us ws : List Value) (vs : List V) (Q : VK) (E : XK), Rm k A → Env0 P w K mg base A outer s H → Vals vs (us ++ ws) → ws.length = ks.length → sp vs H Q E →
    codeAny (model P w) A (.call (.ref f) ⟨us, ks.zip ws⟩) (CR (L2N.CX P w) outer P w H s Q E) s
theorem FcN.mono {j : Nat} {ks : List Str} (F : FcN P w K mg base j f ks sp) (h : j ≤ k) : FcN P w K mg base k f ks sp := fun A outer s H us ws vs Q E hr => F A outer s H us ws vs Q E (hr.mono h)
theorem FcN.imp {sp' : Sp} {ks : List Str} (F : FcN P w K mg base k f ks sp) (h : ∀ vs H Q E, sp' vs H Q E → sp vs H Q E) : FcN P w K mg base k f ks sp' :=
  fun A outer s H us ws vs Q E hr he hv hl hs => F A outer s H us ws vs Q E hr he hv hl (h _ _ _ _ hs)
/-- every parameter is given by place -/
theorem FbN.all (F : FbN P w K mg base k f fd ps sp) (hb : Binds K fd ps []) : FcN P w K mg base k f [] sp := fun A outer s H us ws vs Q E hr e0 r hl h => by
  cases ws with
  | cons w ws => cases hl
  | nil =>
    rw [List.append_nil] at r
    have KX : K.In s.heap := e0.mod.kin.keeps fun b o e => (e0.bs b o e).1
    have l2 : us.length = ps.length := by rw [← r.length]; exact F.len _ _ _ _ h
    have b := hb s us KX (by rw [List.append_nil]; exact l2)
    rw [List.append_nil] at b
    exact F.run A outer s H ⟨us, []⟩ us vs Q E hr e0 b r h
/-- all parameters given, some by name, no defaults -/
theorem FbN.names (D : FunD K x qual params body scope [] kws f fd) (F : FbN P w K mg base k f fd ps sp) (n : Nat) (ks : List Str) (g : {α : Type} → List α → List α)
    (hrel : ∀ {vs : List V} {us : List Value}, Vals vs us → Vals (g vs) (g us))
    (h : ∀ (kV doc pm : Value) (an : Option Addr) (cdv ct : Value) (us ws : List Value), us.length = n → ws.length = ks.length →
      bindArgs (PySem.W.fnOf x qual params body scope .none kV doc pm an cdv ct) ⟨us, ks.zip ws⟩ = pure (ps.zip (g (us ++ ws)))) :
    FcN P w K mg base k f ks (fun vs H Q E => vs.length = n + ks.length ∧ sp (g vs) H Q E) := by
  obtain ⟨oc, od, dV, kV, doc, pm, an, cdv, ct, osl, rfl, lk, hcd, hD, hK⟩ := D.ex
  rcases hD with ⟨_, rfl⟩ | ⟨e, _⟩
  · intro A outer s H us ws vs Q E hr e0 r hl hsp
    have l2 : us.length = n := by
      have e := r.length
      rw [hsp.1, List.length_append, hl] at e
      omega
    exact F.run A outer s H ⟨us, ks.zip ws⟩ (g (us ++ ws)) (g vs) Q E hr e0 (.of_eq (h kV doc pm an cdv ct us ws l2 hl)) (hrel r) hsp.2
  · exact absurd rfl e
end
end L3
namespace L3
open PySem PySem.Spec PyProof.Rows L2 L2H HotX
end L3
set_option Elab.async false
set_option linter.all false
set_option maxRecDepth 100000
set_option maxHeartbeats 4000000
namespace L3
open PySem PySem.Spec PyProof.Rows L2
def rNeE (K : PySem.W.Frag) : R2 := fun x y H Q => ∃ (a b : Addr) (xs : List V), x = .ref a ∧ y = .ref b ∧ SqL K H a xs ∧ SqL K H b [] ∧ Q (.bl (!xs.isEmpty)) H
def rEqE (K : PySem.W.Frag) : R2 := fun x y H Q => ∃ (a b : Addr) (xs : List V), x = .ref a ∧ y = .ref b ∧ SqL K H a xs ∧ SqL K H b [] ∧ Q (.bl xs.isEmpty) H
theorem op_neE {X : Cx} (hu : X.A.units + 64 < cLine) : OpR X (compareOp .NotEq) (rNeE X.K) := by
  intro pins s σ H x y v u Q I rx ry h
  obtain ⟨a, b, xs, rfl, rfl, ha, hb, q⟩ := h
  cases (show v = Value.ref a from rx)
  cases (show u = Value.ref b from ry)
  obtain ⟨us, r1, p1, _⟩ := I.list ha
  obtain ⟨ws, r2, p2, _⟩ := I.list hb
  cases r2
  cases r1 with
  | nil =>
    refine SeqAt.RcNeAt.lists (A := X.A) (e := fun _ => true) p1.isList p2.isList rfl (by omega) (fun j h1 h2 => absurd h1 (Nat.not_lt_zero _)) X.prog X.w _ _ ?_
    exact ⟨.bl false, H, I, rfl, q⟩
  | cons z r =>
    refine SeqAt.RcNeAt.lists_lengths (A := X.A) p1.isList p2.isList rfl (by omega) X.prog X.w _ _ ?_
    exact ⟨.bl true, H, I, rfl, q⟩
theorem op_eqE {X : Cx} (hu : X.A.units + 64 < cLine) : OpR X (compareOp .Eq) (rEqE X.K) := by
  intro pins s σ H x y v u Q I rx ry h
  obtain ⟨a, b, xs, rfl, rfl, ha, hb, q⟩ := h
  cases (show v = Value.ref a from rx)
  cases (show u = Value.ref b from ry)
  obtain ⟨us, r1, p1, _⟩ := I.list ha
  obtain ⟨ws, r2, p2, _⟩ := I.list hb
  cases r2
  cases r1 with
  | nil =>
    refine SeqAt.RcAt.lists (A := X.A) (e := fun _ => true) p1.isList p2.isList rfl (by omega) (fun j h1 h2 => absurd h1 (Nat.not_lt_zero _)) X.prog X.w _ _ ?_
    exact ⟨.bl true, H, I, rfl, q⟩
  | cons z r =>
    refine SeqAt.RcAt.lists_lengths (A := X.A) p1.isList p2.isList rfl (by omega) X.prog X.w _ _ ?_
    exact ⟨.bl false, H, I, rfl, q⟩
end L3
set_option Elab.async false
set_option linter.all false
set_option maxRecDepth 100000
set_option maxHeartbeats 4000000
namespace L3
open PySem PySem.Spec PyProof.Rows L2
def Stays (H H' : Hp) (x : V) : Prop := ∀ a o, x = .ref a → H a = some o → H' a = some o
theorem tyOf_at {K : PySem.W.Frag} {H H' : Hp} {x : V} {t : Value} (e : Stays H H' x) (h : TyOf K H x t) : TyOf K H' x t := by
  cases h with
  | non => exact .non
  | bl x => exact .bl x
  | int i => exact .int i
  | str x => exact .str x
  | flt x => exact .flt x
  | lst h => exact .lst (e _ _ rfl h)
  | frz h => exact .frz (e _ _ rfl h)
  | tup h => exact .tup (e _ _ rfl h)
  | dK h => exact .dK (e _ _ rfl h)
  | dT h => exact .dT (e _ _ rfl h)
  | ins h cl ha hn htk hm => exact .ins (e _ _ rfl h) cl ha hn htk hm
theorem tyX_at {K : PySem.W.Frag} {H H' : Hp} {x : V} {t : Value} (e : Stays H H' x) (h : TyX K H x t) : TyX K H' x t := by
  cases h with
  | base h => exact .base (tyOf_at e h)
  | byt b => exact .byt b
  | set h => exact .set (e _ _ rfl h)
  | kList h c => exact .kList h c
  | kTuple h c => exact .kTuple h c
  | kDict h c => exact .kDict h c
  | fTuple h => exact .fTuple (e _ _ rfl h)
  | fDict h => exact .fDict (e _ _ rfl h)
theorem Cl.at {K : PySem.W.Frag} {H H' : Hp} {x : V} (c : Cl K H x) (e : Stays H H' x) : Cl K H' x := let ⟨t, b, d, h1, h2⟩ := c; ⟨t, b, d, tyX_at e h1, h2⟩
end L3
set_option Elab.async false
set_option linter.all false
set_option maxRecDepth 100000
set_option maxHeartbeats 4000000
namespace L3
open PySem PySem.Spec PyProof.Rows L2
def obsA (as : List Addr) (xf : List Fx) (fn : List He.DefD) (g : Addr → Option Obj) : He.AlD := obsX xf fn (He.frG g as)
def hookA (as : List Addr) (xf : List Fx) (fn : List He.DefD) : PySem.W.Hook where
  α := He.AlD
  obs := fun s => obsA as xf fn s.heap.get?
  val := fun _ => He.valD fn
  says := fun _ h => ∃ K : PySem.W.Frag, K.In h ∧ SaysX xf fn K
  of := fun _ _ e => ⟨_, He.frG_in, e⟩
  keeps := fun _ _ _ ⟨K, hK, c⟩ k => ⟨K, PySem.W.Frag.In.keeps hK k, c⟩
theorem obsA_eq {as : List Addr} {xf : List Fx} {fn : List He.DefD} {g : Addr → Option Obj} {s : Shared} (h : ∀ a, g a = s.heap.get? a) : obsA as xf fn g = (hookA as xf fn).obs s := by
  have e : g = s.heap.get? := funext h
  rw [e] <;> rfl
end L3
noncomputable section
namespace HandSHeadRun
open PySem PySem.W PySem.Calls PyProof.Rows
abbrev endR (r : OpenRow) (M : Nat) (w : World) (os : OsState) : Option SharedT := endF (stepQ (denQ tabQ) r.prog w) M r.prog w os
/-- what the machine's own looks say behind the run -/
def RunA (r : OpenRow) (q : Program) (M : Nat) (loose : List PySem.Str) (w : World) : Prop :=
  ∀ os : OsState, (endR r M w os).map (fun s => (looksF r.prog (boot_heap w.params) s.abs, seenQ q loose (importedModules r.prog.main.body) (fun s => xlAt q [] s && recOk r.toRowW.records s) s.abs)) = some (true, openGood q loose)
/-- some facts of what stands behind the run -/
def RunB (r : OpenRow) (M : Nat) (fs : SharedT → Bool) (w : World) : Prop := ∀ os : OsState, (endR r M w os).map fs = some true
/-- the defs' own values -/
def RunC (r : OpenRow) (H : Hook) (ob : SharedT → H.α) (M : Nat) (w : World) : Prop := ∀ os : OsState, (endR r M w os).map ob = some (H.val w)
theorem runEq_of {r : OpenRow} {q : Program} {H : Hook} {ob : SharedT → H.α} {M : Nat} {loose : List PySem.Str} {w : World} (a : RunA r q M loose w) (c : RunC r H ob M w) : RunEq r q H ob M loose w := fun os => by
  have h1 := a os
  have h2 := c os
  show (endR r M w os).map _ = _
  cases e : endR r M w os with
  | none =>
    rw [e] at h1
    cases h1
  | some s =>
    rw [e] at h1 h2
    have g1 := Option.some.inj h1
    have g2 := Option.some.inj h2
    show some _ = some _
    rw [← g2]
    have e1 := congrArg Prod.fst g1
    have e2 := congrArg Prod.snd g1
    dsimp only at e1 e2 ⊢
    rw [e1, e2]
end HandSHeadRun
end
namespace L3
open PySem PySem.Spec PyProof.Rows L2 HandSHeadRun
/-- the facts in three parts: two of the Bools, one of the defs -/
theorem runC_of {r : PySem.W.OpenRow} {as : List Addr} {xf xf1 xf2 : List Fx} {fn : List He.DefD} {M : Nat} {w : World} (e : xf = xf1 ++ xf2)
    (a : RunB r M (fun s => xf1.all fun p => p (He.frG (getT s) as)) w) (b : RunB r M (fun s => xf2.all fun p => p (He.frG (getT s) as)) w)
    (c : ∀ os : OsState, (endR r M w os).map (fun s => (fn.all fun d => d.ok (He.frG (getT s) as), fn.map fun d => He.fnW (He.frG (getT s) as) d.at_)) = some (true, fn.map He.DefD.val)) :
    RunC r (hookA as xf fn) (fun s => obsA as xf fn (getT s)) M w := fun os => by
  have h1 := a os
  have h2 := b os
  have h3 := c os
  cases e2 : endR r M w os with
  | none =>
    rw [e2] at h1
    cases h1
  | some s =>
    rw [e2] at h1 h2 h3
    have g1 : (xf1.all fun p => p (He.frG (getT s) as)) = true := Option.some.inj h1
    have g2 : (xf2.all fun p => p (He.frG (getT s) as)) = true := Option.some.inj h2
    have g3 := Option.some.inj h3
    have e3 := congrArg Prod.fst g3
    have e4 := congrArg Prod.snd g3
    dsimp only at e3 e4
    show some (obsA as xf fn (getT s)) = some (He.valD fn)
    unfold obsA obsX He.valD
    rw [e, List.all_append, g1, g2, e3, e4]
    rfl
end L3
set_option Elab.async false
set_option linter.all false
set_option maxRecDepth 100000
set_option maxHeartbeats 4000000
namespace EnT
open PySem PySem.Spec PyProof.Rows L2 L3
open AutoSeq1 (wpAny_loadPart')
theorem meets_enumT (l : Addr) (items : Array Value) (n : Nat) (dct : Option Addr) (sl : Array (Option Value)) :
    Meets (Builtin.«enumerate.__new__» ⟨[.type "enumerate", .ref l], []⟩) (fun _ R s => s.heap.get? l = some { cls := .type "tuple", dict := dct, data := .seq items n, slots := sl } ∧
      R (.ok (.ret (.ref (s.heap.push { cls := .type "tuple_iterator", data := .fields #[.ref l, .int 0 0] }).objs.size)))
        { s with heap := (s.heap.push { cls := .type "tuple_iterator", data := .fields #[.ref l, .int 0 0] }).push { cls := .type "enumerate", data := .fields #[.none, .bool false, .ref s.heap.objs.size, rawInt 0, .none, .none] } }) :=
  .of_wp fun prog w A R s h => by
    obtain ⟨hp, g, d, tk, os⟩ := s; obtain ⟨hl, h⟩ := h
    have hsub := sub_enumerate
    have hL : Heap.IsTuple (Shared.heap ⟨hp, g, d, tk, os⟩) l items := ⟨_, hl, rfl, n, rfl⟩
    wp_walk using wpAny_loadPart' hl
    refine wpAny_stack_any fun st => wpAny_pure ?_
    split
    · rename_i c _ _ _ _ _
      cases (c == Value.type "enumerate")
      · wp_walk using wpAny_loadPart' hl, wpAny_pyIter_tuple hL
        exact ⟨_, rfl, h⟩
      · wp_walk using wpAny_loadPart' hl, wpAny_pyIter_tuple hL
        exact ⟨_, rfl, h⟩
    · wp_walk using wpAny_loadPart' hl, wpAny_pyIter_tuple hL
      exact ⟨_, rfl, h⟩
theorem call_enumT {prog : Program} {w : World} {A : Around} {E : Value → Shared → Prop} {s : Shared} {l : Addr} {items : Array Value} {Q : Value → Shared → Prop} (hL : s.heap.IsTuple l items)
    (h : ∀ h', IsEnum h' (s.heap.objs.size + 1) s.heap.objs.size 0 .none → h'.IsTupleIter s.heap.objs.size l 0 → h'.objs.size = s.heap.objs.size + 2 →
      (∀ b o, s.heap.get? b = some o → h'.get? b = some o) → Q (.ref (s.heap.objs.size + 1)) { s with heap := h' }) :
    wpAny (model prog w) A (call (.type "enumerate") [.ref l]) Q E s := by
  obtain ⟨⟨c, dct, dt, sl⟩, hl, hc, n, hd⟩ := hL
  replace hc : c = .type "tuple" := hc
  replace hd : dt = .seq items n := hd
  subst hc hd
  refine callType_new F.called_enumerate (by decide) (F.typeCall_enumerate_1 _) (F.newCall_enumerate_1 _) (fun obj => F.args_object_init_2 obj _) F.entry_enumerate_new
    (meets_enumT l items n dct sl) ⟨hl, ?_⟩
  have hz : (s.heap.push { cls := .type "tuple_iterator", data := .fields #[.ref l, .int 0 0] }).objs.size = s.heap.objs.size + 1 := Heap.size_push ..
  show _ ∧ _
  rw [hz]
  have he : IsEnum ((s.heap.push { cls := .type "tuple_iterator", data := .fields #[.ref l, .int 0 0] }).push
      { cls := .type "enumerate", data := .fields #[.none, .bool false, .ref s.heap.objs.size, rawInt 0, .none, .none] }) (s.heap.objs.size + 1) s.heap.objs.size 0 .none := by
    have := Heap.get?_push_size (s.heap.push { cls := .type "tuple_iterator", data := .fields #[.ref l, .int 0 0] })
      (o := { cls := .type "enumerate", data := .fields #[.none, .bool false, .ref s.heap.objs.size, rawInt 0, .none, .none] }) rfl
    rw [hz] at this; exact this
  refine ⟨⟨_, he, rfl⟩, h _ he ⟨_, Heap.get?_push_of_some _ (Heap.get?_push_size _ rfl), rfl, rfl⟩ (by rw [Heap.size_push, hz]) fun b o x => Heap.get?_push_of_some _ (Heap.get?_push_of_some _ x)⟩
end EnT
namespace L3
open PySem PySem.Spec PyProof.Rows L2
/-- the tuple at a at each turn, each item in a new pair -/
def IteT (K : PySem.W.Frag) (a : Addr) : It :=
  ⟨fun i H => ∃ (xs : List V) (x : V), SqT K H a xs ∧ xs[i]? = some x, fun i H v H' => ∃ T x, v = .ref T ∧ H T = none ∧ H' = upd H T (.tup [.int (i : Nat), x]) ∧ ∀ xs, SqT K H a xs → xs[i]? = some x, fun i H => ∃ xs : List V, SqT K H a xs ∧ xs.length = i⟩
theorem turn_enumT {P : Program} {w : World} {K : PySem.W.Frag} {elts : List Expr} {kk : Nat} {tpos : Pos} (a e it : Addr) :
    L2.Turn P w K (.Tuple elts kk tpos) (IteT K a) [e, it] e (fun i h => (∃ old, IsEnum h e it ((i : Nat) : Int) old) ∧ h.IsTupleIter it a i ∧ e ≠ it ∧ a ≠ it ∧ e ≠ a) where
  mem := by simp
  obj := fun i h st b hb => by
    obtain ⟨⟨old, he⟩, ⟨o, ho, hc, hd⟩, _⟩ := st
    have e' : b = e ∨ b = it := by simpa using hb
    rcases e' with z | z
    · rw [z]; exact ⟨_, he, fun v q => nomatch q⟩
    · rw [z]; exact ⟨o, ho, fun v q => by rw [hd] at q; cases q⟩
  keep := fun i h h' st k => let ⟨⟨old, he⟩, hi, hne⟩ := st; ⟨⟨old, k e (by simp) _ he⟩, hi.at fun o q => k it (by simp) o q, hne⟩
  item := by
    intro X hP hw hK hc i pins s σ H E I hf st hg
    subst hP hw hK
    obtain ⟨⟨old, he⟩, hit, hne, hai, hea⟩ := st
    obtain ⟨xs, x, hq, hx⟩ := hg
    obtain ⟨its, rv, p, hz⟩ := I.tuple hq
    obtain ⟨u, hu, ru⟩ := rv.get hx
    have hel : e < s.heap.objs.size := Heap.lt_size he
    have hil : it < s.heap.objs.size := by obtain ⟨_, q, _⟩ := hit; exact Heap.lt_size q
    have hlt : i < its.toArray.size := by
      obtain ⟨z, _⟩ := List.getElem?_eq_some_iff.mp hu
      simpa using z
    have cm := I.ok.hd hc
    refine wpAny_pyNext_enum_itemD (Draws.tuple (prog := X.prog) (w := X.w) (A := X.A.in1) cm it a hai its.toArray) he ⟨hit, p⟩ hlt hne (by simp [hne, hea]) fun y h' tk hy ho hst hT hsz hk => ?_
    obtain rfl : u = y := by
      have e1 : its.toArray[i]? = some u := by simpa using hu
      rw [e1] at hy
      exact Option.some.inj hy
    refine ⟨_, rfl, wpAny_letOwnedTupleGo_enum (s := { s with heap := h', toks := tk + 1 }) ho fun h'' he' sb => ?_⟩
    have hT2 : h''.get? s.heap.objs.size = some { cls := .type "tuple", data := .seq #[.int i tk, u] } := (sb.2 _ (Nat.ne_of_gt hel)).trans hT
    have new : ObjOk X.prog X.w (upd H s.heap.objs.size (.tup [.int (i : Nat), x])) h'' s.heap.objs.size (.tup [.int (i : Nat), x]) :=
      ⟨by show 2 ≤ sizeLine; decide, [.int i tk, u], .cons ⟨_, rfl⟩ (.cons ru .nil), ⟨_, hT2, rfl, _, rfl⟩⟩
    have I1 : Inv X pins σ (upd H s.heap.objs.size (.tup [.int (i : Nat), x])) { s with heap := h'', toks := tk + 1 } :=
      I.turnedNew (ch := [e, it]) (fun b ob hb q => (sb.2 b (fun z => hb (by simp [z]))).trans (hk b ob (fun z => hb (by simp [z])) (fun z => hb (by simp [z])) q)) hf (Nat.le_refl _) new
    refine ⟨.ref s.heap.objs.size, _, I1, rfl, ⟨_, x, rfl, I.hok.fresh (Nat.le_refl _), rfl, fun ys hy => by rw [I.tuple_inj hy hq]; exact hx⟩, ⟨⟨u, ?_⟩, hst.1.at fun o q => (sb.2 it (Ne.symm hne)).trans q, hne, hai, hea⟩, fun b hb => ?_⟩
    · have e1 : ((i + 1 : Nat) : Int) = (i : Int) + 1 := by omega
      rw [e1]; exact he'
    · have hb' : b < s.heap.objs.size := by
        have e' : b = e ∨ b = it := by simpa using hb
        rcases e' with z | z
        · rw [z]; exact hel
        · rw [z]; exact hil
      rw [upd_ne (Nat.ne_of_lt hb')]
      exact (hf b hb).1
  done := by
    intro X hP hw hK hc i pins s σ H E I hf st hg
    subst hP hw hK
    obtain ⟨⟨old, he⟩, hit, hne, hai, hea⟩ := st
    obtain ⟨xs, hq, hx⟩ := hg
    obtain ⟨its, rv, p, hz⟩ := I.tuple hq
    obtain ⟨f0, f1, f2, f3, f4, f5⟩ := hf it (by simp)
    have hl := rv.length
    have en : its.toArray.size = i := by simp; omega
    have cm := I.ok.hd hc
    refine wpAny_pyNext_enum_endD (Draws.tuple (prog := X.prog) (w := X.w) (A := X.A.in1) cm it a hai its.toArray) he (by rw [en]; exact ⟨hit, p⟩) fun h' eb => ⟨rfl, I.turned (t' := s.toks) (fun b o hb q => eb b o hb q) f0 f1 f3 f4 f5⟩
  self := fun A i s Q E st h => let ⟨⟨_, he⟩, _⟩ := st; wpAny_pyIter_enum he h
theorem walk_enumT {K : PySem.W.Frag} {a : Addr} {xs : List V} : L2.Walk (IteT K a) xs.length (fun H => SqT K H a xs) (L2.YPair (fun i => some (.int (i : Nat))) (fun i => xs[i]?)) := by
  refine ⟨fun i _ hi q => ⟨xs, xs[i], q, by simp [hi]⟩, fun _ q => ⟨xs, q, rfl⟩, fun i H v H' _ q y => ?_⟩
  obtain ⟨T, x, h1, h2, h3, h4⟩ := y
  exact ⟨T, _, x, h1, h2, h3, rfl, h4 xs q⟩
/-- x[i], x a list or a tuple -/
def rIxA (K : PySem.W.Frag) : R2 := fun x y H Q => ∃ p xs i v, x = .ref p ∧ y = .int i ∧ (SqL K H p xs ∨ SqT K H p xs) ∧ atI xs i = some v ∧ Q v H
theorem ix_seqA {X : Cx} (K : PySem.W.Frag) (h : X.K = K := by rfl) : IxR X (rIxA K) := by
  subst h
  intro value slice pins s σ H x y v u Q I rx ry h hs
  obtain ⟨p, xs, i, z, e1, e2, hq, he, q⟩ := h
  rcases hq with hq | hq
  · exact ix_list value slice pins s σ H x y v u Q I rx ry ⟨p, xs, i, z, e1, e2, hq, he, q⟩ hs
  · exact ix_tup value slice pins s σ H x y v u Q I rx ry ⟨p, xs, i, z, e1, e2, hq, he, q⟩ hs
end L3
namespace L3
open PySem PySem.Spec PyProof.Rows L2
/-- at a a list or a tuple of these -/
def SqS (K : PySem.W.Frag) (H : Hp) (a : Addr) (xs : List V) : Prop := SqL K H a xs ∨ SqT K H a xs
theorem SqS.at {K : PySem.W.Frag} {H H' : Hp} {a : Addr} {xs : List V} (h : SqS K H a xs) (e : Stays H H' (.ref a)) : SqS K H' a xs := by
  rcases h with ((h | ⟨o, h⟩) | h) | ((h | ⟨o, h⟩) | h)
  · exact .inl (.inl (.inl (e _ _ rfl h)))
  · exact .inl (.inl (.inr ⟨o, e _ _ rfl h⟩))
  · exact .inl (.inr h)
  · exact .inr (.inl (.inl (e _ _ rfl h)))
  · exact .inr (.inl (.inr ⟨o, e _ _ rfl h⟩))
  · exact .inr (.inr h)
theorem stays_ex {H H' : Hp} {x : V} (e : Ex H H') : Stays H H' x := fun a o _ h => e a o h
theorem SqS.mono {K : PySem.W.Frag} {H H' : Hp} {a : Addr} {xs : List V} (h : SqS K H a xs) (e : Ex H H') : SqS K H' a xs := h.at (stays_ex e)
theorem sqL_at {K : PySem.W.Frag} {H H' : Hp} {a : Addr} {xs : List V} (h : SqL K H a xs) (e : Stays H H' (.ref a)) : SqL K H' a xs := by
  rcases h with (h | ⟨o, h⟩) | h
  · exact .inl (.inl (e _ _ rfl h))
  · exact .inl (.inr ⟨o, e _ _ rfl h⟩)
  · exact .inr h
theorem sqT_at {K : PySem.W.Frag} {H H' : Hp} {a : Addr} {xs : List V} (h : SqT K H a xs) (e : Stays H H' (.ref a)) : SqT K H' a xs := by
  rcases h with (h | ⟨o, h⟩) | h
  · exact .inl (.inl (e _ _ rfl h))
  · exact .inl (.inr ⟨o, e _ _ rfl h⟩)
  · exact .inr h
/-- what is a list or a tuple, walked: J stands for either walk, G for what it asks of a heap -/
def iSeqB (K : PySem.W.Frag) (tl : TE) : TI := fun σ H R => tl σ H fun v H1 => ∃ a xs, v = .ref a ∧ SqS K H1 a xs ∧ ∀ J G, L2.Walk J xs.length G (L2.YAt xs) → (∀ H', Stays H1 H' (.ref a) → G H') → R J H1
theorem pi_seqB {X : Cx} {tg l : Expr} {tl : TE} (hl : PE X l tl) (K : PySem.W.Frag) (hK : X.K = K := by rfl) : PI X tg l (iSeqB K tl) := by
  subst hK
  refine ⟨fun pins s σ H R I h => ?_⟩
  refine thn (hl.run pins s σ H _ I h) fun v s1 ⟨x, H1, I1, r1, a, xs, e, hq, q⟩ => ?_
  subst e
  cases r1
  rcases hq with hq | hq
  · have q1 := q (Itl X.K a) (fun H => SqL X.K H a xs) L2.walk_list fun H' e => sqL_at hq e
    obtain ⟨its, rv, p, hz⟩ := I1.list hq
    refine wpAny_pyIter_list p.isList ?_
    refine ⟨s1.heap.objs.size, [s1.heap.objs.size], _, _, H1, rfl, I1.kept (t' := s1.toks) fun b o e => Heap.get?_push_of_some _ e, turn_list a _, ⟨_, Heap.get?_push_size _ rfl, rfl, rfl⟩, fun b hb => ?_, q1⟩
    have e : b = s1.heap.objs.size := by simpa using hb
    subst e
    exact I1.fpOk (Nat.le_refl _) (I1.hok.fresh (Nat.le_refl _))
  · have q1 := q (Itt X.K a) (fun H => SqT X.K H a xs) L2.walk_tup fun H' e => sqT_at hq e
    obtain ⟨its, rv, p, hz⟩ := I1.tuple hq
    refine wpAny_pyIter_tuple (show s1.heap.IsTuple a its.toArray from p) ?_
    refine ⟨s1.heap.objs.size, [s1.heap.objs.size], _, _, H1, rfl, I1.kept (t' := s1.toks) fun b o e => Heap.get?_push_of_some _ e, turn_tuple a _, ⟨_, Heap.get?_push_size _ rfl, rfl, rfl⟩, fun b hb => ?_, q1⟩
    have e : b = s1.heap.objs.size := by simpa using hb
    subst e
    exact I1.fpOk (Nat.le_refl _) (I1.hok.fresh (Nat.le_refl _))
/-- enumerate of a list or a tuple -/
def iEnumB (K : PySem.W.Frag) (ta : TA) : TI := fun σ H R => ta σ H fun vs H1 => ∃ a xs, vs = [.ref a] ∧ SqS K H1 a xs ∧ ∀ J G, L2.Walk J xs.length G (L2.YPair (fun i => some (.int (i : Nat))) (fun i => xs[i]?)) → (∀ H', Stays H1 H' (.ref a) → G H') → R J H1
theorem pi_enumB {X : Cx} {e : Expr} {ta : TA} {p pos tpos : Pos} {elts : List Expr} {kk : Nat} (K : PySem.W.Frag) (hg : Gl X "enumerate") (hm : X.mg "enumerate" = none) (ha : PA X [e] ta) (hs : starEach [e] X.env = [(false, eval e X.env)] := by rfl) (hK : X.K = K := by rfl) :
    PI X (.Tuple elts kk tpos) (.Call (.Name "enumerate" p) [e] [] pos) (iEnumB K ta) := by
  subst hK
  refine ⟨fun pins s σ H R I h => ?_⟩
  refine Call_ (ld_blt I hg hm boot_enumerate (PyProof.Rows.callWith_type1 (thn (ha.run pos pins s σ H _ I h) fun us s1 ⟨vs, H1, I1, r1, q1⟩ => ?_) hs rfl))
  obtain ⟨a, xs, ex, hq, q⟩ := q1
  subst ex
  cases r1 with
  | cons r rr =>
    cases rr
    cases r
    rcases hq with hq | hq
    · have q1 := q (Ite X.K a) (fun H => SqL X.K H a xs) L2.walk_enum fun H' e => sqL_at hq e
      obtain ⟨its, rv, p', hz⟩ := I1.list hq
      refine call_enumerate_list p'.isList fun h' he hit hsz hk => wpAny_pyIter_enum he ?_
      have I2 : Inv X pins σ H1 { s1 with heap := h' } := I1.kept (t' := s1.toks) hk
      refine ⟨s1.heap.objs.size + 1, [s1.heap.objs.size + 1, s1.heap.objs.size], _, _, H1, rfl, I2, turn_enum a (s1.heap.objs.size + 1) s1.heap.objs.size, ⟨⟨.none, he⟩, hit, Nat.succ_ne_self _⟩, fun b hb => ?_, q1⟩
      have e' : b = s1.heap.objs.size + 1 ∨ b = s1.heap.objs.size := by simpa using hb
      have hle : s1.heap.objs.size ≤ b := by
        rcases e' with z | z
        · rw [z]; exact Nat.le_add_right _ _
        · rw [z]; exact Nat.le_refl _
      exact I1.fpOk hle (I1.hok.fresh hle)
    · have q1 := q (IteT X.K a) (fun H => SqT X.K H a xs) walk_enumT fun H' e => sqT_at hq e
      obtain ⟨its, rv, p', hz⟩ := I1.tuple hq
      have al : a < s1.heap.objs.size := by
        obtain ⟨_, e2, _⟩ := p'
        exact Heap.lt_size e2
      refine EnT.call_enumT p' fun h' he hit hsz hk => wpAny_pyIter_enum he ?_
      have I2 : Inv X pins σ H1 { s1 with heap := h' } := I1.kept (t' := s1.toks) hk
      refine ⟨s1.heap.objs.size + 1, [s1.heap.objs.size + 1, s1.heap.objs.size], _, _, H1, rfl, I2, turn_enumT a (s1.heap.objs.size + 1) s1.heap.objs.size, ⟨⟨.none, he⟩, hit, Nat.succ_ne_self _, Nat.ne_of_lt al, Nat.ne_of_gt (Nat.lt_succ_of_lt al)⟩, fun b hb => ?_, q1⟩
      have e' : b = s1.heap.objs.size + 1 ∨ b = s1.heap.objs.size := by simpa using hb
      have hle : s1.heap.objs.size ≤ b := by
        rcases e' with z | z
        · rw [z]; exact Nat.le_add_right _ _
        · rw [z]; exact Nat.le_refl _
      exact I1.fpOk hle (I1.hok.fresh hle)
end L3
set_option Elab.async false
set_option linter.all false
set_option maxRecDepth 100000
set_option maxHeartbeats 4000000
namespace L3
open PySem PySem.Spec PyProof.Rows L2
variable {X : Cx}
theorem call_list_ofK (K : PySem.W.Frag) (h : X.K = K := by rfl) : CallR X (.type "list") (fun xs H Q => ∃ p ys, xs = [.ref p] ∧ (SqL K H p ys ∨ SqT K H p ys) ∧ ∀ l, H l = none → Q (.ref l) (upd H l (.lst ys))) := h ▸ call_list_of
theorem call_tuple_ofK (K : PySem.W.Frag) (h : X.K = K := by rfl) : CallR X (.type "tuple") (fun xs H Q => ∃ p ys, xs = [.ref p] ∧ ((SqL K H p ys ∧ ∀ l, H l = none → Q (.ref l) (upd H l (.tup ys))) ∨ (SqT K H p ys ∧ Q (.ref p) H))) := h ▸ call_tuple_of
end L3
set_option Elab.async false
set_option linter.all false
set_option maxRecDepth 100000
set_option maxHeartbeats 4000000
namespace Toy
open PySem PySem.Spec PyProof.Rows L2 L3
def top (i : Nat) : Stmt := PySem.Challenge.pw_shortgoings_k33_papers_judged.main.body.getD i (.Pass ⟨0, 0, 0, 0⟩)
abbrev s_is_minute : Stmt := top 4
abbrev s_in_rising_order : Stmt := top 5
abbrev s_is_over : Stmt := top 6
abbrev s_first_parts : Stmt := top 7
abbrev s_most_number : Stmt := top 8
abbrev s_has_shape : Stmt := top 9
abbrev s_is_paper : Stmt := top 10
abbrev s__law_pot : Stmt := top 12
abbrev s__law_draw : Stmt := top 13
abbrev s__law_gap : Stmt := top 14
abbrev s__law_means : Stmt := top 15
abbrev s__law_moved : Stmt := top 16
abbrev s__law_part : Stmt := top 17
abbrev s__law_parts : Stmt := top 18
abbrev s__law_tree : Stmt := top 19
abbrev s__law_list : Stmt := top 20
abbrev s__law_turned : Stmt := top 21
abbrev s__law_is_over : Stmt := top 22
abbrev s__law_most : Stmt := top 23
abbrev s__law_holds : Stmt := top 24
abbrev s__law_numbers : Stmt := top 25
abbrev s__law_base : Stmt := top 26
abbrev s__law_less : Stmt := top 27
abbrev s__law_spoilt : Stmt := top 28
abbrev s_law : Stmt := top 29
theorem sc_is_minute : FnScope ["thing"] ["thing"] (defScope s_is_minute) := ⟨rfl, rfl, rfl, by decide +kernel, rfl, by decide +kernel, by decide +kernel⟩
theorem sc_in_rising_order : FnScope ["moments", "row", "one", "other"] ["moments"] (defScope s_in_rising_order) := ⟨rfl, rfl, rfl, by decide +kernel, rfl, by decide +kernel, by decide +kernel⟩
theorem sc_is_over : FnScope ["row", "begin", "part", "size", "step", "at"] ["row", "begin", "part", "size"] (defScope s_is_over) := ⟨rfl, rfl, rfl, by decide +kernel, rfl, by decide +kernel, by decide +kernel⟩
theorem sc_first_parts : FnScope ["row", "begin", "size", "part"] ["row", "begin", "size"] (defScope s_first_parts) := ⟨rfl, rfl, rfl, by decide +kernel, rfl, by decide +kernel, by decide +kernel⟩
theorem sc_most_number : FnScope ["row", "paper", "begin", "size", "cuts", "overs", "cut", "part"] ["row", "paper", "begin", "size"] (defScope s_most_number) := ⟨rfl, rfl, rfl, by decide +kernel, rfl, by decide +kernel, by decide +kernel⟩
theorem sc_has_shape : FnScope ["paper", "many", "place", "numbers"] ["paper", "many"] (defScope s_has_shape) := ⟨rfl, rfl, rfl, by decide +kernel, rfl, by decide +kernel, by decide +kernel⟩
theorem sc_is_paper : FnScope ["moments", "paper", "row", "begin", "numbers", "place", "number"] ["moments", "paper"] (defScope s_is_paper) := ⟨rfl, rfl, rfl, by decide +kernel, rfl, by decide +kernel, by decide +kernel⟩
theorem sc__law_pot : FnScope ["_law_script", "_law_k", "_law_cell"] ["_law_script", "_law_k"] (defScope s__law_pot) := ⟨rfl, rfl, rfl, by decide +kernel, rfl, by decide +kernel, by decide +kernel⟩
theorem sc__law_draw : FnScope ["_law_pot_here", "_law_size", "_law_digit"] ["_law_pot_here", "_law_size"] (defScope s__law_draw) := ⟨rfl, rfl, rfl, by decide +kernel, rfl, by decide +kernel, by decide +kernel⟩
theorem sc__law_gap : FnScope ["_law_pot_here", "_law_way"] ["_law_pot_here"] (defScope s__law_gap) := ⟨rfl, rfl, rfl, by decide +kernel, rfl, by decide +kernel, by decide +kernel⟩
theorem sc__law_means : FnScope ["_law_parts_here", "_law_found", "_law_part_here", "_law_inner", "_law_k", "_law_moment"] ["_law_parts_here"] (defScope s__law_means) := ⟨rfl, rfl, rfl, by decide +kernel, rfl, by decide +kernel, by decide +kernel⟩
theorem sc__law_moved : FnScope ["_law_part_here", "_law_by", "_law_one"] ["_law_part_here", "_law_by"] (defScope s__law_moved) := ⟨rfl, rfl, rfl, by decide +kernel, rfl, by decide +kernel, by decide +kernel⟩
theorem sc__law_part : FnScope ["_law_pot_here", "_law_deep", "_law_room", "_law_way", "_law_many", "_law_inner"] ["_law_pot_here", "_law_deep", "_law_room"] (defScope s__law_part) := ⟨rfl, rfl, rfl, by decide +kernel, rfl, by decide +kernel, by decide +kernel⟩
theorem sc__law_parts : FnScope ["_law_pot_here", "_law_deep", "_law_room", "_law_found", "_law_begin", "_law_k", "_law_left"] ["_law_pot_here", "_law_deep", "_law_room"] (defScope s__law_parts) := ⟨rfl, rfl, rfl, by decide +kernel, rfl, by decide +kernel, by decide +kernel⟩
theorem sc__law_tree : FnScope ["_law_pot_here", "_law_size", "_law_begin", "_law_room", "_law_part_here"] ["_law_pot_here"] (defScope s__law_tree) := ⟨rfl, rfl, rfl, by decide +kernel, rfl, by decide +kernel, by decide +kernel⟩
theorem sc__law_list : FnScope ["_law_pot_here", "_law_found", "_law_way", "_law_k", "_law_near"] ["_law_pot_here"] (defScope s__law_list) := ⟨rfl, rfl, rfl, by decide +kernel, rfl, by decide +kernel, by decide +kernel⟩
theorem sc__law_turned : FnScope ["_law_pot_here", "_law_row", "_law_found", "_law_one"] ["_law_pot_here", "_law_row"] (defScope s__law_turned) := ⟨rfl, rfl, rfl, by decide +kernel, rfl, by decide +kernel, by decide +kernel⟩
theorem sc__law_is_over : FnScope ["_law_row", "_law_begin", "_law_part_here", "_law_size", "_law_step", "_law_at", "_law_later"] ["_law_row", "_law_begin", "_law_part_here", "_law_size"] (defScope s__law_is_over) := ⟨rfl, rfl, rfl, by decide +kernel, rfl, by decide +kernel, by decide +kernel⟩
theorem sc__law_most : FnScope ["_law_row", "_law_rows", "_law_begin", "_law_size", "_law_found", "_law_cut", "_law_one", "_law_rest"] ["_law_row", "_law_rows", "_law_begin", "_law_size"] (defScope s__law_most) := ⟨rfl, rfl, rfl, by decide +kernel, rfl, by decide +kernel, by decide +kernel⟩
theorem sc__law_holds : FnScope ["_law_row", "_law_rows", "_law_begin", "_law_numbers_here", "_law_at", "_law_number", "_law_most_here"] ["_law_row", "_law_rows"] (defScope s__law_holds) := ⟨rfl, rfl, rfl, by decide +kernel, rfl, by decide +kernel, by decide +kernel⟩
theorem sc__law_numbers : FnScope ["_law_row", "_law_rows", "_law_size", "_law_begin", "_law_one"] ["_law_row"] (defScope s__law_numbers) := ⟨rfl, rfl, rfl, by decide +kernel, rfl, by decide +kernel, by decide +kernel⟩
theorem sc__law_base : FnScope ["_law_pot_here", "_law_row", "_law_way", "_law_begin", "_law_size"] ["_law_pot_here", "_law_row"] (defScope s__law_base) := ⟨rfl, rfl, rfl, by decide +kernel, rfl, by decide +kernel, by decide +kernel⟩
theorem sc__law_less : FnScope ["_law_pot_here"] ["_law_pot_here"] (defScope s__law_less) := ⟨rfl, rfl, rfl, by decide +kernel, rfl, by decide +kernel, by decide +kernel⟩
theorem sc__law_spoilt : FnScope ["_law_pot_here", "_law_rows", "_law_way", "_law_found", "_law_at", "_law_place", "_law_numbers_here"] ["_law_pot_here", "_law_rows"] (defScope s__law_spoilt) := ⟨rfl, rfl, rfl, by decide +kernel, rfl, by decide +kernel, by decide +kernel⟩
theorem sc_law : FnScope ["_law_script", "_law_k", "_law_pot_here", "_law_way", "_law_row", "_law_given", "_law_due", "_law_order", "_law_kept", "_law_turn", "_law_numbers_here"] ["_law_script"] (defScope s_law) := ⟨rfl, rfl, rfl, by decide +kernel, rfl, by decide +kernel, by decide +kernel⟩
structure Env (K : PySem.W.Frag) (mg : Str → Option Value) : Prop where
  g_is_minute : mg "is_minute" = some (.ref (He.ga K "is_minute"))
  g_in_rising_order : mg "in_rising_order" = some (.ref (He.ga K "in_rising_order"))
  g_is_over : mg "is_over" = some (.ref (He.ga K "is_over"))
  g_first_parts : mg "first_parts" = some (.ref (He.ga K "first_parts"))
  g_most_number : mg "most_number" = some (.ref (He.ga K "most_number"))
  g_has_shape : mg "has_shape" = some (.ref (He.ga K "has_shape"))
  g_is_paper : mg "is_paper" = some (.ref (He.ga K "is_paper"))
  g__law_pot : mg "_law_pot" = some (.ref (He.ga K "_law_pot"))
  g__law_draw : mg "_law_draw" = some (.ref (He.ga K "_law_draw"))
  g__law_gap : mg "_law_gap" = some (.ref (He.ga K "_law_gap"))
  g__law_means : mg "_law_means" = some (.ref (He.ga K "_law_means"))
  g__law_moved : mg "_law_moved" = some (.ref (He.ga K "_law_moved"))
  g__law_part : mg "_law_part" = some (.ref (He.ga K "_law_part"))
  g__law_parts : mg "_law_parts" = some (.ref (He.ga K "_law_parts"))
  g__law_tree : mg "_law_tree" = some (.ref (He.ga K "_law_tree"))
  g__law_list : mg "_law_list" = some (.ref (He.ga K "_law_list"))
  g__law_turned : mg "_law_turned" = some (.ref (He.ga K "_law_turned"))
  g__law_is_over : mg "_law_is_over" = some (.ref (He.ga K "_law_is_over"))
  g__law_most : mg "_law_most" = some (.ref (He.ga K "_law_most"))
  g__law_holds : mg "_law_holds" = some (.ref (He.ga K "_law_holds"))
  g__law_numbers : mg "_law_numbers" = some (.ref (He.ga K "_law_numbers"))
  g__law_base : mg "_law_base" = some (.ref (He.ga K "_law_base"))
  g__law_less : mg "_law_less" = some (.ref (He.ga K "_law_less"))
  g__law_spoilt : mg "_law_spoilt" = some (.ref (He.ga K "_law_spoilt"))
  g_law : mg "law" = some (.ref (He.ga K "law"))
  n_all : mg "all" = none
  n_any : mg "any" = none
  n_bool : mg "bool" = none
  n_divmod : mg "divmod" = none
  n_enumerate : mg "enumerate" = none
  n_int : mg "int" = none
  n_isinstance : mg "isinstance" = none
  n_len : mg "len" = none
  n_list : mg "list" = none
  n_max : mg "max" = none
  n_min : mg "min" = none
  n_range : mg "range" = none
  n_repr : mg "repr" = none
  n_sorted : mg "sorted" = none
  n_tuple : mg "tuple" = none
  n_zip : mg "zip" = none
  g_GoingError : mg "GoingError" = some (.ref (He.ga K "GoingError"))
  x_GoingError : Exo K (He.ga K "GoingError") bmV "ValueError.__new__"
  g_NoPiece : mg "NoPiece" = some (.ref (He.ga K "NoPiece"))
  x_NoPiece : Exo K (He.ga K "NoPiece") bmV "ValueError.__new__"
  sys : SysK K
  f_is_minute : ∃ fd, FunD K "is_minute" "is_minute" (defArgs s_is_minute) (defBody s_is_minute) (defScope s_is_minute) [] [] (He.ga K "is_minute") fd
  f_in_rising_order : ∃ fd, FunD K "in_rising_order" "in_rising_order" (defArgs s_in_rising_order) (defBody s_in_rising_order) (defScope s_in_rising_order) [] [] (He.ga K "in_rising_order") fd
  f_is_over : ∃ fd, FunD K "is_over" "is_over" (defArgs s_is_over) (defBody s_is_over) (defScope s_is_over) [] [] (He.ga K "is_over") fd
  f_first_parts : ∃ fd, FunD K "first_parts" "first_parts" (defArgs s_first_parts) (defBody s_first_parts) (defScope s_first_parts) [] [] (He.ga K "first_parts") fd
  f_most_number : ∃ fd, FunD K "most_number" "most_number" (defArgs s_most_number) (defBody s_most_number) (defScope s_most_number) [] [] (He.ga K "most_number") fd
  f_has_shape : ∃ fd, FunD K "has_shape" "has_shape" (defArgs s_has_shape) (defBody s_has_shape) (defScope s_has_shape) [] [] (He.ga K "has_shape") fd
  f_is_paper : ∃ fd, FunD K "is_paper" "is_paper" (defArgs s_is_paper) (defBody s_is_paper) (defScope s_is_paper) [] [] (He.ga K "is_paper") fd
  f__law_pot : ∃ fd, FunD K "_law_pot" "_law_pot" (defArgs s__law_pot) (defBody s__law_pot) (defScope s__law_pot) [] [] (He.ga K "_law_pot") fd
  f__law_draw : ∃ fd, FunD K "_law_draw" "_law_draw" (defArgs s__law_draw) (defBody s__law_draw) (defScope s__law_draw) [] [] (He.ga K "_law_draw") fd
  f__law_gap : ∃ fd, FunD K "_law_gap" "_law_gap" (defArgs s__law_gap) (defBody s__law_gap) (defScope s__law_gap) [] [] (He.ga K "_law_gap") fd
  f__law_means : ∃ fd, FunD K "_law_means" "_law_means" (defArgs s__law_means) (defBody s__law_means) (defScope s__law_means) [] [] (He.ga K "_law_means") fd
  f__law_moved : ∃ fd, FunD K "_law_moved" "_law_moved" (defArgs s__law_moved) (defBody s__law_moved) (defScope s__law_moved) [] [] (He.ga K "_law_moved") fd
  f__law_part : ∃ fd, FunD K "_law_part" "_law_part" (defArgs s__law_part) (defBody s__law_part) (defScope s__law_part) [] [] (He.ga K "_law_part") fd
  f__law_parts : ∃ fd, FunD K "_law_parts" "_law_parts" (defArgs s__law_parts) (defBody s__law_parts) (defScope s__law_parts) [] [] (He.ga K "_law_parts") fd
  f__law_tree : ∃ fd, FunD K "_law_tree" "_law_tree" (defArgs s__law_tree) (defBody s__law_tree) (defScope s__law_tree) [] [] (He.ga K "_law_tree") fd
  f__law_list : ∃ fd, FunD K "_law_list" "_law_list" (defArgs s__law_list) (defBody s__law_list) (defScope s__law_list) [] [] (He.ga K "_law_list") fd
  f__law_turned : ∃ fd, FunD K "_law_turned" "_law_turned" (defArgs s__law_turned) (defBody s__law_turned) (defScope s__law_turned) [] [] (He.ga K "_law_turned") fd
  f__law_is_over : ∃ fd, FunD K "_law_is_over" "_law_is_over" (defArgs s__law_is_over) (defBody s__law_is_over) (defScope s__law_is_over) [] [] (He.ga K "_law_is_over") fd
  f__law_most : ∃ fd, FunD K "_law_most" "_law_most" (defArgs s__law_most) (defBody s__law_most) (defScope s__law_most) [] [] (He.ga K "_law_most") fd
  f__law_holds : ∃ fd, FunD K "_law_holds" "_law_holds" (defArgs s__law_holds) (defBody s__law_holds) (defScope s__law_holds) [] [] (He.ga K "_law_holds") fd
  f__law_numbers : ∃ fd, FunD K "_law_numbers" "_law_numbers" (defArgs s__law_numbers) (defBody s__law_numbers) (defScope s__law_numbers) [] [] (He.ga K "_law_numbers") fd
  f__law_base : ∃ fd, FunD K "_law_base" "_law_base" (defArgs s__law_base) (defBody s__law_base) (defScope s__law_base) [] [] (He.ga K "_law_base") fd
  f__law_less : ∃ fd, FunD K "_law_less" "_law_less" (defArgs s__law_less) (defBody s__law_less) (defScope s__law_less) [] [] (He.ga K "_law_less") fd
  f__law_spoilt : ∃ fd, FunD K "_law_spoilt" "_law_spoilt" (defArgs s__law_spoilt) (defBody s__law_spoilt) (defScope s__law_spoilt) [] [] (He.ga K "_law_spoilt") fd
  f_law : ∃ fd, FunD K "law" "law" (defArgs s_law) (defBody s_law) (defScope s_law) [] [] (He.ga K "law") fd
end Toy
namespace Toy
open PySem PySem.Spec PyProof.Rows L2 L3
theorem Env.k_is_minute {K : PySem.W.Frag} {mg : Str → Option Value} (T : Env K mg) : PySem.W.keepIn K (.ref (He.ga K "is_minute")) = true := let ⟨_, F⟩ := T.f_is_minute; F.kp
theorem Env.k_in_rising_order {K : PySem.W.Frag} {mg : Str → Option Value} (T : Env K mg) : PySem.W.keepIn K (.ref (He.ga K "in_rising_order")) = true := let ⟨_, F⟩ := T.f_in_rising_order; F.kp
theorem Env.k_is_over {K : PySem.W.Frag} {mg : Str → Option Value} (T : Env K mg) : PySem.W.keepIn K (.ref (He.ga K "is_over")) = true := let ⟨_, F⟩ := T.f_is_over; F.kp
theorem Env.k_first_parts {K : PySem.W.Frag} {mg : Str → Option Value} (T : Env K mg) : PySem.W.keepIn K (.ref (He.ga K "first_parts")) = true := let ⟨_, F⟩ := T.f_first_parts; F.kp
theorem Env.k_most_number {K : PySem.W.Frag} {mg : Str → Option Value} (T : Env K mg) : PySem.W.keepIn K (.ref (He.ga K "most_number")) = true := let ⟨_, F⟩ := T.f_most_number; F.kp
theorem Env.k_has_shape {K : PySem.W.Frag} {mg : Str → Option Value} (T : Env K mg) : PySem.W.keepIn K (.ref (He.ga K "has_shape")) = true := let ⟨_, F⟩ := T.f_has_shape; F.kp
theorem Env.k_is_paper {K : PySem.W.Frag} {mg : Str → Option Value} (T : Env K mg) : PySem.W.keepIn K (.ref (He.ga K "is_paper")) = true := let ⟨_, F⟩ := T.f_is_paper; F.kp
theorem Env.k__law_pot {K : PySem.W.Frag} {mg : Str → Option Value} (T : Env K mg) : PySem.W.keepIn K (.ref (He.ga K "_law_pot")) = true := let ⟨_, F⟩ := T.f__law_pot; F.kp
theorem Env.k__law_draw {K : PySem.W.Frag} {mg : Str → Option Value} (T : Env K mg) : PySem.W.keepIn K (.ref (He.ga K "_law_draw")) = true := let ⟨_, F⟩ := T.f__law_draw; F.kp
theorem Env.k__law_gap {K : PySem.W.Frag} {mg : Str → Option Value} (T : Env K mg) : PySem.W.keepIn K (.ref (He.ga K "_law_gap")) = true := let ⟨_, F⟩ := T.f__law_gap; F.kp
theorem Env.k__law_means {K : PySem.W.Frag} {mg : Str → Option Value} (T : Env K mg) : PySem.W.keepIn K (.ref (He.ga K "_law_means")) = true := let ⟨_, F⟩ := T.f__law_means; F.kp
theorem Env.k__law_moved {K : PySem.W.Frag} {mg : Str → Option Value} (T : Env K mg) : PySem.W.keepIn K (.ref (He.ga K "_law_moved")) = true := let ⟨_, F⟩ := T.f__law_moved; F.kp
theorem Env.k__law_part {K : PySem.W.Frag} {mg : Str → Option Value} (T : Env K mg) : PySem.W.keepIn K (.ref (He.ga K "_law_part")) = true := let ⟨_, F⟩ := T.f__law_part; F.kp
theorem Env.k__law_parts {K : PySem.W.Frag} {mg : Str → Option Value} (T : Env K mg) : PySem.W.keepIn K (.ref (He.ga K "_law_parts")) = true := let ⟨_, F⟩ := T.f__law_parts; F.kp
theorem Env.k__law_tree {K : PySem.W.Frag} {mg : Str → Option Value} (T : Env K mg) : PySem.W.keepIn K (.ref (He.ga K "_law_tree")) = true := let ⟨_, F⟩ := T.f__law_tree; F.kp
theorem Env.k__law_list {K : PySem.W.Frag} {mg : Str → Option Value} (T : Env K mg) : PySem.W.keepIn K (.ref (He.ga K "_law_list")) = true := let ⟨_, F⟩ := T.f__law_list; F.kp
theorem Env.k__law_turned {K : PySem.W.Frag} {mg : Str → Option Value} (T : Env K mg) : PySem.W.keepIn K (.ref (He.ga K "_law_turned")) = true := let ⟨_, F⟩ := T.f__law_turned; F.kp
theorem Env.k__law_is_over {K : PySem.W.Frag} {mg : Str → Option Value} (T : Env K mg) : PySem.W.keepIn K (.ref (He.ga K "_law_is_over")) = true := let ⟨_, F⟩ := T.f__law_is_over; F.kp
theorem Env.k__law_most {K : PySem.W.Frag} {mg : Str → Option Value} (T : Env K mg) : PySem.W.keepIn K (.ref (He.ga K "_law_most")) = true := let ⟨_, F⟩ := T.f__law_most; F.kp
theorem Env.k__law_holds {K : PySem.W.Frag} {mg : Str → Option Value} (T : Env K mg) : PySem.W.keepIn K (.ref (He.ga K "_law_holds")) = true := let ⟨_, F⟩ := T.f__law_holds; F.kp
theorem Env.k__law_numbers {K : PySem.W.Frag} {mg : Str → Option Value} (T : Env K mg) : PySem.W.keepIn K (.ref (He.ga K "_law_numbers")) = true := let ⟨_, F⟩ := T.f__law_numbers; F.kp
theorem Env.k__law_base {K : PySem.W.Frag} {mg : Str → Option Value} (T : Env K mg) : PySem.W.keepIn K (.ref (He.ga K "_law_base")) = true := let ⟨_, F⟩ := T.f__law_base; F.kp
theorem Env.k__law_less {K : PySem.W.Frag} {mg : Str → Option Value} (T : Env K mg) : PySem.W.keepIn K (.ref (He.ga K "_law_less")) = true := let ⟨_, F⟩ := T.f__law_less; F.kp
theorem Env.k__law_spoilt {K : PySem.W.Frag} {mg : Str → Option Value} (T : Env K mg) : PySem.W.keepIn K (.ref (He.ga K "_law_spoilt")) = true := let ⟨_, F⟩ := T.f__law_spoilt; F.kp
section
def sp_is_minute (K : PySem.W.Frag) : Sp := fun vs H Q _ => ∃ x, vs = [x] ∧ Cl K H x ∧ Q (.bl (isM x)) H
theorem fb_is_minute {P : Program} {w : World} {K : PySem.W.Frag} {mg : Str → Option Value} {base : Heap} (T : Env K mg) : ∃ fd, FunD K "is_minute" "is_minute" (defArgs s_is_minute) (defBody s_is_minute) (defScope s_is_minute) [] [] (He.ga K "is_minute") fd ∧ Fb P w K mg base 1 (He.ga K "is_minute") fd ["thing"] (sp_is_minute K) := by
  obtain ⟨fd, F⟩ := T.f_is_minute
  refine ⟨fd, F, fb_of F sc_is_minute (fun vs H Q E h => ?_) (fun cdv A outer s H vs Q E hr h => ?_)⟩
  · obtain ⟨x, rfl, _⟩ := h
    rfl
  · obtain ⟨x, rfl, ⟨t, b, c, ty, h1, h2, e⟩, q⟩ := h
    refine ⟨_, (pss_one (ps_ret (pe_and (pe_callB call_isi (by rfl) T.n_isinstance (by decide +kernel) (pa_cons (pv 0) (pa_cons (pe_bltn (v := .ty "int") (by rfl) T.n_int (by decide +kernel) rfl) pa_nil))) (pe_and (pe_not (pe_callB call_isi (by rfl) T.n_isinstance (by decide +kernel) (pa_cons (pv 0) (pa_cons (pe_bltn (v := .ty "bool") (by rfl) T.n_bool (by decide +kernel) rfl) pa_nil)))) (pe_one (pe_cmpR op_ge (pv 0) pe_int (nomark _))))))), ?_⟩
    refine ⟨x, rfl, x, .ty "int", t, _, b, rfl, .ty "int", ty, h1, b, rfl, ?_⟩
    cases b with
    | false => 
      rw [isM_f e] at q
      exact q
    | true =>
      refine ⟨x, rfl, x, .ty "bool", t, _, c, rfl, .ty "bool", ty, h2, c, rfl, ?_⟩
      cases c with
      | true =>
        rw [isM_f e] at q
        exact ⟨false, rfl, q⟩
      | false =>
        refine ⟨true, rfl, iteT ?_⟩
        cases x with
        | int i => exact ⟨_, rfl, i, 0, rfl, rfl, q⟩
        | _ => cases e
theorem ok_is_minute {P : Program} {w : World} {K : PySem.W.Frag} {mg : Str → Option Value} {base : Heap} (T : Env K mg) : Fc P w K mg base 1 (He.ga K "is_minute") [] (sp_is_minute K ) := by
  obtain ⟨fd, D, F⟩ := fb_is_minute T
  exact F.all (D.bindsN fun _ _ _ _ _ _ us hl => match us, hl with | [_], _ => rfl)
end
section
/-- whole numbers as values -/
def natV (ns : List Nat) : List V := ns.map fun n : Nat => V.int (n : Int)
/-- in order -/
def srtN (ns : List Nat) : List Nat := (srt (ns.map fun n : Nat => (n : Int))).map Int.toNat
theorem nat_int (ns : List Nat) : natV ns = (ns.map fun n : Nat => (n : Int)).map V.int := by
  unfold natV
  rw [List.map_map]
  rfl
theorem inV_nat (d : Nat) (ns : List Nat) : inV (.int (d : Int)) (natV ns) = decide (d ∈ ns) := by
  rw [nat_int, inV_int]
  apply decide_eq_decide.mpr
  constructor
  · intro h
    obtain ⟨n, hn, e⟩ := List.mem_map.mp h
    have : n = d := by omega
    exact this ▸ hn
  · intro h
    exact List.mem_map.mpr ⟨d, h, rfl⟩
theorem flat_nat (ns : List Nat) : (natV ns).all flatV = true := by
  rw [nat_int]
  exact flat_ints _
theorem mem_srtN (d : Nat) (ns : List Nat) : decide (d ∈ srtN ns) = decide (d ∈ ns) := by
  apply decide_eq_decide.mpr
  unfold srtN
  constructor
  · intro h
    obtain ⟨i, hi, e⟩ := List.mem_map.mp h
    obtain ⟨n, hn, e2⟩ := List.mem_map.mp ((srt_perm _).subset hi)
    have : n = d := by omega
    exact this ▸ hn
  · intro h
    exact List.mem_map.mpr ⟨(d : Int), (srt_perm _).symm.subset (List.mem_map.mpr ⟨d, h, rfl⟩), by simp⟩
theorem srtN_mem (d : Nat) (ns : List Nat) : d ∈ srtN ns ↔ d ∈ ns := decide_eq_decide.mp (mem_srtN d ns)
theorem natV_len (ns : List Nat) : (natV ns).length = ns.length := by
  unfold natV
  rw [List.length_map]
theorem srtN_len (ns : List Nat) : (srtN ns).length = ns.length := by
  unfold srtN
  rw [List.length_map, (srt_perm _).length_eq, List.length_map]
theorem natV_srt (ns : List Nat) : (srt (ns.map fun n : Nat => (n : Int))).map V.int = natV (srtN ns) := by
  unfold natV srtN
  rw [List.map_map]
  apply List.map_congr_left
  intro i hi
  obtain ⟨n, _, e⟩ := List.mem_map.mp ((srt_perm _).subset hi)
  show V.int i = V.int ((i.toNat : Nat) : Int)
  rw [Int.toNat_of_nonneg (by omega)]
theorem srtN_lt {ns : List Nat} (h : ns.Nodup) : (srtN ns).Pairwise (· < ·) := by
  have h1 : (srt (ns.map fun n : Nat => (n : Int))).Pairwise (· ≤ ·) := srt_sorted _
  have h2 : (srt (ns.map fun n : Nat => (n : Int))).Nodup := (srt_perm _).nodup_iff.mpr (List.Pairwise.map _ (fun a b (hab : a ≠ b) (z : (a : Int) = b) => hab (by omega)) h)
  unfold srtN
  refine List.pairwise_map.mpr ?_
  have h0 : ∀ i ∈ srt (ns.map fun n : Nat => (n : Int)), 0 ≤ i := fun i hi => by
    obtain ⟨n, _, e⟩ := List.mem_map.mp ((srt_perm _).subset hi)
    omega
  refine (List.Pairwise.and h1 h2).imp_of_mem fun {a b} ha hb z => ?_
  have := h0 a ha
  have := h0 b hb
  have := z.1
  have : a ≠ b := z.2
  omega
theorem cut1 (xs : List V) : cutV xs (some 1) none = xs.drop 1 := by
  unfold cutV
  rw [HT.sIx_none, show (some (1 : Int)) = some ((1 : Nat) : Int) from rfl, HT.sIx_nat]
  cases xs with
  | nil => rfl
  | cons x r =>
    rw [show min 1 (x :: r).length = 1 by simp]
    exact List.take_of_length_le (by simp)
theorem natV_erase : ∀ (ns : List Nat) (k : Nat), (natV ns).eraseIdx k = natV (ns.eraseIdx k)
  | [], _ => rfl
  | _ :: _, 0 => rfl
  | n :: r, k + 1 => congrArg (V.int (n : Int) :: ·) (natV_erase r k)
theorem natV_snoc (ns : List Nat) (n : Nat) : natV ns ++ [.int (n : Int)] = natV (ns ++ [n]) := by
  unfold natV
  rw [List.map_append]
  rfl
theorem natV_get {ns : List Nat} {k n : Nat} (h : ns[k]? = some n) : (natV ns)[k]? = some (.int (n : Int)) := by
  unfold natV
  rw [List.getElem?_map, h]
  rfl
theorem seqIx_nat {n k : Nat} (h : k < n) : seqIndex? (k : Int) n = some k := by
  have e : ixN n (k : Int) = some k := by
    unfold ixN
    rw [if_pos (by omega), if_pos (by omega)]
    simp
  exact (ixN_seq e).1
/-- a comprehension's truths -/
theorem fm_bl (n : Nat) (f : Nat → Bool) : (List.range n).filterMap (fun i => some (V.bl (f i))) = ((List.range n).map f).map V.bl := by
  rw [List.filterMap_eq_map', List.map_map]
  rfl
theorem all_id (n : Nat) (f : Nat → Bool) : ((List.range n).map f).all id = (List.range n).all f := by
  rw [List.all_map]
  rfl
theorem vint_dec (a b : Int) : decide (V.int a = V.int b) = decide (a = b) := decide_eq_decide.mpr ⟨fun h => by injection h, fun h => by rw [h]⟩
end
section
/-- the days of a list that is handed in, none where they are none -/
def dayNum : V → Nat
  | .int i => i.toNat
  | _ => 0
theorem natV_isM (ns : List Nat) : (natV ns).all isM = true := by
  rw [List.all_eq_true]
  intro x hx
  obtain ⟨n, _, rfl⟩ := List.mem_map.mp hx
  exact isM_nat n
theorem natV_num (ns : List Nat) : (natV ns).map dayNum = ns := by
  unfold natV
  rw [List.map_map]
  have : (dayNum ∘ fun n : Nat => V.int (n : Int)) = id := funext fun n => by simp [dayNum]
  rw [this, List.map_id]
theorem isM_natV : ∀ {xs : List V}, xs.all isM = true → xs = natV (xs.map dayNum)
  | [], _ => rfl
  | x :: xs, h => by
    obtain ⟨h1, h2⟩ := Bool.and_eq_true_iff.mp (show (isM x && xs.all isM) = true from h)
    obtain ⟨i, rfl, i0⟩ := isM_w h1
    obtain ⟨n, rfl⟩ := Int.eq_ofNat_of_zero_le i0
    have ih := isM_natV h2
    show V.int (n : Nat) :: xs = V.int (((Int.ofNat n).toNat : Nat) : Int) :: natV (xs.map dayNum)
    rw [← ih]
    rfl
/-- neighbours that are alike -/
def alikeN (l : List Nat) : List Bool := (l.zip (l.drop 1)).map fun p => decide (p.1 = p.2)
theorem alike_any {l : List Nat} (h : l.Pairwise (· ≤ ·)) : (alikeN l).any id = !decide l.Nodup := by
  induction l with
  | nil => rfl
  | cons a l ih =>
    obtain ⟨h1, h2⟩ := List.pairwise_cons.mp h
    have ih := ih h2
    cases l with
    | nil => rfl
    | cons b r =>
      have e : alikeN (a :: b :: r) = decide (a = b) :: alikeN (b :: r) := rfl
      rw [e, List.any_cons, ih]
      by_cases c : a = b
      · have nn : ¬ (a :: b :: r).Nodup := fun z => (List.pairwise_cons.mp z).1 b List.mem_cons_self c
        rw [decide_eq_false nn, decide_eq_true c]
        rfl
      · have iff : (a :: b :: r).Nodup ↔ (b :: r).Nodup := by
          refine ⟨fun z => (List.pairwise_cons.mp z).2, fun z => List.pairwise_cons.mpr ⟨fun x hx ex => ?_, z⟩⟩
          subst ex
          have hb := h1 b List.mem_cons_self
          rcases List.mem_cons.mp hx with hx | hx
          · exact c hx
          · have := (List.pairwise_cons.mp h2).1 a hx
            omega
        rw [decide_eq_false c, show decide (a :: b :: r).Nodup = decide (b :: r).Nodup from decide_eq_decide.mpr iff]
        rfl
theorem srtN_le (ns : List Nat) : (srtN ns).Pairwise (· ≤ ·) := by
  unfold srtN
  refine List.pairwise_map.mpr ((srt_sorted _).imp fun {a b} h => ?_)
  omega
theorem srtN_nodup (ns : List Nat) : decide (srtN ns).Nodup = decide ns.Nodup := by
  apply decide_eq_decide.mpr
  have p : (srtN ns).Perm ns := by
    unfold srtN
    have := (srt_perm (ns.map fun n : Nat => (n : Int))).map Int.toNat
    rw [List.map_map] at this
    have e : (Int.toNat ∘ fun n : Nat => (n : Int)) = id := funext fun n => by simp
    rw [e, List.map_id] at this
    exact this
  exact p.nodup_iff
end
section
def gN (ns : List Nat) (i : Nat) : Nat := ns.getD i 0
theorem natV_at {ns : List Nat} {i : Int} {k : Nat} (e : i = (k : Int)) (h : k < ns.length) : atI (natV ns) i = some (.int ((gN ns k : Nat) : Int)) := by
  subst e
  refine atI_nat (natV_get ?_)
  unfold gN
  rw [List.getD_eq_getElem?_getD, List.getElem?_eq_getElem h]
  rfl
/-- a stretch is its first part over and over -/
def isOv (ns : List Nat) (b p s : Nat) : Bool := (List.range (s - p)).all fun i => decide ((gN ns (b + i + p) : Int) - gN ns (b + i) = (gN ns (b + p) : Int) - gN ns b)
def firstB (ns : List Nat) (b s i : Nat) : Bool := decide (s % (i + 1) = 0) && isOv ns b (i + 1) s
def firstP (ns : List Nat) (b s : Nat) : List Nat := (List.range (s - 1)).filterMap fun i => if firstB ns b s i = true then some (i + 1) else none
def pg (pap : List (List Int)) (i j : Nat) : Int := (pap.getD i []).getD j 0
def cutsP (pap : List (List Int)) (b s : Nat) : List Int := (List.range (s - 1)).map fun i => pg pap b i + pg pap (b + i + 1) (s - i - 2)
def oversP (ns : List Nat) (pap : List (List Int)) (b s : Nat) : List Int := (firstP ns b s).map fun p => pg pap b (p - 1) + 1
def minI : List Int → Int
  | [] => 0
  | x :: r => if r = [] then x else min x (minI r)
theorem minI_mem : ∀ {l : List Int}, l ≠ [] → minI l ∈ l ∧ ∀ y ∈ l, minI l ≤ y
  | [], h => absurd rfl h
  | x :: r, _ => by
    unfold minI
    by_cases c : r = []
    · rw [if_pos c, c]
      exact ⟨List.mem_cons_self, fun y hy => by rw [List.mem_singleton.mp hy]; exact Int.le_refl _⟩
    · rw [if_neg c]
      obtain ⟨h1, h2⟩ := minI_mem c
      constructor
      · by_cases z : x ≤ minI r
        · rw [Int.min_eq_left z]
          exact List.mem_cons_self
        · rw [Int.min_eq_right (by omega)]
          exact List.mem_cons_of_mem _ h1
      · intro y hy
        rcases List.mem_cons.mp hy with rfl | hy
        · exact Int.min_le_left _ _
        · exact Int.le_trans (Int.min_le_right _ _) (h2 y hy)
theorem minI_eq {l : List Int} {m : Int} (h : m ∈ l) (h2 : ∀ y ∈ l, m ≤ y) : m = minI l := by
  have h0 : l ≠ [] := fun z => by rw [z] at h; cases h
  obtain ⟨g1, g2⟩ := minI_mem h0
  exact Int.le_antisymm (h2 _ g1) (g2 _ h)
/-- the least of the same numbers -/
theorem minI_same {l k : List Int} (h : ∀ x, x ∈ l ↔ x ∈ k) : minI l = minI k := by
  by_cases c : l = []
  · subst c
    cases k with
    | nil => rfl
    | cons x r => exact absurd ((h x).mpr List.mem_cons_self) (by simp)
  · obtain ⟨g1, g2⟩ := minI_mem c
    exact minI_eq ((h _).mp g1) fun y hy => g2 y ((h y).mpr hy)
def mostP (ns : List Nat) (pap : List (List Int)) (b s : Nat) : Int := if s = 1 then 1 else minI (cutsP pap b s ++ oversP ns pap b s)
/-- what the greatest number of a stretch is found by is there -/
def Fits (pap : List (List Int)) (b s : Nat) : Prop := ∀ i j, i + j < s → (i = 0 → j + 1 < s) → b + i < pap.length ∧ j < (pap.getD (b + i) []).length
/-- at a a paper -/
def PapAt (K : PySem.W.Frag) (H : Hp) (a : Addr) (pap : List (List Int)) : Prop := ∃ as : List Addr, SqS K H a (as.map V.ref) ∧ as.length = pap.length ∧ ∀ (i : Nat) (b : Addr) (r : List Int), as[i]? = some b → pap[i]? = some r → SqS K H b (r.map V.int)
theorem PapAt.mono {K : PySem.W.Frag} {H H' : Hp} {a : Addr} {pap : List (List Int)} (h : PapAt K H a pap) (e : Ex H H') : PapAt K H' a pap := by
  obtain ⟨as, h1, h2, h3⟩ := h
  exact ⟨as, h1.mono e, h2, fun i b r hi hr => (h3 i b r hi hr).mono e⟩
theorem PapAt.get {K : PySem.W.Frag} {H : Hp} {a : Addr} {pap : List (List Int)} (h : PapAt K H a pap) {x : Int} {i : Nat} (e : x = (i : Int)) (hi : i < pap.length) : ∃ (b : Addr) (xs : List V), SqS K H a xs ∧ atI xs x = some (.ref b) ∧ SqS K H b ((pap.getD i []).map V.int) := by
  obtain ⟨as, h1, h2, h3⟩ := h
  have ha : i < as.length := by omega
  have e1 := List.getElem?_eq_getElem ha
  have e2 := List.getElem?_eq_getElem hi
  refine ⟨as[i], _, h1, ?_, ?_⟩
  · rw [e]
    exact atI_nat (by rw [List.getElem?_map, e1]; rfl)
  · have e3 : pap.getD i [] = pap[i] := by rw [List.getD_eq_getElem?_getD, e2]; rfl
    rw [e3]
    exact h3 i _ _ e1 e2
theorem ints_at {r : List Int} {x : Int} {j : Nat} (e : x = (j : Int)) (h : j < r.length) : atI (r.map V.int) x = some (.int (r.getD j 0)) := by
  rw [e]
  refine atI_nat ?_
  rw [List.getElem?_map, List.getElem?_eq_getElem h, List.getD_eq_getElem?_getD, List.getElem?_eq_getElem h]
  rfl
/-- pap[i][j] -/
theorem pap_ix {K : PySem.W.Frag} {H : Hp} {a : Addr} {pap : List (List Int)} (h : PapAt K H a pap) {x : Int} {i : Nat} (e : x = (i : Int)) (hi : i < pap.length) {Q : VK} (q : ∀ b, SqS K H b ((pap.getD i []).map V.int) → Q (.ref b) H) : rIxA K (.ref a) (.int x) H Q := by
  obtain ⟨b, xs, h1, h2, h3⟩ := h.get e hi
  exact ⟨a, xs, x, _, rfl, rfl, h1, h2, q b h3⟩
theorem row_ix {K : PySem.W.Frag} {H : Hp} {b : Addr} {r : List Int} (h : SqS K H b (r.map V.int)) {x : Int} {j : Nat} (e : x = (j : Int)) (hj : j < r.length) {Q : VK} (q : Q (.int (r.getD j 0)) H) : rIxA K (.ref b) (.int x) H Q := ⟨b, _, x, _, rfl, rfl, h, ints_at e hj, q⟩
def shapeB (pap : List (List Int)) (n : Nat) : Bool := decide (pap.length = n) && (List.range pap.length).all fun i => decide (((pap.getD i []).length : Int) = (n : Int) - (i : Int))
theorem shape_fits {pap : List (List Int)} {n b s : Nat} (h : shapeB pap n = true) (hb : b + s ≤ n) : Fits pap b s := by
  unfold shapeB at h
  obtain ⟨h1, h2⟩ := Bool.and_eq_true_iff.mp h
  have l := of_decide_eq_true h1
  intro i j hij hi
  have hl : b + i < pap.length := by omega
  have z := of_decide_eq_true (List.all_eq_true.mp h2 (b + i) (List.mem_range.mpr hl))
  exact ⟨hl, by omega⟩
def rowB (ns : List Nat) (pap : List (List Int)) (b : Nat) : Bool := (List.range (ns.length - b)).all fun j => decide (pg pap b j ≤ mostP ns pap b (j + 1))
def paperB (ns : List Nat) (pap : List (List Int)) : Bool := shapeB pap ns.length && (List.range ns.length).all fun b => rowB ns pap b
end
section
/-- the moments of a list that is handed in, none where it is none -/
def momList (xs : List V) : Option (List Nat) := if (xs.all isM && decide (xs.map dayNum).Nodup) = true then some (xs.map dayNum) else none
/-- what is handed in for a list of moments, and what it tells -/
def MomG (K : PySem.W.Frag) (H : Hp) (x : V) (r : Option (List Nat)) : Prop := (∃ a xs, x = .ref a ∧ (H a = some (.lst xs) ∨ H a = some (.tup xs)) ∧ xs.length ≤ 10000 ∧ (∀ y ∈ xs, Cl K H y) ∧ r = momList xs) ∨ ((∃ t, TyX K H x t ∧ PySem.W.kitAny K t [.type "list", .type "tuple"] = some false) ∧ r = none)
theorem MomG.mono {K : PySem.W.Frag} {H H' : Hp} {x : V} {r : Option (List Nat)} (h : MomG K H x r) (e : Ex H H') : MomG K H' x r := by
  rcases h with ⟨a, xs, h1, h2, h3, h4, h5⟩ | ⟨⟨t, h2, h3⟩, h4⟩
  · exact .inl ⟨a, xs, h1, h2.imp (e _ _) (e _ _), h3, fun y hy => (h4 y hy).mono e, h5⟩
  · exact .inr ⟨⟨t, tyX_mono e h2, h3⟩, h4⟩
theorem momList_nat (ns : List Nat) : momList (natV ns) = if ns.Nodup then some ns else none := by
  unfold momList
  rw [natV_isM, natV_num, Bool.true_and]
  by_cases c : ns.Nodup
  · rw [if_pos (decide_eq_true c), if_pos c]
  · rw [if_neg (fun z => c (of_decide_eq_true z)), if_neg c]
theorem momG_nat {K : PySem.W.Frag} {H : Hp} {a : Addr} {ns : List Nat} (h : H a = some (.lst (natV ns)) ∨ H a = some (.tup (natV ns))) (hl : ns.length ≤ 10000) (hn : ns.Nodup) : MomG K H (.ref a) (some ns) := by
  refine .inl ⟨a, natV ns, rfl, h, by rw [natV_len]; exact hl, fun y hy => ?_, ?_⟩
  · obtain ⟨n, _, rfl⟩ := List.mem_map.mp hy
    exact cl_int _
  · rw [momList_nat, if_pos hn]
def sp_in_rising_order (K : PySem.W.Frag) : Sp := fun vs H Q E => ∃ x r, vs = [x] ∧ MomG K H x r ∧ (∀ ns, r = some ns → ∀ p H', Ex H H' → H p = none → H' p = some (.lst (natV (srtN ns))) → Q (.ref p) H') ∧ (r = none → ∀ H', Ex H H' → E (.ref (He.ga K "NoPiece")) none H')
theorem fb_in_rising_order {P : Program} {w : World} {K : PySem.W.Frag} {mg : Str → Option Value} {base : Heap} (T : Env K mg) : ∃ fd, FunD K "in_rising_order" "in_rising_order" (defArgs s_in_rising_order) (defBody s_in_rising_order) (defScope s_in_rising_order) [] [] (He.ga K "in_rising_order") fd ∧ Fb P w K mg base 2 (He.ga K "in_rising_order") fd ["moments"] (sp_in_rising_order K) := by
  obtain ⟨fd, F⟩ := T.f_in_rising_order
  refine ⟨fd, F, fb_of F sc_in_rising_order (fun vs H Q E h => ?_) (fun cdv A outer s H vs Q E hr h => ?_)⟩
  · obtain ⟨x, ns, rfl, _⟩ := h
    rfl
  · obtain ⟨x, r, rfl, hx, q, qe⟩ := h
    refine ⟨_, (pss_cons (ps_if (PW.pt (pw_or (pt_not (pt_val (pe_callB call_isiT (by rfl) T.n_isinstance (by decide +kernel) (pa_cons (pv 0) (pa_cons (pe_tup (pa_cons (pe_bltn (v := .ty "list") (by rfl) T.n_list (by decide +kernel) rfl) (pa_cons (pe_bltn (v := .ty "tuple") (by rfl) T.n_tuple (by decide +kernel) rfl) pa_nil))) pa_nil))))) (pw_or1 (pt_not (pt_val (pe_callB (cr_all rfl) (by rfl) T.n_all (by decide +kernel) (pa_cons (pe_lc (own := [("one", 2)]) (by rfl) sc_in_rising_order.nd (pi_seqB (pv 0) K) (blkOk_by (own := [("one", 2)]) (N := ["moments", "row", "one", "other"]) (sc := defScope s_in_rising_order) (by decide +kernel)) (fun _ _ _ _ _ => (pg_name (i := 2) sc_in_rising_order.nd rfl (Or.inl rfl))) (fun _ _ _ _ _ => pts_nil) (fun _ _ _ _ _ => (c_call (ok_is_minute T) (hr.mono (by decide)) T.g_is_minute T.k_is_minute takes0 (pa_cons (pv 2) pa_nil)))) pa_nil)))))))
      (pss_one (ps_raise rfl (takes_of rfl rfl rfl rfl) (pmk_own PySem.F.excBase_ValueError T.x_NoPiece.x T.g_NoPiece T.x_NoPiece.kp (raises_own T.x_NoPiece.sub T.x_NoPiece.ty) rfl)))
      pss_nil)
      (pss_cons (ps_set (i := 1) sc_in_rising_order.nd rfl (Or.inl rfl) (pe_callB (cr_sortedA K) (by rfl) T.n_sorted (by decide +kernel) (pa_cons (pv 0) pa_nil)))
      (pss_cons (ps_if (pt_val (pe_callB (cr_any rfl) (by rfl) T.n_any (by decide +kernel) (pa_cons (pe_lc (own := [("one", 2), ("other", 3)]) (by rfl) sc_in_rising_order.nd (RZ.pi_zipA (by rfl) T.n_zip (pa_cons (pv 1) (pa_cons (pe_slice sl_list (pv 1) (po_some pe_int) po_none) pa_nil))) (blkOk_by (own := [("one", 2), ("other", 3)]) (N := ["moments", "row", "one", "other"]) (sc := defScope s_in_rising_order) (by decide +kernel)) (fun _ _ _ _ _ => (pg_tupK K (n := 2) rfl (pgs_cons (pg_name (i := 2) sc_in_rising_order.nd rfl (Or.inl rfl)) (pgs_cons (pg_name (i := 3) sc_in_rising_order.nd rfl (Or.inl rfl)) pgs_nil)))) (fun _ _ _ _ _ => pts_nil) (fun _ _ _ _ _ => (pe_cmpR op_eq (pv 2) (pv 3) (nomark _)))) pa_nil)))
      (pss_one (ps_raise rfl (takes_of rfl rfl rfl rfl) (pmk_own PySem.F.excBase_ValueError T.x_NoPiece.x T.g_NoPiece T.x_NoPiece.kp (raises_own T.x_NoPiece.sub T.x_NoPiece.ty) rfl)))
      pss_nil)
      (pss_one (ps_ret (pv 1)))))), ?_⟩
    rcases hx with ⟨a, xs, rfl, hl, lx, hc, er⟩ | ⟨⟨t, ty, kt⟩, rfl⟩
    · refine ⟨_, rfl, (by decide), ?_⟩
      intro a1 na1
      have Xa1 := ex_new (o := HO.tup [V.ty "list", V.ty "tuple"]) na1
      have ha1 : upd H a1 (HO.tup [V.ty "list", V.ty "tuple"]) a1 = some (HO.tup [V.ty "list", V.ty "tuple"]) := upd_same
      generalize upd H a1 (HO.tup [V.ty "list", V.ty "tuple"]) = Ga1 at Xa1 ha1 ⊢
      have ty : ∃ t, TyX K Ga1 (.ref a) t ∧ PySem.W.kitAny K t [.type "list", .type "tuple"] = some true := by
        rcases hl with h | h
        · exact ⟨_, .base (.lst (Xa1 _ _ h)), kitAny_cons (b := true) (kit_ty (by decide +kernel)) (fun z => nomatch z) (fun _ => rfl)⟩
        · exact ⟨_, .base (.tup (Xa1 _ _ h)), kitAny_cons (b := false) (kit_ty (by decide +kernel)) (fun _ => kitAny_cons (b := true) (kit_ty (by decide +kernel)) (fun z => nomatch z) (fun _ => rfl)) (by decide)⟩
      obtain ⟨t, ty, kt⟩ := ty
      have sq : ∀ {H' : Hp}, Ex H H' → SqS K H' a xs := fun {H'} e => by
        rcases hl with h | h
        · exact .inl (sq_lst (e _ _ h))
        · exact .inr (sq_tup (e _ _ h))
      refine ⟨.ref a, a1, _, t, _, true, rfl, ha1, .cons (.ty "list") (.cons (.ty "tuple") .nil), ty, kt, true, rfl, iteF ?_⟩
      refine ⟨_, rfl, a, xs, rfl, sq Xa1, fun J G wk hG A nA => lc_fm wk (fun i => (xs[i]?).map fun x => V.bl (isM x)) (fun H' => Ex Ga1 H') (fun H' l e => ex_mut e nA) (.refl _) (by omega) (fun H' e => hG H' (stays_ex e)) (fun i x H1 H2 acc N hi e hD la y k => ?_) (fun H1 e hD => ?_)⟩
      · obtain ⟨rfl, y⟩ := y
        have cl := (hc x (List.mem_of_getElem? y)).mono (Xa1.trans e)
        have z := k _ e hD
        rw [y] at z
        exact ⟨rfl, _, rfl, x, rfl, cl, acc, hD, la, z⟩
      · have eD : (List.range xs.length).filterMap (fun i => (xs[i]?).map fun x => V.bl (isM x)) = (xs.map isM).map V.bl := by
          have := range_fm (fun x => some (V.bl (isM x))) xs
          simp only [Option.map_eq_bind]
          rw [List.map_map, ← List.filterMap_eq_map']
          exact this
        rw [eD] at hD
        have X1 := Xa1.trans e
        refine ⟨A, _, rfl, sq_lst hD, ?_⟩
        rw [show (xs.map isM).all id = xs.all isM by rw [List.all_map]; rfl]
        cases hm : xs.all isM with
        | false =>
          refine ⟨false, rfl, iteT (qe ?_ H1 X1)⟩
          rw [er]
          unfold momList
          rw [hm]
          rfl
        | true =>
          refine ⟨true, rfl, iteF ?_⟩
          have exs := isM_natV hm
          obtain ⟨ns, hns⟩ : ∃ ns, ns = xs.map dayNum := ⟨_, rfl⟩
          rw [← hns] at exs
          have er2 : r = if ns.Nodup then some ns else none := by rw [er, exs, momList_nat]
          have hl2 : ns.length ≤ 10000 := by rw [hns, List.length_map]; exact lx
          have sq1 := sq X1
          rw [exs, nat_int] at sq1
          refine ⟨_, rfl, a, _, rfl, sq1, fun p np => ?_⟩
          rw [natV_srt]
          have X2 := X1.trans (ex_new (o := .lst (natV (srtN ns))) np)
          have hp : upd H1 p (.lst (natV (srtN ns))) p = some (.lst (natV (srtN ns))) := upd_same
          generalize upd H1 p (.lst (natV (srtN ns))) = H2 at X2 hp ⊢
          have ls := srtN_len ns
          refine ⟨_, rfl, _, rfl, _, rfl, p, _, rfl, sq_lst hp, fun u nu => ?_⟩
          rw [cut1]
          have X3 := X2.trans (ex_new (o := .lst ((natV (srtN ns)).drop 1)) nu)
          have hu : upd H2 u (.lst ((natV (srtN ns)).drop 1)) u = some (.lst ((natV (srtN ns)).drop 1)) := upd_same
          have hp3 := ex_new (o := .lst ((natV (srtN ns)).drop 1)) nu _ _ hp
          generalize upd H2 u (.lst ((natV (srtN ns)).drop 1)) = H3 at X3 hu hp3 ⊢
          have ed : (natV (srtN ns)).drop 1 = natV ((srtN ns).drop 1) := by
            unfold natV
            rw [List.map_drop]
          rw [ed] at hu
          refine ⟨p, u, _, _, rfl, .inl ⟨sq_lst hp3, sq_lst hu, fun B nB => lc_zip (srtN ns) ((srtN ns).drop 1) (fun n : Nat => V.int n) (fun n : Nat => V.int n) (L2.walk_zip rfl) (by rw [List.length_map, List.length_map]) (fun a b => some (.bl (decide (a = b)))) (fun H' => Ex H3 H') (fun H' l e => ex_mut e nB) (.refl _) (by rw [ls]; omega) (fun H' e => ⟨sq_lst (e _ _ hp3), sq_lst (e _ _ hu)⟩) (fun i c d v H4 acc N hc2 hd2 X4 nv hD2 la2 k2 => ?_) (fun H4 X4 hD2 => ?_)⟩⟩
          · have X5 := X4.trans (ex_new (o := .tup [.int (c : Nat), .int (d : Nat)]) nv)
            have hv : upd H4 v (.tup [.int (c : Nat), .int (d : Nat)]) v = some (.tup [.int (c : Nat), .int (d : Nat)]) := upd_same
            have hB5 := ex_new (o := .tup [.int (c : Nat), .int (d : Nat)]) nv _ _ hD2
            have z := k2 _ X5 hB5
            refine ⟨v, _, rfl, sq_tup hv, rfl, _, _, rfl, _, _, rfl, rfl, rfl, _, rfl, _, rfl, rfl, acc, hB5, la2, ?_⟩
            rw [vint_dec]
            rw [show decide ((c : Int) = (d : Int)) = decide (c = d) from decide_eq_decide.mpr (by omega)]
            exact z
          · have eB : ((srtN ns).zip ((srtN ns).drop 1)).filterMap (fun p => some (V.bl (decide (p.1 = p.2)))) = (alikeN (srtN ns)).map V.bl := by
              unfold alikeN
              rw [List.filterMap_eq_map', List.map_map]
              rfl
            rw [eB] at hD2
            have X6 := X3.trans X4
            refine ⟨B, _, rfl, sq_lst hD2, ?_⟩
            rw [alike_any (srtN_le ns), srtN_nodup]
            by_cases nd : ns.Nodup
            · rw [decide_eq_true nd]
              rw [if_pos nd] at er2
              exact ⟨false, rfl, iteF ⟨_, rfl, q ns er2 p H4 X6 (ex_fresh X1 np) (X4 _ _ hp3)⟩⟩
            · rw [decide_eq_false nd]
              rw [if_neg nd] at er2
              exact ⟨true, rfl, iteT (qe er2 H4 X6)⟩
    · refine ⟨_, rfl, (by decide), ?_⟩
      intro a1 na1
      have Xa1 := ex_new (o := HO.tup [V.ty "list", V.ty "tuple"]) na1
      have ha1 : upd H a1 (HO.tup [V.ty "list", V.ty "tuple"]) a1 = some (HO.tup [V.ty "list", V.ty "tuple"]) := upd_same
      generalize upd H a1 (HO.tup [V.ty "list", V.ty "tuple"]) = Ga1 at Xa1 ha1 ⊢
      exact ⟨x, a1, _, t, _, false, rfl, ha1, .cons (.ty "list") (.cons (.ty "tuple") .nil), tyX_mono Xa1 ty, kt, false, rfl, iteT (iteT (qe rfl _ Xa1))⟩
theorem ok_in_rising_order {P : Program} {w : World} {K : PySem.W.Frag} {mg : Str → Option Value} {base : Heap} (T : Env K mg) : Fc P w K mg base 2 (He.ga K "in_rising_order") [] (sp_in_rising_order K ) := by
  obtain ⟨fd, D, F⟩ := fb_in_rising_order T
  exact F.all (D.bindsN fun _ _ _ _ _ _ us hl => match us, hl with | [_], _ => rfl)
end
section
def sp_is_over (K : PySem.W.Frag) : Sp := fun vs H Q _ => ∃ (r : Addr) (ns : List Nat) (b p s : Nat), vs = [.ref r, .int (b : Nat), .int (p : Nat), .int (s : Nat)] ∧ SqL K H r (natV ns) ∧ b + s ≤ ns.length ∧ 1 ≤ p ∧ p < s ∧ ns.length ≤ 1000 ∧ ∀ H', Ex H H' → Q (.bl (isOv ns b p s)) H'
theorem fb_is_over {P : Program} {w : World} {K : PySem.W.Frag} {mg : Str → Option Value} {base : Heap} (T : Env K mg) : ∃ fd, FunD K "is_over" "is_over" (defArgs s_is_over) (defBody s_is_over) (defScope s_is_over) [] [] (He.ga K "is_over") fd ∧ Fb P w K mg base 1 (He.ga K "is_over") fd ["row", "begin", "part", "size"] (sp_is_over K) := by
  obtain ⟨fd, F⟩ := T.f_is_over
  refine ⟨fd, F, fb_of F sc_is_over (fun vs H Q E h => ?_) (fun cdv A outer s H vs Q E hr h => ?_)⟩
  · obtain ⟨r, ns, b, p, s, rfl, _⟩ := h
    rfl
  · obtain ⟨r, ns, b, p, s_, rfl, hw, hbs, p1, ps, hl, q⟩ := h
    refine ⟨_, (pss_cons (ps_set (i := 4) sc_is_over.nd rfl (Or.inr rfl) (pe_op op_sub (pe_ix ix_list (pv 0) (pe_op op_add (pv 1) (pv 2)) (fun _ _ => rfl)) (pe_ix ix_list (pv 0) (pv 1) (fun _ _ => rfl))))
      (pss_one (ps_ret (pe_callB (cr_all rfl) (by rfl) T.n_all (by decide +kernel) (pa_cons (pe_lc (own := [("at", 5)]) (by rfl) sc_is_over.nd (pi_range2 (by rfl) T.n_range (pa_cons (pv 1) (pa_cons (pe_op op_sub (pe_op op_add (pv 1) (pv 3)) (pv 2)) pa_nil))) (blkOk_by (own := [("at", 5)]) (N := ["row", "begin", "part", "size", "step", "at"]) (sc := defScope s_is_over) (by decide +kernel)) (fun _ _ _ _ _ => (pg_name (i := 5) sc_is_over.nd rfl (Or.inl rfl))) (fun _ _ _ _ _ => pts_nil) (fun _ _ _ _ _ => (pe_cmpR op_eq (pe_op op_sub (pe_ix (ix_listK K) (pv 0) (pe_op op_add (pv 5) (pv 2)) (fun _ _ => rfl)) (pe_ix (ix_listK K) (pv 0) (pv 5) (fun _ _ => rfl))) (pv 4) (nomark _)))) pa_nil))))), ?_⟩
    have i1 := natV_at (ns := ns) (i := (b : Int) + (p : Int)) (k := b + p) (by omega) (by omega)
    have i2 := natV_at (ns := ns) (i := (b : Int)) (k := b) rfl (by omega)
    refine ⟨_, rfl, _, rfl, _, rfl, _, _, rfl, rfl, _, _, _, _, rfl, rfl, hw, i1, _, rfl, _, rfl, _, _, _, _, rfl, rfl, hw, i2, _, _, rfl, rfl, _, rfl, _, rfl, _, rfl, _, _, rfl, rfl, _, rfl, _, _, rfl, rfl, _, _, rfl, ⟨(by omega), ⟨(by omega), ⟨(by omega), (by omega)⟩⟩⟩, ?_⟩
    have en : ((b : Int) + (s_ : Int) - (p : Int) - (b : Int)).toNat = s_ - p := by omega
    rw [en]
    intro A nA
    refine lc_rg (fun i => some (.bl (decide ((gN ns (b + i + p) : Int) - gN ns (b + i) = (gN ns (b + p) : Int) - gN ns b)))) (fun H' => Ex H H') (fun H' l e => ex_mut e nA) (.refl _) (by omega) (fun i H' acc N hi e hD la k => ?_) (fun H' e hD => ?_)
    · have i3 := natV_at (ns := ns) (i := (b : Int) + (i : Int) + (p : Int)) (k := b + i + p) (by omega) (by omega)
      have i4 := natV_at (ns := ns) (i := (b : Int) + (i : Int)) (k := b + i) (by omega) (by omega)
      have hw' := ex_sql e hw
      refine ⟨rfl, ?_⟩
      refine ⟨_, rfl, _, rfl, _, rfl, _, _, rfl, rfl, _, _, _, _, rfl, rfl, hw', i3, _, rfl, _, rfl, _, _, _, _, rfl, rfl, hw', i4, _, _, rfl, rfl, _, rfl, rfl, _, hD, la, ?_⟩
      try dsimp only [tNil]
      rw [vint_dec]
      exact k H' e hD
    · rw [fm_bl] at hD
      refine ⟨A, _, rfl, sq_lst hD, ?_⟩
      rw [all_id]
      exact q H' e
theorem ok_is_over {P : Program} {w : World} {K : PySem.W.Frag} {mg : Str → Option Value} {base : Heap} (T : Env K mg) : Fc P w K mg base 1 (He.ga K "is_over") [] (sp_is_over K ) := by
  obtain ⟨fd, D, F⟩ := fb_is_over T
  exact F.all (D.bindsN fun _ _ _ _ _ _ us hl => match us, hl with | [_, _, _, _], _ => rfl)
end
section
def sp_first_parts (K : PySem.W.Frag) : Sp := fun vs H Q _ => ∃ (r : Addr) (ns : List Nat) (b s : Nat), vs = [.ref r, .int (b : Nat), .int (s : Nat)] ∧ SqL K H r (natV ns) ∧ b + s ≤ ns.length ∧ ns.length ≤ 1000 ∧ ∀ a H', Ex H H' → H a = none → H' a = some (.lst (natV (firstP ns b s))) → Q (.ref a) H'
theorem fb_first_parts {P : Program} {w : World} {K : PySem.W.Frag} {mg : Str → Option Value} {base : Heap} (T : Env K mg) : ∃ fd, FunD K "first_parts" "first_parts" (defArgs s_first_parts) (defBody s_first_parts) (defScope s_first_parts) [] [] (He.ga K "first_parts") fd ∧ Fb P w K mg base 2 (He.ga K "first_parts") fd ["row", "begin", "size"] (sp_first_parts K) := by
  obtain ⟨fd, F⟩ := T.f_first_parts
  refine ⟨fd, F, fb_of F sc_first_parts (fun vs H Q E h => ?_) (fun cdv A outer s H vs Q E hr h => ?_)⟩
  · obtain ⟨r, ns, b, s, rfl, _⟩ := h
    rfl
  · obtain ⟨r, ns, b, s_, rfl, hw, hbs, hl, q⟩ := h
    refine ⟨_, (pss_one (ps_ret (pe_lc (own := [("part", 3)]) (by rfl) sc_first_parts.nd (pi_range2 (by rfl) T.n_range (pa_cons pe_int (pa_cons (pv 2) pa_nil))) (blkOk_by (own := [("part", 3)]) (N := ["row", "begin", "size", "part"]) (sc := defScope s_first_parts) (by decide +kernel)) (fun _ _ _ _ _ => (pg_name (i := 3) sc_first_parts.nd rfl (Or.inl rfl))) (fun _ _ _ _ _ => (pts_one (PW.pt (pw_and (pt_cmpR op_eq (pe_op op_mod (pv 2) (pv 3)) pe_int (nomark _)) (pw_and1 (pt_val (c_call (ok_is_over T) (hr.mono (by decide)) T.g_is_over T.k_is_over takes0 (pa_cons (pv 0) (pa_cons (pv 1) (pa_cons (pv 3) (pa_cons (pv 2) pa_nil))))))))))) (fun _ _ _ _ _ => (pv 3))))), ?_⟩
    refine ⟨_, rfl, _, _, rfl, ⟨(by decide), ⟨(by decide), ⟨(by omega), (by omega)⟩⟩⟩, ?_⟩
    intro A nA
    have en : ((s_ : Int) - 1).toNat = s_ - 1 := by omega
    rw [en]
    refine lc_rg (fun i => if firstB ns b s_ i = true then some (.int ((i + 1 : Nat) : Int)) else none) (fun H' => Ex H H') (fun H' l e => ex_mut e nA) (.refl _) (by omega) (fun i H' acc N hi e hD la k => ?_) (fun H' e hD => ?_)
    · have hw' := ex_sql e hw
      have hp1 : 1 ≤ i + 1 := by omega
      have hp2 : i + 1 < s_ := by omega
      have ei : (1 : Int) + (i : Int) = ((i + 1 : Nat) : Int) := by omega
      rw [ei]
      have hz : (0 : Int) < ((i + 1 : Nat) : Int) := by omega
      refine ⟨rfl, ?_⟩
      refine ⟨_, rfl, _, rfl, _, _, rfl, rfl, hz, rfl, _, rfl, ?_⟩
      try dsimp only [tNil]
      have em : ((s_ : Nat) : Int) % ((i + 1 : Nat) : Int) = ((s_ % (i + 1) : Nat) : Int) := (Int.natCast_emod s_ (i + 1)).symm
      rw [vint_dec, em]
      refine ite2 (fun c => ?_) (fun c => ?_)
      · have c2 : s_ % (i + 1) = 0 := by
          have := of_decide_eq_true c
          omega
        have fb : firstB ns b s_ i = isOv ns b (i + 1) s_ := by
          unfold firstB
          rw [decide_eq_true c2, Bool.true_and]
        rw [fb] at k
        refine ⟨_, rfl, _, rfl, _, rfl, _, rfl, _, _, _, _, _, rfl, hw', hbs, hp1, hp2, hl, ?_⟩
        intro H4 X4
        have z := k H4 (e.trans X4) (X4 _ _ hD)
        cases hv : isOv ns b (i + 1) s_ with
        | true =>
          rw [hv, if_pos rfl] at z
          exact ⟨true, rfl, iteT ⟨_, rfl, acc, X4 _ _ hD, la, z⟩⟩
        | false =>
          rw [hv, if_neg (by simp)] at z
          exact ⟨false, rfl, iteF z⟩
      · have fb : firstB ns b s_ i = false := by
          unfold firstB
          rw [decide_eq_false (fun z => c (decide_eq_true (by omega))), Bool.false_and]
        have z := k H' e hD
        rw [fb, if_neg (by simp)] at z
        exact iteF z
    · refine q A H' e nA ?_
      rw [hD]
      unfold firstP natV
      rw [List.map_filterMap]
      congr 3
      funext i
      by_cases c : firstB ns b s_ i = true
      · rw [if_pos c, if_pos c]
        rfl
      · rw [if_neg c, if_neg c]
        rfl
theorem ok_first_parts {P : Program} {w : World} {K : PySem.W.Frag} {mg : Str → Option Value} {base : Heap} (T : Env K mg) : Fc P w K mg base 2 (He.ga K "first_parts") [] (sp_first_parts K ) := by
  obtain ⟨fd, D, F⟩ := fb_first_parts T
  exact F.all (D.bindsN fun _ _ _ _ _ _ us hl => match us, hl with | [_, _, _], _ => rfl)
end
section
def sp_most_number (K : PySem.W.Frag) : Sp := fun vs H Q _ => ∃ (r p : Addr) (ns : List Nat) (pap : List (List Int)) (b s : Nat), vs = [.ref r, .ref p, .int (b : Nat), .int (s : Nat)] ∧ SqL K H r (natV ns) ∧ PapAt K H p pap ∧ Fits pap b s ∧ 1 ≤ s ∧ b + s ≤ ns.length ∧ ns.length ≤ 1000 ∧ ∀ H', Ex H H' → Q (.int (mostP ns pap b s)) H'
theorem first_mem {ns : List Nat} {b s p : Nat} (h : p ∈ firstP ns b s) : 1 ≤ p ∧ p < s := by
  unfold firstP at h
  obtain ⟨i, hi, e⟩ := List.mem_filterMap.mp h
  have := List.mem_range.mp hi
  split at e
  · injection e with e
    omega
  · cases e
theorem fb_most_number {P : Program} {w : World} {K : PySem.W.Frag} {mg : Str → Option Value} {base : Heap} (T : Env K mg) : ∃ fd, FunD K "most_number" "most_number" (defArgs s_most_number) (defBody s_most_number) (defScope s_most_number) [] [] (He.ga K "most_number") fd ∧ Fb P w K mg base 3 (He.ga K "most_number") fd ["row", "paper", "begin", "size"] (sp_most_number K) := by
  obtain ⟨fd, F⟩ := T.f_most_number
  refine ⟨fd, F, fb_of F sc_most_number (fun vs H Q E h => ?_) (fun cdv A outer s H vs Q E hr h => ?_)⟩
  · obtain ⟨r, p, ns, pap, b, s, rfl, _⟩ := h
    rfl
  · obtain ⟨r, p, ns, pap, b, s_, rfl, hw, hP, hF, s1, hbs, hl, q⟩ := h
    refine ⟨_, (pss_cons (ps_if (pt_cmpR op_eq (pv 3) pe_int (nomark _))
      (pss_one (ps_ret pe_int))
      pss_nil)
      (pss_cons (ps_setLc (i := 4) (own := [("cut", 6)]) (by rfl) sc_most_number.nd rfl rfl (sw_true rfl rfl rfl (by decide +kernel)) (pi_range2 (by rfl) T.n_range (pa_cons pe_int (pa_cons (pv 3) pa_nil))) (blkOk_by (own := [("cut", 6)]) (N := ["row", "paper", "begin", "size", "cuts", "overs", "cut", "part"]) (sc := defScope s_most_number) (by decide +kernel)) (fun _ _ _ _ _ => (pg_name (i := 6) sc_most_number.nd rfl (Or.inl rfl))) (fun _ _ _ _ _ => pts_nil) (fun _ _ _ _ _ => (pe_op op_add (pe_ix (ix_seqA K) (pe_ix (ix_seqA K) (pv 1) (pv 2) (fun _ _ => rfl)) (pe_op op_sub (pv 6) pe_int) (fun _ _ => rfl)) (pe_ix (ix_seqA K) (pe_ix (ix_seqA K) (pv 1) (pe_op op_add (pv 2) (pv 6)) (fun _ _ => rfl)) (pe_op op_sub (pe_op op_sub (pv 3) (pv 6)) pe_int) (fun _ _ => rfl)))))
      (pss_cons (ps_setLc (i := 5) (own := [("part", 7)]) (by rfl) sc_most_number.nd rfl rfl (sw_true rfl rfl rfl (by decide +kernel)) (pi_list (c_call (ok_first_parts T) (hr.mono (by decide)) T.g_first_parts T.k_first_parts takes0 (pa_cons (pv 0) (pa_cons (pv 2) (pa_cons (pv 3) pa_nil))))) (blkOk_by (own := [("part", 7)]) (N := ["row", "paper", "begin", "size", "cuts", "overs", "cut", "part"]) (sc := defScope s_most_number) (by decide +kernel)) (fun _ _ _ _ _ => (pg_name (i := 7) sc_most_number.nd rfl (Or.inl rfl))) (fun _ _ _ _ _ => pts_nil) (fun _ _ _ _ _ => (pe_op op_add (pe_ix (ix_seqA K) (pe_ix (ix_seqA K) (pv 1) (pv 2) (fun _ _ => rfl)) (pe_op op_sub (pv 7) pe_int) (fun _ _ => rfl)) pe_int)))
      (pss_one (ps_ret (pe_callB (cr_min rfl) (by rfl) T.n_min (by decide +kernel) (pa_cons (pe_op op_cat (pv 4) (pv 5)) pa_nil))))))), ?_⟩
    refine ⟨_, rfl, rfl, _, rfl, ?_⟩
    try dsimp only [tNil]
    rw [vint_dec]
    refine ite2 (fun c => ?_) (fun c => ?_)
    · have c1 : s_ = 1 := by
        have := of_decide_eq_true c
        omega
      have z := q H (.refl _)
      unfold mostP at z
      rw [if_pos c1] at z
      exact z
    · have c1 : s_ ≠ 1 := fun z => c (decide_eq_true (by omega))
      refine ⟨_, rfl, _, _, rfl, ⟨(by decide), ⟨(by decide), ⟨(by omega), (by omega)⟩⟩⟩, ?_⟩
      intro A nA
      have en : ((s_ : Int) - 1).toNat = s_ - 1 := by omega
      rw [en]
      refine lc_rg (fun i => some (.int (pg pap b i + pg pap (b + i + 1) (s_ - i - 2)))) (fun H' => Ex H H') (fun H' l e => ex_mut e nA) (.refl _) (by omega) (fun i H' acc N hi e hD la k => ?_) (fun H1 X1 hD1 => ?_)
      · have hP' := hP.mono e
        obtain ⟨f1, f2⟩ := hF 0 i (by omega) (by omega)
        obtain ⟨g1, g2⟩ := hF (i + 1) (s_ - i - 2) (by omega) (by omega)
        refine ⟨rfl, _, rfl, _, rfl, pap_ix hP' rfl (by simpa using f1) fun b1 h1 => ⟨_, rfl, _, _, rfl, rfl, row_ix h1 (j := i) (by omega) (by simpa using f2) ⟨_, rfl, _, rfl, _, rfl, _, _, rfl, rfl, pap_ix hP' (i := b + i + 1) (by omega) (by omega) fun b2 h2 => ?_⟩⟩⟩
        refine ⟨_, rfl, _, rfl, _, _, rfl, rfl, _, _, rfl, rfl, row_ix h2 (j := s_ - i - 2) (by omega) (by omega) ⟨_, _, rfl, rfl, acc, hD, la, ?_⟩⟩
        exact k H' e hD
      have hw1 := ex_sql X1 hw
      have eC : (List.range (s_ - 1)).filterMap (fun i => some (V.int (pg pap b i + pg pap (b + i + 1) (s_ - i - 2)))) = (cutsP pap b s_).map V.int := by
        unfold cutsP
        rw [List.filterMap_eq_map', List.map_map]
        rfl
      rw [eC] at hD1
      refine ⟨_, rfl, _, rfl, _, rfl, _, _, _, _, rfl, hw1, hbs, hl, ?_⟩
      intro f H2 X2 nf hf
      have l1 : (firstP ns b s_).length ≤ 1000 := by
        unfold firstP
        have := List.length_filterMap_le (fun i => if firstB ns b s_ i = true then some (i + 1) else none) (List.range (s_ - 1))
        rw [List.length_range] at this
        omega
      refine ⟨_, rfl, ⟨_, (sq_lst hf)⟩, ?_⟩
      intro B nB
      refine lc_on (firstP ns b s_) (fun n : Nat => V.int n) L2.walk_list (fun n => some (.int (pg pap b (n - 1) + 1))) (fun H' => Ex H2 H') (fun H' l e => ex_mut e nB) (.refl _) (by omega) (fun H' e => sq_lst (e _ _ hf)) (fun i n H' acc N hn e hD la k => ?_) (fun H3 X3 hD3 => ?_)
      · have hP' := hP.mono ((X1.trans X2).trans e)
        obtain ⟨m1, m2⟩ := first_mem (List.mem_of_getElem? hn)
        obtain ⟨f1, f2⟩ := hF 0 (n - 1) (by omega) (by omega)
        refine ⟨rfl, _, rfl, _, rfl, pap_ix hP' rfl (by simpa using f1) fun b1 h1 => ⟨_, rfl, _, _, rfl, rfl, row_ix h1 (j := n - 1) (by omega) (by simpa using f2) ⟨_, _, rfl, rfl, acc, hD, la, ?_⟩⟩⟩
        exact k H' e hD
      · have eO : (firstP ns b s_).filterMap (fun n => some (V.int (pg pap b (n - 1) + 1))) = (oversP ns pap b s_).map V.int := by
          unfold oversP
          rw [List.filterMap_eq_map', List.map_map]
          rfl
        rw [eO] at hD3
        have hA3 := X3 _ _ (X2 _ _ hD1)
        have l2 : (cutsP pap b s_).length ≤ 1000 := by
          unfold cutsP
          rw [List.length_map, List.length_range]
          omega
        have l3 : (oversP ns pap b s_).length ≤ 1000 := by
          unfold oversP
          rw [List.length_map]
          exact l1
        have lz : ((cutsP pap b s_).map V.int).length + ((oversP ns pap b s_).map V.int).length ≤ sizeLine := sz_big (by rw [List.length_map, List.length_map]; omega)
        refine ⟨_, rfl, _, rfl, A, B, _, _, rfl, rfl, hA3, hD3, lz, fun C nC => ?_⟩
        refine ⟨C, cutsP pap b s_ ++ oversP ns pap b s_, rfl, by rw [List.map_append]; exact sq_lst upd_same, ?_, fun m hm hle => ?_⟩
        · have : (cutsP pap b s_).length = s_ - 1 := by
            unfold cutsP
            rw [List.length_map, List.length_range]
          rw [List.length_append]
          omega
        · have z := q _ (((X1.trans X2).trans X3).trans (ex_new (o := .lst ((cutsP pap b s_).map V.int ++ (oversP ns pap b s_).map V.int)) nC))
          unfold mostP at z
          rw [if_neg c1, ← minI_eq hm hle] at z
          exact z
theorem ok_most_number {P : Program} {w : World} {K : PySem.W.Frag} {mg : Str → Option Value} {base : Heap} (T : Env K mg) : Fc P w K mg base 3 (He.ga K "most_number") [] (sp_most_number K ) := by
  obtain ⟨fd, D, F⟩ := fb_most_number T
  exact F.all (D.bindsN fun _ _ _ _ _ _ us hl => match us, hl with | [_, _, _, _], _ => rfl)
end
section
def sp_has_shape (K : PySem.W.Frag) : Sp := fun vs H Q _ => ∃ (p : Addr) (pap : List (List Int)) (n : Nat), vs = [.ref p, .int (n : Nat)] ∧ PapAt K H p pap ∧ pap.length ≤ 1000 ∧ ∀ H', Ex H H' → Q (.bl (shapeB pap n)) H'
theorem fb_has_shape {P : Program} {w : World} {K : PySem.W.Frag} {mg : Str → Option Value} {base : Heap} (T : Env K mg) : ∃ fd, FunD K "has_shape" "has_shape" (defArgs s_has_shape) (defBody s_has_shape) (defScope s_has_shape) [] [] (He.ga K "has_shape") fd ∧ Fb P w K mg base 1 (He.ga K "has_shape") fd ["paper", "many"] (sp_has_shape K) := by
  obtain ⟨fd, F⟩ := T.f_has_shape
  refine ⟨fd, F, fb_of F sc_has_shape (fun vs H Q E h => ?_) (fun cdv A outer s H vs Q E hr h => ?_)⟩
  · obtain ⟨p, pap, n, rfl, _⟩ := h
    rfl
  · obtain ⟨p, pap, n, rfl, hP, hl, q⟩ := h
    refine ⟨_, (pss_one (ps_ret (pe_and (pe_cmpR op_eq (pe_callB call_len (by rfl) T.n_len (by decide +kernel) (pa_cons (pv 0) pa_nil)) (pv 1) (nomark _)) (pe_one (pe_callB (cr_all rfl) (by rfl) T.n_all (by decide +kernel) (pa_cons (pe_lc (own := [("place", 2), ("numbers", 3)]) (by rfl) sc_has_shape.nd (pi_enumB K (by rfl) T.n_enumerate (pa_cons (pv 0) pa_nil)) (blkOk_by (own := [("place", 2), ("numbers", 3)]) (N := ["paper", "many", "place", "numbers"]) (sc := defScope s_has_shape) (by decide +kernel)) (fun _ _ _ _ _ => (pg_tupK K (n := 2) rfl (pgs_cons (pg_name (i := 2) sc_has_shape.nd rfl (Or.inl rfl)) (pgs_cons (pg_name (i := 3) sc_has_shape.nd rfl (Or.inl rfl)) pgs_nil)))) (fun _ _ _ _ _ => pts_nil) (fun _ _ _ _ _ => (pe_cmpR op_eq (pe_callB (call_lenK K) (by rfl) T.n_len (by decide +kernel) (pa_cons (pv 3) pa_nil)) (pe_op op_sub (pv 1) (pv 2)) (nomark _)))) pa_nil)))))), ?_⟩
    obtain ⟨as, h1, h2, h3⟩ := id hP
    have hL : LenV K (.ref p) H as.length := by
      rcases h1 with h | h
      · exact .inl ⟨_, h, (List.length_map _).symm⟩
      · exact .inr ⟨_, h, (List.length_map _).symm⟩
    refine ⟨_, rfl, _, _, rfl, hL, _, rfl, rfl, _, rfl, ?_⟩
    try dsimp only [tNil]
    rw [vint_dec, h2]
    refine ite2 (fun c => ?_) (fun c => ?_)
    · have c2 : pap.length = n := by
        have := of_decide_eq_true c
        omega
      refine ⟨_, rfl, p, as.map V.ref, rfl, h1, fun J G wk hG A nA => lc_fm wk (fun i => some (V.bl (decide (((pap.getD i []).length : Int) = (n : Int) - (i : Int))))) (fun H' => Ex H H') (fun H' l e => ex_mut e nA) (.refl _) (by rw [List.length_map]; omega) (fun H' e => hG H' (stays_ex e)) (fun i x H1 H2 acc N hi e hD la y k => ?_) (fun H1 e hD => ?_)⟩
      · obtain ⟨T1, x1, x2, rfl, nT, rfl, g1, g2⟩ := y
        injection g1 with g1
        subst g1
        dsimp only at g2
        rw [List.getElem?_map] at g2
        obtain ⟨b, hb, rfl⟩ := Option.map_eq_some_iff.mp g2
        rw [List.length_map] at hi
        have hr2 := h3 i b _ hb (List.getElem?_eq_getElem (by omega))
        have X2 := e.trans (ex_new (o := .tup [.int (i : Nat), .ref b]) nT)
        have hA2 := ex_new (o := .tup [.int (i : Nat), .ref b]) nT _ _ hD
        have e3 : pap[i] = pap.getD i [] := by rw [List.getD_eq_getElem?_getD, List.getElem?_eq_getElem (by omega)]; rfl
        have hr3 := hr2.mono X2
        rw [e3] at hr3
        have hB : LenV K (.ref b) (upd H1 T1 (.tup [.int (i : Nat), .ref b])) (pap.getD i []).length := by
          rcases hr3 with h | h
          · exact .inl ⟨_, h, (List.length_map _).symm⟩
          · exact .inr ⟨_, h, (List.length_map _).symm⟩
        refine ⟨T1, _, rfl, sq_tup upd_same, rfl, _, _, rfl, _, _, rfl, rfl, rfl, _, rfl, _, _, rfl, hB, _, rfl, _, rfl, _, _, rfl, rfl, rfl, acc, hA2, la, ?_⟩
        rw [vint_dec]
        exact k _ X2 hA2
      · rw [List.length_map, h2, fm_bl] at hD
        refine ⟨A, _, rfl, sq_lst hD, ?_⟩
        rw [all_id]
        have z := q H1 e
        unfold shapeB at z
        rw [decide_eq_true c2, Bool.true_and] at z
        exact z
    · have z := q H (.refl _)
      unfold shapeB at z
      rw [decide_eq_false (fun w => c (decide_eq_true (by omega))), Bool.false_and] at z
      exact z
theorem ok_has_shape {P : Program} {w : World} {K : PySem.W.Frag} {mg : Str → Option Value} {base : Heap} (T : Env K mg) : Fc P w K mg base 1 (He.ga K "has_shape") [] (sp_has_shape K ) := by
  obtain ⟨fd, D, F⟩ := fb_has_shape T
  exact F.all (D.bindsN fun _ _ _ _ _ _ us hl => match us, hl with | [_, _], _ => rfl)
end
section
def sp_is_paper (K : PySem.W.Frag) : Sp := fun vs H Q E => ∃ x r p pap, vs = [x, .ref p] ∧ MomG K H x r ∧ (r ≠ none → PapAt K H p pap ∧ pap.length ≤ 1000 ∧ (∀ rw_ ∈ pap, rw_.length ≤ 1000)) ∧ (∀ ns, r = some ns → ns.length ≤ 1000) ∧ (∀ ns, r = some ns → ∀ H', Ex H H' → Q (.bl (paperB (srtN ns) pap)) H') ∧ (r = none → ∀ H', Ex H H' → E (.ref (He.ga K "NoPiece")) none H')
theorem fb_is_paper {P : Program} {w : World} {K : PySem.W.Frag} {mg : Str → Option Value} {base : Heap} (T : Env K mg) : ∃ fd, FunD K "is_paper" "is_paper" (defArgs s_is_paper) (defBody s_is_paper) (defScope s_is_paper) [] [] (He.ga K "is_paper") fd ∧ Fb P w K mg base 4 (He.ga K "is_paper") fd ["moments", "paper"] (sp_is_paper K) := by
  obtain ⟨fd, F⟩ := T.f_is_paper
  refine ⟨fd, F, fb_of F sc_is_paper (fun vs H Q E h => ?_) (fun cdv A outer s H vs Q E hr h => ?_)⟩
  · obtain ⟨x, r, p, pap, rfl, _⟩ := h
    rfl
  · obtain ⟨x, r, p, pap, rfl, hx, hPP, hl, q, qe⟩ := h
    refine ⟨_, (pss_cons (ps_set (i := 2) sc_is_paper.nd rfl (Or.inl rfl) (c_call (ok_in_rising_order T) (hr.mono (by decide)) T.g_in_rising_order T.k_in_rising_order (takes_of rfl rfl rfl rfl) (pa_cons (pv 0) pa_nil)))
      (pss_cons (ps_if (pt_not (pt_val (c_call (ok_has_shape T) (hr.mono (by decide)) T.g_has_shape T.k_has_shape (takes_of rfl rfl rfl rfl) (pa_cons (pv 1) (pa_cons (pe_callB call_len (by rfl) T.n_len (by decide +kernel) (pa_cons (pv 2) pa_nil)) pa_nil)))))
      (pss_one (ps_ret pe_bl))
      pss_nil)
      (pss_cons (ps_for (passes_of rfl) rfl (pi_enumB K (by rfl) T.n_enumerate (pa_cons (pv 1) pa_nil)) (pg_tup (by rfl) (pgs_cons (pg_name (i := 3) sc_is_paper.nd rfl (Or.inl rfl)) (pgs_cons (pg_name (i := 4) sc_is_paper.nd rfl (Or.inl rfl)) pgs_nil)))
      (pss_one (ps_for (passes_of rfl) rfl (pi_enumB K (by rfl) T.n_enumerate (pa_cons (pv 4) pa_nil)) (pg_tup (by rfl) (pgs_cons (pg_name (i := 5) sc_is_paper.nd rfl (Or.inl rfl)) (pgs_cons (pg_name (i := 6) sc_is_paper.nd rfl (Or.inl rfl)) pgs_nil)))
      (pss_one (ps_if (pt_cmpR op_gt (pv 6) (c_call (ok_most_number T) (hr.mono (by decide)) T.g_most_number T.k_most_number (takes_of rfl rfl rfl rfl) (pa_cons (pv 2) (pa_cons (pv 1) (pa_cons (pv 3) (pa_cons (pe_op op_add (pv 5) pe_int) pa_nil))))) (nomark _))
      (pss_one (ps_ret pe_bl))
      pss_nil)))))
      (pss_one (ps_ret pe_bl))))), ?_⟩
    refine ⟨_, rfl, x, r, rfl, hx, fun ns er f H1 X1 nf hf => ?_, fun er H1 X1 => qe er H1 X1⟩
    obtain ⟨hP, hp1, hp2⟩ := hPP (by rw [er]; simp)
    have hP1 := hP.mono X1
    have ln := hl ns er
    have ls := srtN_len ns
    have q' := q ns er
    refine ⟨_, rfl, _, rfl, _, _, rfl, (.inl ⟨_, ⟨(sq_lst hf), rfl⟩⟩), _, _, _, rfl, hP1, hp1, ?_⟩
    intro H2 X2
    have hP2 := hP1.mono X2
    have hf2 := X2 _ _ hf
    have X12 := X1.trans X2
    obtain ⟨ms, hms⟩ : ∃ ms, ms = srtN ns := ⟨_, rfl⟩
    rw [← hms] at hf2 q' ls ⊢
    rw [natV_len]
    cases hsh : shapeB pap ms.length with
    | false =>
      have z := q' H2 X12
      unfold paperB at z
      rw [hsh, Bool.false_and] at z
      exact ⟨_, rfl, iteT z⟩
    | true =>
    have lp : pap.length = ms.length := by
      unfold shapeB at hsh
      exact of_decide_eq_true (Bool.and_eq_true_iff.mp hsh).1
    have lrow : ∀ b, b < ms.length → (pap.getD b []).length = ms.length - b := fun b hb => by
      unfold shapeB at hsh
      have z := of_decide_eq_true (List.all_eq_true.mp (Bool.and_eq_true_iff.mp hsh).2 b (List.mem_range.mpr (by omega)))
      omega
    have bad : ∀ b j H', b < ms.length → j < ms.length - b → ¬ pg pap b j ≤ mostP ms pap b (j + 1) → Ex H2 H' → Q (.bl false) H' := fun b j H' hb hj nle X => by
      have z := q' H' (X12.trans X)
      have e : paperB ms pap = false := by
        unfold paperB
        rw [hsh, Bool.true_and]
        refine Bool.eq_false_iff.mpr fun w => ?_
        have w2 := List.all_eq_true.mp w b (List.mem_range.mpr hb)
        unfold rowB at w2
        exact nle (of_decide_eq_true (List.all_eq_true.mp w2 j (List.mem_range.mpr hj)))
      rw [e] at z
      exact z
    obtain ⟨as, h1, h2, h3⟩ := id hP2
    refine ⟨true, rfl, iteF ⟨_, rfl, p, as.map V.ref, rfl, h1, fun J G wk hG => L2.for_it wk (fun i σ H' => Ex H2 H' ∧ (∀ b, b < i → rowB ms pap b = true) ∧ ∃ v3 v4 v5 v6, σ = [some x, some (.ref p), some (.ref f), v3, v4, v5, v6]) ⟨.refl _, (fun b hb => absurd hb (Nat.not_lt_zero b)), _, _, _, _, rfl⟩ (fun i σ H' _ z => hG H' (stays_ex z.1)) (fun i y σ H3 H4 hi z y2 => ?_) (fun σ H3 z => ?_)⟩⟩
    · obtain ⟨X3, hrows, v3, v4, v5, v6, rfl⟩ := z
      obtain ⟨T1, x1, x2, rfl, nT, rfl, g1, g2⟩ := y2
      injection g1 with g1
      subst g1
      dsimp only at g2
      rw [List.getElem?_map] at g2
      obtain ⟨c, hc, rfl⟩ := Option.map_eq_some_iff.mp g2
      rw [List.length_map] at hi
      have hr1 := h3 i c _ hc (List.getElem?_eq_getElem (by omega))
      have e3 : pap[i] = pap.getD i [] := by rw [List.getD_eq_getElem?_getD, List.getElem?_eq_getElem (by omega)]; rfl
      rw [e3] at hr1
      have X4 := X3.trans (ex_new (o := .tup [.int (i : Nat), .ref c]) nT)
      have hT : upd H3 T1 (.tup [.int (i : Nat), .ref c]) T1 = some (.tup [.int (i : Nat), .ref c]) := upd_same
      generalize upd H3 T1 (.tup [.int (i : Nat), .ref c]) = H4 at X4 hT ⊢
      have hr4 := hr1.mono X4
      have li : i < ms.length := by omega
      have lri := lrow i li
      refine ⟨T1, _, rfl, sq_tup hT, rfl, _, _, rfl, _, _, rfl, rfl, ?_⟩
      refine ⟨_, rfl, c, _, rfl, hr4, fun J2 G2 wk2 hG2 => L2.for_it wk2 (fun j σ H' => Ex H2 H' ∧ Ex H4 H' ∧ (∀ k, k < j → pg pap i k ≤ mostP ms pap i (k + 1)) ∧ ∃ v5 v6, σ = [some x, some (.ref p), some (.ref f), some (.int (i : Nat)), some (.ref c), v5, v6]) ⟨X4, .refl _, (fun b hb => absurd hb (Nat.not_lt_zero b)), _, _, rfl⟩ (fun j σ H' _ z => hG2 H' (stays_ex z.2.1)) (fun j y σ H5 H6 hj z y2 => ?_) (fun σ H5 z => ?_)⟩
      · obtain ⟨X5, X45, hk, v5, v6, rfl⟩ := z
        obtain ⟨T2, y1, y2, rfl, nT2, rfl, g1, g2⟩ := y2
        injection g1 with g1
        subst g1
        dsimp only at g2
        rw [List.length_map] at hj
        have e4 : y2 = .int (pg pap i j) := by
          rw [List.getElem?_map, List.getElem?_eq_getElem hj] at g2
          have : (pap.getD i [])[j] = pg pap i j := by
            unfold pg
            show _ = ((pap.getD i []).getD j 0)
            generalize pap.getD i [] = row_ at hj ⊢
            rw [List.getD_eq_getElem?_getD, List.getElem?_eq_getElem hj]
            rfl
          rw [this] at g2
          exact (Option.some.inj g2).symm
        subst e4
        have X6 := X5.trans (ex_new (o := .tup [.int (j : Nat), .int (pg pap i j)]) nT2)
        have X46 := X45.trans (ex_new (o := .tup [.int (j : Nat), .int (pg pap i j)]) nT2)
        have hT2 : upd H5 T2 (.tup [.int (j : Nat), .int (pg pap i j)]) T2 = some (.tup [.int (j : Nat), .int (pg pap i j)]) := upd_same
        generalize upd H5 T2 (.tup [.int (j : Nat), .int (pg pap i j)]) = H6 at X6 X46 hT2 ⊢
        refine ⟨T2, _, rfl, sq_tup hT2, rfl, _, _, rfl, _, _, rfl, rfl, ?_⟩
        have hF := shape_fits (b := i) (s := j + 1) hsh (by omega)
        have hw6 := sq_lst (K := K) (X6 _ _ hf2)
        have hP6 := hP2.mono X6
        have hs1 : 1 ≤ j + 1 := by omega
        have hs2 : i + (j + 1) ≤ ms.length := by omega
        have hs3 : ms.length ≤ 1000 := by omega
        refine ⟨_, rfl, _, rfl, _, rfl, _, rfl, _, rfl, _, _, rfl, rfl, _, _, _, _, _, _, rfl, (sq_lst (X46 _ _ (X4 _ _ hf2))), hP6, hF, hs1, hs2, hs3, ?_⟩
        intro H7 X7
        refine ⟨_, _, rfl, rfl, _, rfl, ite2 (fun c => ?_) (fun c => ?_)⟩
        · exact bad i j H7 li (by omega) (fun z => Int.not_lt.mpr z (of_decide_eq_true c)) (X6.trans X7)
        · have c2 : pg pap i j ≤ mostP ms pap i (j + 1) := Decidable.by_contra fun z => c (decide_eq_true (Int.not_le.mp z))
          refine ⟨X6.trans X7, X46.trans X7, fun k hk2 => ?_, _, _, rfl⟩
          rcases Nat.lt_succ_iff_lt_or_eq.mp hk2 with h | rfl
          · exact hk k h
          · exact c2
      · obtain ⟨X5, X45, hk, v5, v6, rfl⟩ := z
        rw [List.length_map, lri] at hk
        refine ⟨X5, fun b hb => ?_, _, _, _, _, rfl⟩
        rcases Nat.lt_succ_iff_lt_or_eq.mp hb with hb | rfl
        · exact hrows b hb
        · unfold rowB
          exact List.all_eq_true.mpr fun k hk2 => decide_eq_true (hk k (List.mem_range.mp hk2))
    · obtain ⟨X3, hrows, v3, v4, v5, v6, rfl⟩ := z
      rw [List.length_map, h2, lp] at hrows
      have z := q' H3 (X12.trans X3)
      unfold paperB at z
      rw [hsh, Bool.true_and, List.all_eq_true.mpr fun b hb => hrows b (List.mem_range.mp hb)] at z
      exact z
theorem ok_is_paper_0_paper_moments {P : Program} {w : World} {K : PySem.W.Frag} {mg : Str → Option Value} {base : Heap} (T : Env K mg) : Fc P w K mg base 4 (He.ga K "is_paper") ["paper", "moments"] (fun vs H Q E => vs.length = 0 + (["paper", "moments"] : List Str).length ∧ sp_is_paper K  (pick [.inl 1, .inl 0] vs []) H Q E) := by
  obtain ⟨fd, D, F⟩ := fb_is_paper T
  exact Fb.names D F 0 ["paper", "moments"] (fun us => pick [.inl 1, .inl 0] us []) (fun r1 => pick_vals _ r1 .nil) (fun kV doc pm an cdv ct us ws h1 h2 => match us, ws, h1, h2 with | [], [_, _], _, _ => rfl)
theorem ok_is_paper {P : Program} {w : World} {K : PySem.W.Frag} {mg : Str → Option Value} {base : Heap} (T : Env K mg) : Fc P w K mg base 4 (He.ga K "is_paper") [] (sp_is_paper K ) := by
  obtain ⟨fd, D, F⟩ := fb_is_paper T
  exact F.all (D.bindsN fun _ _ _ _ _ _ us hl => match us, hl with | [_, _], _ => rfl)
end
section
/-- a pot: what is left of a cell's digits, and what mixes -/
def Pot (H : Hp) (p : Addr) : Prop := ∃ a b : Int, H p = some (.lst [.int a, .int b]) ∧ 0 ≤ b ∧ b < 4294967296
def sp__law_pot (K : PySem.W.Frag) : Sp := fun vs H Q _ => ∃ (a : Addr) (ns : List Int) (k : Int), vs = [.ref a, .int k] ∧ SqL K H a (ns.map V.int) ∧ 0 ≤ k ∧ k < 1000 ∧ ∀ p H', H p = none → Pot H' p → (∀ b, b ≠ p → H' b = H b) → Q (.ref p) H'
theorem fb__law_pot {P : Program} {w : World} {K : PySem.W.Frag} {mg : Str → Option Value} {base : Heap} (T : Env K mg) : ∃ fd, FunD K "_law_pot" "_law_pot" (defArgs s__law_pot) (defBody s__law_pot) (defScope s__law_pot) [] [] (He.ga K "_law_pot") fd ∧ Fb P w K mg base 1 (He.ga K "_law_pot") fd ["_law_script", "_law_k"] (sp__law_pot K) := by
  obtain ⟨fd, F⟩ := T.f__law_pot
  refine ⟨fd, F, fb_of F sc__law_pot (fun vs H Q E h => ?_) (fun cdv A outer s H vs Q E hr h => ?_)⟩
  · obtain ⟨a, ns, k, rfl, _⟩ := h
    rfl
  · obtain ⟨a, ns, k, rfl, hS, k0, k1, q⟩ := h
    refine ⟨_, (Evl.pss_cut (ps_set (i := 2) sc__law_pot.nd rfl (Or.inl rfl) (pe_ifExp (pt_cmpR op_lt (pv 1) (pe_callB call_len (by rfl) T.n_len (by decide +kernel) (pa_cons (pv 0) pa_nil)) (nomark _)) (pe_ix ix_list (pv 0) (pv 1) (fun _ _ => rfl)) pe_int))
      (pss_one (ps_ret (pe_lst (pa_cons (pe_callB (call_max2 rfl) (by rfl) T.n_max (by decide +kernel) (pa_cons pe_int (pa_cons (pe_op op_sub (pv 2) (pe_op op_pow pe_int pe_int)) pa_nil))) (pa_cons (pe_op op_add (pe_op op_mod (pe_op op_pow (pe_op op_add (pe_op op_mod (pv 2) pe_int) (pe_op op_mul pe_int (pe_op op_add (pv 1) pe_int))) pe_int) pe_int) pe_int) pa_nil)))))), ?_⟩
    refine ⟨fun σ' H' => H' = H ∧ ∃ cell : Int, σ' = [some (.ref a), some (.int k), some (.int cell)], ?_, ?_⟩
    · refine ⟨_, rfl, _, rfl, _, _, rfl, .inl ⟨_, hS, rfl⟩, _, _, rfl, rfl, _, rfl, ite2 (fun c => ?_) (fun c => ?_)⟩
      · have c2 : k < ((ns.map V.int).length : Int) := of_decide_eq_true c
        rw [List.length_map] at c2
        obtain ⟨i, rfl⟩ := Int.eq_ofNat_of_zero_le k0
        have hi : i < ns.length := Int.ofNat_lt.mp c2
        refine ⟨_, rfl, _, rfl, a, _, _, .int ns[i], rfl, rfl, hS, ?_, rfl, ns[i], rfl⟩
        exact atI_nat (by rw [List.getElem?_map, List.getElem?_eq_getElem hi]; rfl)
      · exact ⟨rfl, 0, rfl⟩
    · rintro σ' H' ⟨rfl, cell, rfl⟩
      have m1 := Int.emod_nonneg cell (show (2147483629 : Int) ≠ 0 by decide)
      have m2 := Int.emod_lt_of_pos cell (show (0 : Int) < 2147483629 by decide)
      refine ⟨_, rfl, _, _, rfl, rfl, ⟨(by decide), ⟨(by decide), (by decide)⟩⟩, _, _, rfl, rfl, _, _, rfl, _, rfl, _, _, rfl, rfl, (by omega), _, rfl, _, _, rfl, rfl, _, _, rfl, rfl, (.inl ⟨(by decide), (by decide)⟩), _, _, rfl, rfl, _, _, rfl, rfl, ⟨(by decide), ⟨(by decide), (by omega)⟩⟩, _, _, rfl, rfl, (by omega), _, _, rfl, rfl, (by show 2 ≤ sizeLine; decide), ?_⟩
      intro p hp
      exact q p _ hp ⟨_, _, upd_same, Int.add_nonneg (Int.emod_nonneg _ (by decide)) (by decide), by have := Int.emod_lt_of_pos ((cell % 2147483629 + 40503 * (k + 1)) ^ Int.toNat 3) (show (0 : Int) < 2147483563 by decide); omega⟩ fun b n => upd_ne n
theorem ok__law_pot {P : Program} {w : World} {K : PySem.W.Frag} {mg : Str → Option Value} {base : Heap} (T : Env K mg) : Fc P w K mg base 1 (He.ga K "_law_pot") [] (sp__law_pot K ) := by
  obtain ⟨fd, D, F⟩ := fb__law_pot T
  exact F.all (D.bindsN fun _ _ _ _ _ _ us hl => match us, hl with | [_, _], _ => rfl)
end
section
/-- the pot at p is drawn from: everything else stays -/
def PotOn (H H' : Hp) (p : Addr) : Prop := Pot H' p ∧ ∀ b o, b ≠ p → H b = some o → H' b = some o
theorem PotOn.refl {H : Hp} {p : Addr} (h : Pot H p) : PotOn H H p := ⟨h, fun _ _ _ e => e⟩
theorem PotOn.trans {H H1 H2 : Hp} {p : Addr} (a : PotOn H H1 p) (b : PotOn H1 H2 p) : PotOn H H2 p := ⟨b.1, fun c o n e => b.2 c o n (a.2 c o n e)⟩
theorem pot_new {H H' : Hp} {p l : Addr} {o : HO} (P : PotOn H H' p) (n : H' l = none) : PotOn H (upd H' l o) p := by
  obtain ⟨⟨x, y, e, r⟩, k⟩ := P
  refine ⟨⟨x, y, by rw [upd_ne (ne_of_none e n)]; exact e, r⟩, fun b u nb h => ?_⟩
  rw [upd_ne (ne_of_none (k b u nb h) n)]
  exact k b u nb h
def sp__law_draw (K : PySem.W.Frag) : Sp := fun vs H Q _ => ∃ (p : Addr) (n : Int), vs = [.ref p, .int n] ∧ Pot H p ∧ 0 < n ∧ n.toNat < 10 ^ 200 ∧ ∀ (d : Int) H', 0 ≤ d → d < n → PotOn H H' p → Q (.int d) H'
theorem fb__law_draw {P : Program} {w : World} {K : PySem.W.Frag} {mg : Str → Option Value} {base : Heap} (T : Env K mg) : ∃ fd, FunD K "_law_draw" "_law_draw" (defArgs s__law_draw) (defBody s__law_draw) (defScope s__law_draw) [] [] (He.ga K "_law_draw") fd ∧ Fb P w K mg base 1 (He.ga K "_law_draw") fd ["_law_pot_here", "_law_size"] (sp__law_draw K) := by
  obtain ⟨fd, F⟩ := T.f__law_draw
  refine ⟨fd, F, fb_of F sc__law_draw (fun vs H Q E h => ?_) (fun cdv A outer s H vs Q E hr h => ?_)⟩
  · obtain ⟨p, n, rfl, _⟩ := h
    rfl
  · obtain ⟨p, n, rfl, ⟨a, b, hp, b0, b1⟩, n0, n1, q⟩ := h
    refine ⟨_, (pss_cons (ps_if (pt_cmpR op_gt (pe_ix ix_list (pv 0) pe_int (fun _ _ => rfl)) pe_int (nomark _))
      (pss_cons (ps_asg (pe_callB call_divmodW (by rfl) T.n_divmod (by decide +kernel) (pa_cons (pe_ix ix_list (pv 0) pe_int (fun _ _ => rfl)) (pa_cons (pv 1) pa_nil))) (pg_tup (by rfl) (pgs_cons (pg_sub (pv 0) pe_int set_list) (pgs_cons (pg_name (i := 2) sc__law_draw.nd rfl (Or.inl rfl)) pgs_nil))))
      (pss_one (ps_ret (pv 2))))
      pss_nil)
      (pss_cons (ps_asg (pe_op op_mod (pe_op op_add (pe_op op_mul (pe_ix ix_list (pv 0) pe_int (fun _ _ => rfl)) pe_int) pe_int) pe_int) (pg_sub (pv 0) pe_int set_list))
      (pss_one (ps_ret (pe_op op_mod (pe_op op_fdiv (pe_op op_mod (pe_op op_mul (pe_ix ix_list (pv 0) pe_int (fun _ _ => rfl)) (pe_ix ix_list (pv 0) pe_int (fun _ _ => rfl))) pe_int) pe_int) (pv 1)))))), ?_⟩
    refine ⟨_, rfl, p, _, _, .int a, rfl, rfl, sq_lst hp, rfl, _, _, rfl, rfl, _, rfl, ite2 (fun _ => ?_) (fun _ => ?_)⟩
    · refine ⟨_, rfl, p, _, _, .int a, rfl, rfl, sq_lst hp, rfl, _, rfl, a, n, rfl, ⟨n0, PyProof.noPylong_of_log2 (Nat.lt_trans (log_of (show n.natAbs < 10 ^ 200 by omega)) (by decide))⟩, fun t ht => ?_⟩
      have pt : p ≠ t := ne_of_none hp ht
      refine ⟨t, _, rfl, sq_tup upd_same, rfl, _, _, rfl, _, rfl, p, [.int a, .int b], 0, 0, rfl, rfl, (by rw [upd_ne pt]; exact hp), rfl, _, _, rfl, rfl, _, rfl, ?_⟩
      refine q _ _ (Int.emod_nonneg _ (by omega)) (Int.emod_lt_of_pos _ n0) ⟨⟨_, _, upd_same, b0, b1⟩, fun x o nx e => ?_⟩
      rw [upd_ne nx, upd_ne (ne_of_none e ht)]
      exact e
    · refine ⟨_, rfl, p, _, _, .int b, rfl, rfl, sq_lst hp, rfl, _, _, rfl, rfl, .inr (by decide), _, _, rfl, rfl, _, _, rfl, rfl, (by show (0 : Int) < 2147483629; decide), _, rfl, p, _, 1, 1, rfl, rfl, hp, rfl, ?_⟩
      have m1 := Int.emod_nonneg (b * 39373 + 7919) (show (2147483629 : Int) ≠ 0 by decide)
      have m2 := Int.emod_lt_of_pos (b * 39373 + 7919) (show (0 : Int) < 2147483629 by decide)
      refine ⟨_, rfl, p, _, _, .int ((b * 39373 + 7919) % 2147483629), rfl, rfl, sq_lst upd_same, rfl, _, rfl, p, _, _, .int ((b * 39373 + 7919) % 2147483629), rfl, rfl, sq_lst upd_same, rfl, _, _, rfl, rfl, .inl ⟨by omega, by omega⟩, _, _, rfl, rfl, (by show (0 : Int) < 2147483587; decide), _, _, rfl, rfl, ⟨by decide, by decide⟩, _, rfl, _, _, rfl, rfl, n0, ?_⟩
      refine q _ _ (Int.emod_nonneg _ (by omega)) (Int.emod_lt_of_pos _ n0) ⟨⟨_, _, upd_same, m1, by omega⟩, fun x o nx e => ?_⟩
      rw [upd_ne nx]
      exact e
theorem PotOn.ex {H0 H H' : Hp} {p : Addr} (e : Ex H0 H) (n : H0 p = none) (P : PotOn H H' p) : Ex H0 H' := fun b o h => P.2 b o (ne_of_none h n) (e b o h)
theorem pot_upd {H H' : Hp} {p l : Addr} {o : HO} (P : PotOn H H' p) (n : H l = none) (ne : l ≠ p) : PotOn H (upd H' l o) p := by
  obtain ⟨⟨x, y, e, r⟩, k⟩ := P
  refine ⟨⟨x, y, by rw [upd_ne (Ne.symm ne)]; exact e, r⟩, fun b u nb h => ?_⟩
  rw [upd_ne (ne_of_none h n)]
  exact k b u nb h
theorem PotOn.ex2 {H H1 H2 : Hp} {p : Addr} (P : PotOn H H1 p) (e : Ex H1 H2) : PotOn H H2 p := by
  obtain ⟨⟨x, y, h, r⟩, k⟩ := P
  exact ⟨⟨x, y, e _ _ h, r⟩, fun b u nb h => e _ _ (k b u nb h)⟩
theorem pot_ne {H H' : Hp} {p l : Addr} (P : PotOn H H' p) (n : H' l = none) : l ≠ p := fun z => by
  obtain ⟨_, _, e, _⟩ := P.1
  rw [z, e] at n
  cases n
theorem at_mem {xs : List V} {i : Int} (h0 : 0 ≤ i) (h1 : i < (xs.length : Nat)) : ∃ x, x ∈ xs ∧ atI xs i = some x := by
  obtain ⟨n, rfl⟩ := Int.eq_ofNat_of_zero_le h0
  have hn : n < xs.length := Int.ofNat_lt.mp h1
  exact ⟨xs[n], List.getElem_mem hn, atI_nat (List.getElem?_eq_getElem hn)⟩
theorem PotOn.fresh {H H' : Hp} {p b : Addr} (P : PotOn H H' p) (n : H' b = none) : H b = none := by
  cases e : H b with
  | none => rfl
  | some o =>
    by_cases hb : b = p
    · obtain ⟨_, _, e2, _⟩ := P.1
      rw [hb, e2] at n
      cases n
    · rw [P.2 b o hb e] at n
      cases n
theorem pot_mono {H H' : Hp} {p : Addr} (h : Pot H p) (e : Ex H H') : Pot H' p := by
  obtain ⟨x, y, h1, h2⟩ := h
  exact ⟨x, y, e _ _ h1, h2⟩
theorem ok__law_draw {P : Program} {w : World} {K : PySem.W.Frag} {mg : Str → Option Value} {base : Heap} (T : Env K mg) : Fc P w K mg base 1 (He.ga K "_law_draw") [] (sp__law_draw K ) := by
  obtain ⟨fd, D, F⟩ := fb__law_draw T
  exact F.all (D.bindsN fun _ _ _ _ _ _ us hl => match us, hl with | [_, _], _ => rfl)
end
section
def sp__law_gap (K : PySem.W.Frag) : Sp := fun vs H Q _ => ∃ p, vs = [.ref p] ∧ Pot H p ∧ ∀ (g : Nat) H', g < 10 ^ 50 → PotOn H H' p → Q (.int (g : Nat)) H'
theorem fb__law_gap {P : Program} {w : World} {K : PySem.W.Frag} {mg : Str → Option Value} {base : Heap} (T : Env K mg) : ∃ fd, FunD K "_law_gap" "_law_gap" (defArgs s__law_gap) (defBody s__law_gap) (defScope s__law_gap) [] [] (He.ga K "_law_gap") fd ∧ Fb P w K mg base 2 (He.ga K "_law_gap") fd ["_law_pot_here"] (sp__law_gap K) := by
  obtain ⟨fd, F⟩ := T.f__law_gap
  refine ⟨fd, F, fb_of F sc__law_gap (fun vs H Q E h => ?_) (fun cdv A outer s H vs Q E hr h => ?_)⟩
  · obtain ⟨p, rfl, _⟩ := h
    rfl
  · obtain ⟨p, rfl, hp, q⟩ := h
    refine ⟨_, (pss_cons (ps_set (i := 1) sc__law_gap.nd rfl (Or.inl rfl) (c_call (ok__law_draw T) (hr.mono (by decide)) T.g__law_draw T.k__law_draw takes0 (pa_cons (pv 0) (pa_cons pe_int pa_nil))))
      (pss_one (ps_ret (c_call (ok__law_draw T) (hr.mono (by decide)) T.g__law_draw T.k__law_draw takes0 (pa_cons (pv 0) (pa_cons (pe_ix ix_list (pe_lst (pa_cons pe_int (pa_cons pe_int (pa_cons pe_int (pa_cons pe_int (pa_cons pe_int (pa_cons pe_int (pa_cons pe_int (pa_cons (pe_op op_pow pe_int pe_int) pa_nil))))))))) (pv 1) (fun _ _ => rfl)) pa_nil)))))), ?_⟩
    refine ⟨_, rfl, p, 8, rfl, hp, by decide, by decide +kernel, fun d H1 d0 d1 P1 => ?_⟩
    refine ⟨_, rfl, _, _, rfl, rfl, ⟨(by decide), ⟨(by decide), (by decide)⟩⟩, (by decide), ?_⟩
    intro l nl
    have X2 := ex_new (o := .lst [.int 1, .int 1, .int 3, .int 30, .int 60, .int 60, .int 1440, .int (10 ^ 50)]) nl
    obtain ⟨x, hx, ex⟩ := at_mem (xs := [.int 1, .int 1, .int 3, .int 30, .int 60, .int 60, .int 1440, .int (10 ^ 50)]) d0 (by show d < 8; exact d1)
    have P2 := P1.ex2 X2
    refine ⟨_, rfl, l, _, _, x, rfl, rfl, sq_lst upd_same, ex, ?_⟩
    have hb : ∃ i : Int, x = .int i ∧ 0 < i ∧ i ≤ 10 ^ 50 := by
      simp only [List.mem_cons, List.not_mem_nil, or_false] at hx
      rcases hx with rfl | rfl | rfl | rfl | rfl | rfl | rfl | rfl <;> exact ⟨_, rfl, by decide +kernel, by decide +kernel⟩
    obtain ⟨i, rfl, i0, i1⟩ := hb
    refine ⟨p, i, rfl, P2.1, i0, by omega, fun g H3 g0 g1 P3 => ?_⟩
    obtain ⟨n, rfl⟩ := Int.eq_ofNat_of_zero_le g0
    exact q n H3 (by omega) (P2.trans P3)
theorem ok__law_gap {P : Program} {w : World} {K : PySem.W.Frag} {mg : Str → Option Value} {base : Heap} (T : Env K mg) : Fc P w K mg base 2 (He.ga K "_law_gap") [] (sp__law_gap K ) := by
  obtain ⟨fd, D, F⟩ := fb__law_gap T
  exact F.all (D.bindsN fun _ _ _ _ _ _ us hl => match us, hl with | [_], _ => rfl)
end
section
/-- the moments of ns, over and over -/
def overN (ns : List Nat) (m s : Nat) : List Nat := (List.range m).flatMap fun t => ns.map fun n => n + t * s
theorem overN_len (ns : List Nat) (m s : Nat) : (overN ns m s).length = m * ns.length := by
  unfold overN
  induction m with
  | zero => simp
  | succ m ih =>
    rw [List.range_succ, List.flatMap_append, List.length_append, ih]
    simp
    rw [Nat.add_mul, Nat.one_mul]
theorem overN_succ (ns : List Nat) (m s : Nat) : overN ns (m + 1) s = overN ns m s ++ ns.map fun n => n + m * s := by
  unfold overN
  rw [List.range_succ, List.flatMap_append]
  simp
/-- shorts -/
inductive Tr where
  | at (n : Nat)
  | ov (ps : List Tr) (m s : Nat)
mutual
def Tr.moms : Tr → List Nat
  | .at n => [n]
  | .ov ps m s => overN (momsL ps) m s
def momsL : List Tr → List Nat
  | [] => []
  | t :: ts => t.moms ++ momsL ts
end
mutual
def Tr.nest : Tr → Nat
  | .at _ => 0
  | .ov ps _ _ => 1 + nestL ps
def nestL : List Tr → Nat
  | [] => 0
  | t :: ts => max t.nest (nestL ts)
end
theorem momsL_app (a b : List Tr) : momsL (a ++ b) = momsL a ++ momsL b := by
  induction a with
  | nil => simp [momsL]
  | cons t r ih => simp [momsL, ih]
theorem nestL_mem {t : Tr} : ∀ {ts : List Tr}, t ∈ ts → t.nest ≤ nestL ts
  | x :: r, h => by
    show _ ≤ max x.nest (nestL r)
    rcases List.mem_cons.mp h with rfl | h
    · exact Nat.le_max_left _ _
    · exact Nat.le_trans (nestL_mem h) (Nat.le_max_right _ _)
theorem momsL_take {ts : List Tr} {i : Nat} {t : Tr} (h : ts[i]? = some t) : momsL (ts.take (i + 1)) = momsL (ts.take i) ++ t.moms := by
  rw [take_snoc h, momsL_app]
  simp [momsL]
theorem momsL_take_len (ts : List Tr) (i : Nat) : (momsL (ts.take i)).length ≤ (momsL ts).length := by
  conv => rhs; rw [← List.take_append_drop i ts, momsL_app, List.length_append]
  omega
mutual
/-- a short that may be made -/
def Tr.ok : Tr → Prop
  | .at _ => True
  | .ov ps m s => ps ≠ [] ∧ 2 ≤ m ∧ 1 ≤ s ∧ m * (momsL ps).length ≤ 1440 ∧ (momsL ps).getLastD 0 < s + (momsL ps).headD 0 ∧ (momsL ps).Pairwise (· < ·) ∧ okL_ ps
def okL_ : List Tr → Prop
  | [] => True
  | t :: ts => t.ok ∧ okL_ ts
end
theorem okL_mem {t : Tr} : ∀ {ts : List Tr}, okL_ ts → t ∈ ts → t.ok
  | x :: r, h, hm => by
    unfold okL_ at h
    rcases List.mem_cons.mp hm with rfl | hm
    · exact h.1
    · exact okL_mem h.2 hm
theorem pos_moms (t : Tr) (h : t.ok) : 1 ≤ t.moms.length := by
  match t, h with
  | .at n, _ =>
    unfold Tr.moms
    exact Nat.le_refl _
  | .ov (x :: r) m s, h =>
    unfold Tr.ok at h
    obtain ⟨_, h2, _, _, _, _, h7⟩ := h
    unfold Tr.moms
    rw [overN_len]
    have hx : 1 ≤ x.moms.length := pos_moms x (by unfold okL_ at h7; exact h7.1)
    have : 1 ≤ (momsL (x :: r)).length := by
      unfold momsL
      rw [List.length_append]
      omega
    exact Nat.le_trans (by decide) (Nat.mul_le_mul h2 this)
  | .ov [] m s, h =>
    unfold Tr.ok at h
    exact absurd rfl h.1
theorem len_moms : ∀ {ts : List Tr}, okL_ ts → ts.length ≤ (momsL ts).length
  | [], _ => Nat.le_refl _
  | t :: ts, h => by
    unfold okL_ at h
    have h1 := pos_moms t h.1
    have h2 := len_moms h.2
    unfold momsL
    rw [List.length_cons, List.length_append]
    omega
theorem ov_facts {ps : List Tr} {m s : Nat} (h : (Tr.ov ps m s).ok) : ps ≠ [] ∧ 2 ≤ m ∧ m ≤ 1440 ∧ m * (momsL ps).length ≤ 1440 ∧ (momsL ps).length ≤ 1440 ∧ ps.length ≤ 1440 ∧ okL_ ps := by
  unfold Tr.ok at h
  obtain ⟨h1, h2, h3, h4, _, _, h7⟩ := h
  have h8 := len_moms h7
  have h9 : 0 < ps.length := List.length_pos_iff.mpr h1
  have h10 : m ≤ m * (momsL ps).length := Nat.le_mul_of_pos_right m (by omega)
  have h11 : (momsL ps).length ≤ m * (momsL ps).length := Nat.le_mul_of_pos_left _ (by omega)
  exact ⟨h1, h2, by omega, h4, by omega, by omega, h7⟩
theorem headD_app {a b : List Nat} (h : a ≠ []) : (a ++ b).headD 0 = a.headD 0 := by
  cases a with
  | nil => exact absurd rfl h
  | cons x r => rfl
theorem lastD_app {a b : List Nat} (h : b ≠ []) : (a ++ b).getLastD 0 = b.getLastD 0 := by
  rw [List.getLastD_eq_getLast?, List.getLastD_eq_getLast?, List.getLast?_append]
  cases hb : b.getLast? with
  | none => exact absurd (List.getLast?_eq_none_iff.mp hb) h
  | some x => rfl
theorem lastD_map {a : List Nat} (k : Nat) (h : a ≠ []) : (a.map fun n => n + k).getLastD 0 = a.getLastD 0 + k := by
  rw [List.getLastD_eq_getLast?, List.getLastD_eq_getLast?, List.getLast?_map]
  cases hb : a.getLast? with
  | none => exact absurd (List.getLast?_eq_none_iff.mp hb) h
  | some x => rfl
theorem overN_head {ns : List Nat} {s : Nat} (h : ns ≠ []) : ∀ m, 1 ≤ m → (overN ns m s).headD 0 = ns.headD 0
  | 1, _ => by
    rw [overN_succ]
    show ([] ++ ns.map fun n => n + 0 * s).headD 0 = _
    cases ns with
    | nil => exact absurd rfl h
    | cons x r => simp
  | m + 2, _ => by
    have ih := overN_head (s := s) h (m + 1) (by omega)
    have ne : overN ns (m + 1) s ≠ [] := fun z => by
      have := congrArg List.length z
      rw [overN_len] at this
      have p : 0 < ns.length := List.length_pos_iff.mpr h
      have : (m + 1) * ns.length = 0 := this
      have := Nat.mul_pos (show 0 < m + 1 by omega) p
      omega
    rw [overN_succ, headD_app ne, ih]
theorem overN_last {ns : List Nat} {m s : Nat} (h : ns ≠ []) (hm : 1 ≤ m) : (overN ns m s).getLastD 0 = ns.getLastD 0 + (m - 1) * s := by
  obtain ⟨k, rfl⟩ : ∃ k, m = k + 1 := ⟨m - 1, by omega⟩
  rw [overN_succ, lastD_app (by intro z; exact h (List.map_eq_nil_iff.mp z)), lastD_map _ h]
  rfl
theorem moms_ne {t : Tr} (h : t.ok) : t.moms ≠ [] := fun z => by
  have := pos_moms t h
  rw [z] at this
  exact absurd this (by decide)
theorem momsL_ne {ts : List Tr} (h : okL_ ts) (h0 : ts ≠ []) : momsL ts ≠ [] := fun z => by
  have h1 := len_moms h
  rw [z] at h1
  exact h0 (List.length_eq_zero_iff.mp (Nat.le_zero.mp h1))
theorem momsL_head {t : Tr} {ts : List Tr} (h : okL_ (t :: ts)) : (momsL (t :: ts)).headD 0 = t.moms.headD 0 := by
  have e : momsL (t :: ts) = t.moms ++ momsL ts := by simp [momsL]
  rw [e, headD_app (moms_ne (okL_mem h List.mem_cons_self))]
/-- rising: each behind the end of the one ahead -/
def risB (ts : List Tr) : Bool := (ts.zip (ts.drop 1)).all fun p => decide (p.1.moms.getLastD 0 < p.2.moms.headD 0)
theorem le_lastD {ns : List Nat} (h : ns.Pairwise (· < ·)) : ∀ n ∈ ns, n ≤ ns.getLastD 0 := fun n hn => by
  have h0 : ns ≠ [] := fun z => by rw [z] at hn; cases hn
  have e : ns.getLastD 0 = ns.getLast h0 := by
    rw [List.getLastD_eq_getLast?, List.getLast?_eq_some_getLast h0]
    rfl
  rw [e]
  have ec := (List.dropLast_concat_getLast h0).symm
  generalize ns.getLast h0 = z at ec
  rw [ec] at hn h
  rcases List.mem_append.mp hn with hm | hm
  · exact Nat.le_of_lt ((List.pairwise_append.mp h).2.2 n hm z (List.mem_singleton.mpr rfl))
  · rw [List.mem_singleton.mp hm]
    exact Nat.le_refl _
theorem headD_le {ns : List Nat} (h : ns.Pairwise (· < ·)) : ∀ n ∈ ns, ns.headD 0 ≤ n := fun n hn => by
  cases ns with
  | nil => cases hn
  | cons x r =>
    show x ≤ n
    rcases List.mem_cons.mp hn with rfl | hm
    · exact Nat.le_refl _
    · exact Nat.le_of_lt ((List.pairwise_cons.mp h).1 n hm)
theorem mem_overN {ns : List Nat} {m s x : Nat} : x ∈ overN ns m s ↔ ∃ t n, t < m ∧ n ∈ ns ∧ x = n + t * s := by
  unfold overN
  rw [List.mem_flatMap]
  constructor
  · rintro ⟨t, ht, h⟩
    obtain ⟨n, hn, rfl⟩ := List.mem_map.mp h
    exact ⟨t, n, List.mem_range.mp ht, hn, rfl⟩
  · rintro ⟨t, n, ht, hn, rfl⟩
    exact ⟨t, List.mem_range.mpr ht, List.mem_map.mpr ⟨n, hn, rfl⟩⟩
theorem overN_sorted {ns : List Nat} {s : Nat} (h : ns.Pairwise (· < ·)) (hs : ns.getLastD 0 < s + ns.headD 0) : ∀ m, (overN ns m s).Pairwise (· < ·)
  | 0 => .nil
  | m + 1 => by
    rw [overN_succ]
    refine List.pairwise_append.mpr ⟨overN_sorted h hs m, List.pairwise_map.mpr (h.imp fun {a b} z => by omega), fun a ha b hb => ?_⟩
    obtain ⟨t, n, ht, hn, rfl⟩ := mem_overN.mp ha
    obtain ⟨k, hk, rfl⟩ := List.mem_map.mp hb
    have h1 := le_lastD h n hn
    have h2 := headD_le h k hk
    have h3 : t * s + s ≤ m * s := by
      have := Nat.mul_le_mul_right s (show t + 1 ≤ m by omega)
      rw [Nat.add_mul, Nat.one_mul] at this
      exact this
    omega
mutual
theorem sorted_moms : ∀ {t : Tr}, t.ok → t.moms.Pairwise (· < ·)
  | .at n, _ => by
    unfold Tr.moms
    exact List.pairwise_singleton _ _
  | .ov ps m s, h => by
    unfold Tr.ok at h
    obtain ⟨_, _, _, _, h5, h6, _⟩ := h
    unfold Tr.moms
    exact overN_sorted h6 h5 m
end
theorem risB_cons {t x : Tr} {r : List Tr} (h : risB (t :: x :: r) = true) : t.moms.getLastD 0 < x.moms.headD 0 ∧ risB (x :: r) = true := by
  have h : (decide (t.moms.getLastD 0 < x.moms.headD 0) && risB (x :: r)) = true := h
  obtain ⟨h1, h2⟩ := Bool.and_eq_true_iff.mp h
  exact ⟨of_decide_eq_true h1, h2⟩
theorem ris_sorted : ∀ {ts : List Tr}, okL_ ts → risB ts = true → (momsL ts).Pairwise (· < ·)
  | [], _, _ => by
    unfold momsL
    exact .nil
  | [t], h, _ => by
    have e : momsL [t] = t.moms := by simp [momsL]
    rw [e]
    exact sorted_moms (okL_mem h List.mem_cons_self)
  | t :: x :: r, h, hr => by
    obtain ⟨h1, h2⟩ := risB_cons hr
    have hok : okL_ (x :: r) := by
      unfold okL_ at h
      exact h.2
    have ih := ris_sorted hok h2
    have e : momsL (t :: x :: r) = t.moms ++ momsL (x :: r) := by rw [momsL]
    rw [e]
    refine List.pairwise_append.mpr ⟨sorted_moms (okL_mem h List.mem_cons_self), ih, fun a ha b hb => ?_⟩
    have g1 := le_lastD (sorted_moms (okL_mem h List.mem_cons_self)) a ha
    have g2 := headD_le ih b hb
    rw [momsL_head hok] at g2
    omega
theorem lastD_mem {ns : List Nat} (h : ns ≠ []) : ns.getLastD 0 ∈ ns := by
  rw [List.getLastD_eq_getLast?, List.getLast?_eq_some_getLast h]
  exact List.getLast_mem h
theorem headD_mem {ns : List Nat} (h : ns ≠ []) : ns.headD 0 ∈ ns := by
  cases ns with
  | nil => exact absurd rfl h
  | cons x r => exact List.mem_cons_self
theorem ris_of : ∀ {ts : List Tr}, okL_ ts → (momsL ts).Pairwise (· < ·) → risB ts = true
  | [], _, _ => rfl
  | [t], _, _ => rfl
  | t :: x :: r, h, hs => by
    have hok : okL_ (x :: r) := by
      unfold okL_ at h
      exact h.2
    have e : momsL (t :: x :: r) = t.moms ++ momsL (x :: r) := by rw [momsL]
    rw [e] at hs
    obtain ⟨h1, h2, h3⟩ := List.pairwise_append.mp hs
    have ih := ris_of hok h2
    have lt := h3 _ (lastD_mem (moms_ne (okL_mem h List.mem_cons_self))) _ (headD_mem (momsL_ne hok (by simp)))
    rw [momsL_head hok] at lt
    show (decide (t.moms.getLastD 0 < x.moms.headD 0) && risB (x :: r)) = true
    rw [decide_eq_true lt, ih]
    rfl
end
section
abbrev GAP : Nat := 10 ^ 51
theorem okL_snoc {t : Tr} : ∀ {ts : List Tr}, okL_ ts → t.ok → okL_ (ts ++ [t])
  | [], _, h => by
    show okL_ [t]
    unfold okL_
    exact ⟨h, by unfold okL_; trivial⟩
  | x :: r, h, ht => by
    unfold okL_ at h
    show okL_ (x :: (r ++ [t]))
    unfold okL_
    exact ⟨h.1, okL_snoc h.2 ht⟩
theorem risB_snoc {t : Tr} : ∀ {ts : List Tr}, okL_ ts → risB ts = true → (ts ≠ [] → (momsL ts).getLastD 0 < t.moms.headD 0) → risB (ts ++ [t]) = true
  | [], _, _, _ => rfl
  | [x], h, _, hb => by
    have hb := hb (by simp)
    have e : momsL [x] = x.moms := by simp [momsL]
    rw [e] at hb
    show (decide (x.moms.getLastD 0 < t.moms.headD 0) && true) = true
    rw [decide_eq_true hb]
    rfl
  | x :: y :: r, h, hr, hb => by
    obtain ⟨h1, h2⟩ := risB_cons hr
    have hok : okL_ (y :: r) := by
      unfold okL_ at h
      exact h.2
    have e : momsL (x :: y :: r) = x.moms ++ momsL (y :: r) := by rw [momsL]
    have ih := risB_snoc hok h2 fun _ => by
      have hb := hb (by simp)
      rw [e, lastD_app (momsL_ne hok (by simp))] at hb
      exact hb
    show (decide (x.moms.getLastD 0 < y.moms.headD 0) && risB (y :: r ++ [t])) = true
    rw [decide_eq_true h1, ih]
    rfl
theorem momsL_snoc (ts : List Tr) (t : Tr) : momsL (ts ++ [t]) = momsL ts ++ t.moms := by
  have e : momsL [t] = t.moms := by simp [momsL]
  rw [momsL_app, e]
theorem at_lastN {ns : List Nat} (h : ns ≠ []) : atI (natV ns) (-1) = some (.int ((ns.getLastD 0 : Nat) : Int)) := by
  have e := List.dropLast_concat_getLast h
  have e2 : ns.getLastD 0 = ns.getLast h := by
    rw [List.getLastD_eq_getLast?, List.getLast?_eq_some_getLast h]
    rfl
  rw [e2]
  have e3 : natV ns = natV ns.dropLast ++ [.int ((ns.getLast h : Nat) : Int)] := by
    unfold natV
    rw [← List.map_singleton (f := fun n : Nat => V.int (n : Int)), ← List.map_append, e]
  rw [e3]
  exact atI_last _ _
theorem over_bound {at_ la st m' len V G : Nat} (h1 : la + 1 ≤ at_ + len * V) (h2 : st ≤ len * V + G) (hl : 1 ≤ len) : la + m' * st + 1 ≤ at_ + (m' + 1) * len * (V + G) := by
  have e1 : m' * st ≤ m' * (len * V) + m' * G := by
    rw [← Nat.mul_add]
    exact Nat.mul_le_mul_left _ h2
  have e2 : (m' + 1) * len * (V + G) = m' * (len * V) + len * V + (m' + 1) * len * G := by
    rw [Nat.mul_add, Nat.mul_assoc (m' + 1) len V, Nat.add_mul m' 1 (len * V), Nat.one_mul]
  have e3 : m' * G ≤ (m' + 1) * len * G := Nat.mul_le_mul_right _ (Nat.le_trans (Nat.le_succ _) (Nat.le_mul_of_pos_right _ hl))
  omega
end
section
theorem nestL_app (a b : List Tr) : nestL (a ++ b) = max (nestL a) (nestL b) := by
  induction a with
  | nil => simp [nestL]
  | cons t a ih => simp [nestL, ih, Nat.max_assoc]
theorem okL_one {t : Tr} (h : t.ok) : okL_ [t] := by
  unfold okL_
  exact ⟨h, by unfold okL_; trivial⟩
theorem nestL_one (t : Tr) : nestL [t] = t.nest := by simp [nestL]
theorem at_ok (n : Nat) : (Tr.at n).ok := by
  unfold Tr.ok
  trivial
theorem at_moms (n : Nat) : (Tr.at n).moms = [n] := by rw [Tr.moms]
theorem at_nest (n : Nat) : (Tr.at n).nest = 0 := by rw [Tr.nest]
theorem momsL_one (t : Tr) : momsL [t] = t.moms := by simp [momsL]
end
section
mutual
/-- at a what a law has drawn for a short, rows as lists, which stand at places that N tells -/
def LtAt (N : Addr → Prop) (H : Hp) : Tr → Addr → Prop
  | .at n, a => H a = some (.tup [.str "at", .int (n : Nat)])
  | .ov ps m s, a => ∃ r as, H a = some (.tup [.str "over", .ref r, .int (m : Nat), .int (s : Nat)]) ∧ N r ∧ H r = some (.lst (as.map V.ref)) ∧ LtsAt N H ps as
def LtsAt (N : Addr → Prop) (H : Hp) : List Tr → List Addr → Prop
  | [], as => as = []
  | t :: ts, as => ∃ a r, as = a :: r ∧ LtAt N H t a ∧ LtsAt N H ts r
end
/-- what such a thing stands in: tuples, lists of things -/
def keepsT (N M : Addr → Prop) (H H' : Hp) : Prop := (∀ b xs, H b = some (.tup xs) → H' b = some (.tup xs)) ∧ ∀ b (as : List Addr), N b → H b = some (.lst (as.map V.ref)) → M b ∧ H' b = some (.lst (as.map V.ref))
mutual
theorem LtAt.keep {N M : Addr → Prop} {H H' : Hp} (e : keepsT N M H H') : ∀ {t : Tr} {a : Addr}, LtAt N H t a → LtAt M H' t a
  | .at n, a, h => by
    unfold LtAt at h ⊢
    exact e.1 _ _ h
  | .ov ps m s, a, h => by
    unfold LtAt at h ⊢
    obtain ⟨r, as, h1, hN, h2, h3⟩ := h
    obtain ⟨g1, g2⟩ := e.2 _ _ hN h2
    exact ⟨r, as, e.1 _ _ h1, g1, g2, LtsAt.keep e h3⟩
theorem LtsAt.keep {N M : Addr → Prop} {H H' : Hp} (e : keepsT N M H H') : ∀ {ts : List Tr} {as : List Addr}, LtsAt N H ts as → LtsAt M H' ts as
  | [], as, h => by
    unfold LtsAt at h ⊢
    exact h
  | t :: ts, as, h => by
    unfold LtsAt at h ⊢
    obtain ⟨a, r, h1, h2, h3⟩ := h
    exact ⟨a, r, h1, LtAt.keep e h2, LtsAt.keep e h3⟩
end
section
variable {N M : Addr → Prop} {H H' : Hp} {t : Tr} {ts : List Tr} {a f p : Addr} {as : List Addr}
theorem keeps_ex (e : Ex H H') : keepsT N N H H' := ⟨fun b xs z => e _ _ z, fun b as n z => ⟨n, e _ _ z⟩⟩
theorem keeps_im (e : ∀ b, N b → M b) : keepsT N M H H := ⟨fun b xs z => z, fun b as n z => ⟨e _ n, z⟩⟩
theorem LtAt.mono (h : LtAt N H t a) (e : Ex H H') : LtAt N H' t a := h.keep (keeps_ex e)
theorem LtsAt.mono (h : LtsAt N H ts as) (e : Ex H H') : LtsAt N H' ts as := h.keep (keeps_ex e)
theorem LtAt.imp (h : LtAt N H t a) (e : ∀ b, N b → M b) : LtAt M H t a := h.keep (keeps_im e)
theorem LtsAt.imp (h : LtsAt N H ts as) (e : ∀ b, N b → M b) : LtsAt M H ts as := h.keep (keeps_im e)
/-- one list changes, which is none of them -/
theorem keeps_put {o : HO} {xs : List V} (hf : H f = some (.lst xs)) (n : ∀ b, N b → b ≠ f) : keepsT N N H (upd H f o) :=
  ⟨fun b xs z => by rw [upd_ne (fun w => by rw [w, hf] at z; cases z)]; exact z, fun b as nb z => ⟨nb, by rw [upd_ne (n b nb)]; exact z⟩⟩
theorem keeps_pot (hp : Pot H p) (P : PotOn H H' p) : keepsT N N H H' := by
  obtain ⟨x, y, e, _⟩ := hp
  refine ⟨fun b xs z => P.2 b _ (fun w => by rw [w, e] at z; cases z) z, fun b as n z => ⟨n, P.2 b _ (fun w => ?_) z⟩⟩
  rw [w, e] at z
  cases as with
  | nil => cases z
  | cons a r => cases z
end
theorem LtsAt.len {N : Addr → Prop} {H : Hp} : ∀ {ts : List Tr} {as : List Addr}, LtsAt N H ts as → as.length = ts.length
  | [], as, h => by
    unfold LtsAt at h
    rw [h]
    rfl
  | t :: ts, as, h => by
    unfold LtsAt at h
    obtain ⟨a, r, rfl, _, h3⟩ := h
    rw [List.length_cons, List.length_cons, LtsAt.len h3]
theorem LtsAt.get {N : Addr → Prop} {H : Hp} : ∀ {ts : List Tr} {as : List Addr} {i : Nat} {a : Addr}, LtsAt N H ts as → as[i]? = some a → ∃ t, ts[i]? = some t ∧ LtAt N H t a
  | [], as, i, a, h, hi => by
    unfold LtsAt at h
    rw [h] at hi
    cases hi
  | t :: ts, as, i, a, h, hi => by
    unfold LtsAt at h
    obtain ⟨b, r, rfl, h2, h3⟩ := h
    cases i with
    | zero =>
      cases hi
      exact ⟨t, rfl, h2⟩
    | succ i => exact LtsAt.get (i := i) h3 hi
theorem LtsAt.snoc {N : Addr → Prop} {H : Hp} {t : Tr} {a : Addr} : ∀ {ts : List Tr} {as : List Addr}, LtsAt N H ts as → LtAt N H t a → LtsAt N H (ts ++ [t]) (as ++ [a])
  | [], as, h, ha => by
    unfold LtsAt at h
    rw [h]
    show LtsAt N H [t] [a]
    unfold LtsAt
    exact ⟨a, [], rfl, ha, by unfold LtsAt; rfl⟩
  | x :: ts, as, h, ha => by
    unfold LtsAt at h
    obtain ⟨b, r, rfl, h2, h3⟩ := h
    show LtsAt N H (x :: (ts ++ [t])) (b :: (r ++ [a]))
    unfold LtsAt
    exact ⟨b, r ++ [a], rfl, h2, LtsAt.snoc h3 ha⟩
theorem lts_one {N : Addr → Prop} {H : Hp} {t : Tr} {a : Addr} (h : LtAt N H t a) : LtsAt N H [t] [a] := by
  unfold LtsAt
  exact ⟨a, [], rfl, h, by unfold LtsAt; rfl⟩
def sp__law_means (K : PySem.W.Frag) (d : Nat) : Sp := fun vs H Q _ => ∃ (N : Addr → Prop) (p : Addr) (as : List Addr) (ts : List Tr), vs = [.ref p] ∧ H p = some (.lst (as.map V.ref)) ∧ LtsAt N H ts as ∧ nestL ts + 1 ≤ d ∧ okL_ ts ∧ (momsL ts).length ≤ 2000 ∧ ∀ t H', Ex H H' → H t = none → H' t = some (.lst (natV (momsL ts))) → Q (.ref t) H'
abbrev PartW (deep : Nat) : Nat := (2 * (4 - deep) + 1) * GAP
def sp__law_part (K : PySem.W.Frag) (d : Nat) : Sp := fun vs H Q _ => ∃ (p : Addr) (deep room : Nat), vs = [.ref p, .int (deep : Nat), .int (room : Nat)] ∧ Pot H p ∧ deep ≤ 4 ∧ 5 ≤ deep + d ∧ 1 ≤ room ∧ room ≤ 40 ∧ ∀ (a : Addr) (t : Tr) H', LtAt (fun r => H r = none) H' t a → t.ok → t.nest + deep ≤ 4 → t.moms.headD 0 = 0 → t.moms.length ≤ room → t.moms.getLastD 0 + 1 ≤ t.moms.length * PartW deep → PotOn H H' p → Q (.ref a) H'
def sp__law_parts (K : PySem.W.Frag) (d : Nat) : Sp := fun vs H Q _ => ∃ (p : Addr) (deep room : Nat), vs = [.ref p, .int (deep : Nat), .int (room : Nat)] ∧ Pot H p ∧ deep ≤ 4 ∧ 5 ≤ deep + d ∧ 1 ≤ room ∧ room ≤ 40 ∧ ∀ (r : Addr) (as : List Addr) (ts : List Tr) H', H r = none → H' r = some (.lst (as.map V.ref)) → LtsAt (fun b => H b = none ∧ b ≠ r) H' ts as → ts ≠ [] → okL_ ts → nestL ts + deep ≤ 4 → risB ts = true → (momsL ts).headD 0 = 0 → (momsL ts).length ≤ room → (momsL ts).getLastD 0 + 1 ≤ (momsL ts).length * (PartW deep + GAP) → PotOn H H' p → Q (.ref r) H'
end
section
theorem fb__law_means {P : Program} {w : World} {K : PySem.W.Frag} {mg : Str → Option Value} {base : Heap} (T : Env K mg) {d L : Nat} (hL : 40 ≤ L) (r__law_means : Fc P w K mg base L (He.ga K "_law_means") [] (sp__law_means K d)) : ∃ fd, FunD K "_law_means" "_law_means" (defArgs s__law_means) (defBody s__law_means) (defScope s__law_means) [] [] (He.ga K "_law_means") fd ∧ Fb P w K mg base (L + 1) (He.ga K "_law_means") fd ["_law_parts_here"] (sp__law_means K (d + 1)) := by
  obtain ⟨fd, F⟩ := T.f__law_means
  refine ⟨fd, F, fb_of F sc__law_means (fun vs H Q E h => ?_) (fun cdv A outer s H vs Q E hr h => ?_)⟩
  · obtain ⟨N, p, as, ts, rfl, _⟩ := h
    rfl
  · obtain ⟨N, p, as, ts, rfl, hp, hA, hn, hok, hl, q⟩ := h
    refine ⟨_, (pss_cons (ps_set (i := 1) sc__law_means.nd rfl (Or.inl rfl) (pe_lst pa_nil))
      (pss_cons (ps_for (passes_of rfl) rfl (pi_list (pv 0)) (pg_name (i := 2) sc__law_means.nd rfl (Or.inr rfl))
      (pss_one (ps_if (pt_cmpR op_eq (pe_ix ix_tup (pv 2) pe_int (fun _ _ => rfl)) pe_str (nomark _))
      (pss_one (ps_expr (pe_bm PySem.F.plainAttrs_list PySem.F.slot_list_append PySem.F.type_list_append mt_append (pv 1) (pa_cons (pe_ix ix_tup (pv 2) pe_int (fun _ _ => rfl)) pa_nil))))
      (pss_cons (ps_set (i := 3) sc__law_means.nd rfl (Or.inl rfl) (c_call r__law_means (hr.mono (by omega)) T.g__law_means T.k__law_means takes0 (pa_cons (pe_ix ix_tup (pv 2) pe_int (fun _ _ => rfl)) pa_nil)))
      (pss_one (ps_for (passes_of rfl) rfl (pi_range1 (by rfl) T.n_range (pa_cons (pe_ix ix_tup (pv 2) pe_int (fun _ _ => rfl)) pa_nil)) (pg_name (i := 4) sc__law_means.nd rfl (Or.inr rfl))
      (pss_one (ps_set (i := 1) sc__law_means.nd rfl (Or.inl rfl) (pe_op op_cat (pv 1) (pe_lc (own := [("_law_moment", 5)]) (by rfl) sc__law_means.nd (pi_list (pv 3)) (blkOk_by (own := [("_law_moment", 5)]) (N := ["_law_parts_here", "_law_found", "_law_part_here", "_law_inner", "_law_k", "_law_moment"]) (sc := defScope s__law_means) (by decide +kernel)) (fun _ _ _ _ _ => (pg_name (i := 5) sc__law_means.nd rfl (Or.inl rfl))) (fun _ _ _ _ _ => pts_nil) (fun _ _ _ _ _ => (pe_op op_add (pv 5) (pe_op op_mul (pv 4) (pe_ix (ix_tupK K) (pv 2) pe_int (fun _ _ => rfl)))))))))))))))
      (pss_one (ps_ret (pv 1))))), ?_⟩
    refine ⟨by show 0 ≤ sizeLine; decide, fun f nf => ?_⟩
    have X0 := ex_new (o := .lst []) nf
    have hl1 := hA.len
    refine ⟨_, rfl, p, rfl, ⟨_, sq_lst (X0 _ _ hp)⟩, for_on as V.ref L2.walk_list (fun i σ H' => Ex H H' ∧ ∃ f v2 v3 v4 v5, H f = none ∧ σ = [some (.ref p), some (.ref f), v2, v3, v4, v5] ∧ H' f = some (.lst (natV (momsL (ts.take i))))) ⟨X0, _, _, _, _, _, nf, rfl, upd_same⟩ (fun i σ H' z => sq_lst (z.1 _ _ hp)) ?_ ?_⟩
    · rintro i a σ H2 hx ⟨X2, f, v2, v3, v4, v5, nf, rfl, hf⟩
      obtain ⟨t, ht, hS⟩ := hA.get hx
      have htm := List.mem_of_getElem? ht
      have eT := momsL_take ht
      have bT := momsL_take_len ts (i + 1)
      rw [eT, List.length_append] at bT
      have hS2 := hS.mono X2
      have hok1 := okL_mem hok htm
      have nm := nestL_mem htm
      cases t with
      | «at» n =>
        unfold LtAt at hS2
        refine ⟨_, rfl, _, _, _, _, rfl, rfl, (sq_tup hS2), rfl, rfl, _, rfl, ?_⟩
        refine iteT ?_
        refine ⟨_, rfl, (.inl ⟨rfl, ⟨_, (sq_lst hf)⟩⟩), _, rfl, _, _, _, _, rfl, rfl, (sq_tup hS2), rfl, _, _, _, rfl, rfl, hf, ?_⟩
        refine ⟨sz_lt (by rw [natV_len]; omega), ex_mut X2 nf, f, _, _, _, _, nf, rfl, ?_⟩
        rw [upd_same, eT, at_moms]
        unfold natV
        rw [List.map_append]
        rfl
      | ov ps m s_ =>
        unfold LtAt at hS2
        obtain ⟨r, bs, hS2, hN, hr2, hB⟩ := hS2
        refine ⟨_, rfl, _, _, _, _, rfl, rfl, (sq_tup hS2), rfl, rfl, _, rfl, ?_⟩
        refine iteF ?_
        obtain ⟨o1, m2, hm, hml, hl2, hpl, hokL⟩ := ov_facts hok1
        refine ⟨_, rfl, _, _, _, _, rfl, rfl, (sq_tup hS2), rfl, _, _, _, _, rfl, hr2, hB, by rw [Tr.nest] at nm; omega, hokL, by omega, fun u H3 X3 nu hu => ?_⟩
        rw [Tr.moms] at eT bT
        generalize momsL ps = ns at *
        have X03 := X2.trans X3
        have hS3 := X3 _ _ hS2
        have hf3 := X3 _ _ hf
        refine ⟨_, rfl, _, _, _, _, rfl, rfl, (sq_tup hS3), rfl, _, rfl, (by omega), (by omega), ?_⟩
        refine for_range (fun j σ H' => Ex H H' ∧ Ex H3 H' ∧ ∃ f v4 v5, H f = none ∧ σ = [some (.ref p), some (.ref f), some (.ref a), some (.ref u), v4, v5] ∧ H' f = some (.lst (natV (momsL (ts.take i) ++ overN ns j s_)))) ⟨X03, .refl _, f, _, _, nf, rfl, by simpa [overN] using hf3⟩ ?_ ?_
        · rintro j σ H4 hj ⟨X4, X34, f4, v4', v5', nf4, rfl, hf4⟩
          have hS4 := X34 _ _ hS3
          have hu4 := X34 _ _ hu
          refine ⟨_, rfl, _, rfl, _, rfl, ⟨_, (sq_lst hu4)⟩, ?_⟩
          have ll : (overN ns j s_).length = j * ns.length := overN_len ns j s_
          have l2 : j * ns.length ≤ m * ns.length := Nat.mul_le_mul_right _ (by omega)
          have l3 : (overN ns m s_).length = m * ns.length := overN_len ns m s_
          intro A nA
          refine lc_on ns (fun n : Nat => V.int n) L2.walk_list (fun n => some (.int ((n + j * s_ : Nat) : Int))) (fun H' => Ex H4 H') (fun H' z e => ex_mut e nA) (.refl _) (by omega) (fun H' e => sq_lst (e _ _ hu4)) (fun y n H5 acc N hn X5 hD la k => ?_) fun H5 X5 d5 => ?_
          · have hS5 := X5 _ _ hS4
            refine ⟨rfl, _, rfl, _, rfl, _, rfl, a, _, _, _, rfl, rfl, sq_tup hS5, rfl, _, _, rfl, rfl, .inl ⟨by omega, by omega⟩, _, _, rfl, rfl, acc, hD, la, ?_⟩
            have e : ((n : Nat) : Int) + (0 + ((j : Nat) : Int)) * ((s_ : Nat) : Int) = ((n + j * s_ : Nat) : Int) := by simp
            show N (upd H5 A (.lst (acc ++ [.int (((n : Nat) : Int) + (0 + ((j : Nat) : Int)) * ((s_ : Nat) : Int))])))
            rw [e]
            exact k H5 X5 hD
          · have ed : ns.filterMap (fun n => some (V.int ((n + j * s_ : Nat) : Int))) = natV (ns.map fun n => n + j * s_) := by
              unfold natV
              rw [List.filterMap_eq_map', List.map_map]
              rfl
            rw [ed] at d5
            refine ⟨f4, A, _, _, rfl, rfl, X5 _ _ hf4, d5, sz_le (by rw [natV_len, natV_len, List.length_map, List.length_append, ll]; omega), fun g ng => ?_⟩
            have X6 := X5.trans (ex_new (o := .lst (natV (momsL (ts.take i) ++ overN ns j s_) ++ natV (ns.map fun n => n + j * s_))) ng)
            refine ⟨X4.trans X6, X34.trans X6, g, _, _, ex_fresh (X4.trans X5) ng, rfl, ?_⟩
            rw [upd_same, overN_succ]
            unfold natV
            rw [← List.map_append, List.append_assoc]
        · rintro σ H4 ⟨X4, X34, f4, v4', v5', nf4, rfl, hf4⟩
          rw [show ((m : Nat) : Int).toNat = m by omega] at hf4
          exact ⟨X4, f4, _, _, _, _, nf4, rfl, by rw [eT]; exact hf4⟩
    · rintro σ H2 ⟨X2, f, v2, v3, v4, v5, nf, rfl, hf⟩
      rw [List.take_of_length_le (by omega)] at hf
      exact ⟨_, rfl, q f H2 X2 nf hf⟩
theorem ok__law_means {P : Program} {w : World} {K : PySem.W.Frag} {mg : Str → Option Value} {base : Heap} (T : Env K mg) {d L : Nat} (hL : 40 ≤ L) (r__law_means : Fc P w K mg base L (He.ga K "_law_means") [] (sp__law_means K d)) : Fc P w K mg base (L + 1) (He.ga K "_law_means") [] (sp__law_means K (d + 1)) := by
  obtain ⟨fd, D, F⟩ := fb__law_means T hL r__law_means
  exact F.all (D.bindsN fun _ _ _ _ _ _ us hl => match us, hl with | [_], _ => rfl)
theorem all__law_means {P : Program} {w : World} {K : PySem.W.Frag} {mg : Str → Option Value} {base : Heap} (T : Env K mg) : ∀ d, Fc P w K mg base (40 + 1 * d) (He.ga K "_law_means") [] (sp__law_means K d)
  | 0 => fc_no fun vs H Q E h => by
    obtain ⟨_, _, _, _, _, _, _, h, _⟩ := h
    omega
  | d + 1 => ok__law_means T (Nat.le_add_right 40 _) (all__law_means T d)
end
section
mutual
/-- so much later -/
def Tr.shift (k : Nat) : Tr → Tr
  | .at n => .at (n + k)
  | .ov ps m s => .ov (shiftL k ps) m s
def shiftL (k : Nat) : List Tr → List Tr
  | [] => []
  | t :: ts => t.shift k :: shiftL k ts
end
theorem shiftL_map (k : Nat) (ts : List Tr) : shiftL k ts = ts.map (Tr.shift k) := by
  induction ts with
  | nil => rw [shiftL]; rfl
  | cons t r ih => rw [shiftL, ih]; rfl
theorem overN_shift (ns : List Nat) (m s k : Nat) : overN (ns.map fun n => n + k) m s = (overN ns m s).map fun n => n + k := by
  unfold overN
  rw [List.map_flatMap]
  congr 1
  funext t
  rw [List.map_map, List.map_map]
  apply List.map_congr_left
  intro n _
  show n + k + t * s = n + t * s + k
  omega
mutual
theorem moms_shift (k : Nat) : ∀ t : Tr, (t.shift k).moms = t.moms.map fun n => n + k
  | .at n => by rw [Tr.shift, at_moms, at_moms]; rfl
  | .ov ps m s => by rw [Tr.shift, Tr.moms, Tr.moms, momsL_shift k ps, overN_shift]
theorem momsL_shift (k : Nat) : ∀ ts : List Tr, momsL (shiftL k ts) = (momsL ts).map fun n => n + k
  | [] => by rw [shiftL, momsL]; rfl
  | t :: ts => by rw [shiftL, momsL, momsL, moms_shift k t, momsL_shift k ts, List.map_append]
end
mutual
theorem nest_shift (k : Nat) : ∀ t : Tr, (t.shift k).nest = t.nest
  | .at n => by rw [Tr.shift, at_nest, at_nest]
  | .ov ps m s => by rw [Tr.shift, Tr.nest, Tr.nest, nestL_shift k ps]
theorem nestL_shift (k : Nat) : ∀ ts : List Tr, nestL (shiftL k ts) = nestL ts
  | [] => by rw [shiftL]
  | t :: ts => by rw [shiftL, nestL, nestL, nest_shift k t, nestL_shift k ts]
end
theorem headD_map {a : List Nat} (k : Nat) (h : a ≠ []) : (a.map fun n => n + k).headD 0 = a.headD 0 + k := by
  cases a with
  | nil => exact absurd rfl h
  | cons x r => rfl
mutual
theorem ok_shift (k : Nat) : ∀ t : Tr, t.ok → (t.shift k).ok
  | .at n, _ => by rw [Tr.shift]; exact at_ok _
  | .ov ps m s, h => by
    unfold Tr.ok at h
    obtain ⟨h1, h2, h3, h4, h5, h6, h7⟩ := h
    have nn := momsL_ne h7 h1
    rw [Tr.shift]
    unfold Tr.ok
    rw [momsL_shift, List.length_map, lastD_map k nn, headD_map k nn]
    exact ⟨by rw [shiftL_map]; simpa using h1, h2, h3, h4, by omega, List.pairwise_map.mpr (h6.imp fun h => by omega), okL_shift k ps h7⟩
theorem okL_shift (k : Nat) : ∀ ts : List Tr, okL_ ts → okL_ (shiftL k ts)
  | [], _ => by rw [shiftL]; unfold okL_; trivial
  | t :: ts, h => by
    unfold okL_ at h
    rw [shiftL]
    unfold okL_
    exact ⟨ok_shift k t h.1, okL_shift k ts h.2⟩
end
end
section
def sp__law_moved (K : PySem.W.Frag) (d : Nat) : Sp := fun vs H Q _ => ∃ (N : Addr → Prop) (b : Addr) (t : Tr) (by_ : Nat), vs = [.ref b, .int (by_ : Nat)] ∧ LtAt N H t b ∧ t.nest + 1 ≤ d ∧ t.ok ∧ ∀ a H', Ex H H' → H a = none → LtAt (fun r => H r = none) H' (t.shift by_) a → Q (.ref a) H'
theorem fb__law_moved {P : Program} {w : World} {K : PySem.W.Frag} {mg : Str → Option Value} {base : Heap} (T : Env K mg) {d L : Nat} (hL : 40 ≤ L) (r__law_moved : Fc P w K mg base L (He.ga K "_law_moved") [] (sp__law_moved K d)) : ∃ fd, FunD K "_law_moved" "_law_moved" (defArgs s__law_moved) (defBody s__law_moved) (defScope s__law_moved) [] [] (He.ga K "_law_moved") fd ∧ Fb P w K mg base (L + 1) (He.ga K "_law_moved") fd ["_law_part_here", "_law_by"] (sp__law_moved K (d + 1)) := by
  obtain ⟨fd, F⟩ := T.f__law_moved
  refine ⟨fd, F, fb_of F sc__law_moved (fun vs H Q E h => ?_) (fun cdv A outer s H vs Q E hr h => ?_)⟩
  · obtain ⟨N, b, t, by_, rfl, _⟩ := h
    rfl
  · obtain ⟨N, b, t, by_, rfl, hS2, hn, hok, q⟩ := h
    refine ⟨_, (pss_cons (ps_if (pt_cmpR op_eq (pe_ix ix_tup (pv 0) pe_int (fun _ _ => rfl)) pe_str (nomark _))
      (pss_one (ps_ret (pe_tup (pa_cons pe_str (pa_cons (pe_op op_add (pe_ix ix_tup (pv 0) pe_int (fun _ _ => rfl)) (pv 1)) pa_nil)))))
      pss_nil)
      (pss_one (ps_ret (pe_tup (pa_cons pe_str (pa_cons (pe_lc (own := [("_law_one", 2)]) (by rfl) sc__law_moved.nd (pi_list (pe_ix ix_tup (pv 0) pe_int (fun _ _ => rfl))) (blkOk_by (own := [("_law_one", 2)]) (N := ["_law_part_here", "_law_by", "_law_one"]) (sc := defScope s__law_moved) (by decide +kernel)) (fun _ _ _ _ _ => (pg_name (i := 2) sc__law_moved.nd rfl (Or.inl rfl))) (fun _ _ _ _ _ => pts_nil) (fun _ _ _ _ _ => (c_call r__law_moved (hr.mono (by omega)) T.g__law_moved T.k__law_moved takes0 (pa_cons (pv 2) (pa_cons (pv 1) pa_nil))))) (pa_cons (pe_ix ix_tup (pv 0) pe_int (fun _ _ => rfl)) (pa_cons (pe_ix ix_tup (pv 0) pe_int (fun _ _ => rfl)) pa_nil)))))))), ?_⟩
    cases t with
    | «at» n =>
      unfold LtAt at hS2
      refine ⟨_, rfl, _, _, _, _, rfl, rfl, (sq_tup hS2), rfl, rfl, _, rfl, ?_⟩
      refine iteT ?_
      refine ⟨_, rfl, _, _, _, _, rfl, rfl, (sq_tup hS2), rfl, _, rfl, _, _, rfl, rfl, (by show 2 ≤ sizeLine; decide), ?_⟩
      intro a na
      refine q a _ (ex_new na) na ?_
      rw [Tr.shift]
      unfold LtAt
      rw [upd_same]
      rfl
    | ov ps m s_ =>
      unfold LtAt at hS2
      obtain ⟨r, bs, hS2, hN, hr2, hB⟩ := hS2
      obtain ⟨o1, m2, hm, hml, hl2, hpl, hokL⟩ := ov_facts hok
      have hl1 := hB.len
      refine ⟨_, rfl, _, _, _, _, rfl, rfl, (sq_tup hS2), rfl, rfl, _, rfl, ?_⟩
      refine iteF ?_
      refine ⟨_, rfl, _, _, _, _, rfl, rfl, (sq_tup hS2), rfl, _, rfl, ⟨_, (sq_lst hr2)⟩, ?_⟩
      refine fun A nA => lc_any (L2.walk_list (K := K) (a := r) (xs := bs.map V.ref)) (fun i acc G => Ex H G ∧ (G A = none ∨ ∃ xs, G A = some (.lst xs)) ∧ ∃ as, acc = as.map V.ref ∧ LtsAt (fun b => H b = none ∧ b ≠ A) G ((shiftL by_ ps).take i) as) (fun i acc G z e => ?_) ⟨.refl _, .inl nA, [], rfl, by unfold LtsAt; rfl⟩ (by rw [List.length_map]; omega) (fun i acc G e => ?_) (fun i acc G e => sq_lst (e.1 _ _ hr2)) (fun i x G G' acc N hi e hA la y k _ => ?_) (fun acc G e hA => ?_)
      · obtain ⟨e1, e2, as, e3, e4⟩ := e
        refine ⟨ex_mut e1 nA, .inr ⟨_, upd_same⟩, as, e3, ?_⟩
        rcases e2 with e2 | ⟨xs, e2⟩
        · exact e4.mono (ex_new e2)
        · exact e4.keep (keeps_put e2 fun b nb => nb.2)
      · obtain ⟨_, _, as, rfl, e4⟩ := e
        rw [List.length_map, e4.len, List.length_take]
        omega
      · obtain ⟨rfl, y⟩ := y
        obtain ⟨XG, _, as, rfl, h1⟩ := e
        rw [List.getElem?_map] at y
        obtain ⟨c, hc, rfl⟩ := Option.map_eq_some_iff.mp y
        obtain ⟨t, ht, hDt⟩ := hB.get hc
        have htm := List.mem_of_getElem? ht
        have nm := nestL_mem htm
        rw [Tr.nest] at hn
        refine ⟨rfl, _, rfl, _, rfl, _, c, t, by_, rfl, hDt.mono XG, by omega, okL_mem hokL htm, fun a2 G2 X2 na2 hS3 => ⟨_, X2 _ _ hA, la, ?_⟩⟩
        refine k _ G2 (X2 _ _ hA) ⟨XG.trans X2, .inr ⟨_, X2 _ _ hA⟩, as ++ [a2], by rw [List.map_append]; rfl, ?_⟩
        rw [take_snoc (x := t.shift by_) (by rw [shiftL_map, List.getElem?_map, ht]; rfl)]
        exact (h1.mono X2).snoc (hS3.imp fun b nb => ⟨ex_fresh XG nb, fun z => by rw [z, hA] at nb; cases nb⟩)
      · obtain ⟨XG, _, as, rfl, hSh⟩ := e
        rw [List.length_map, hl1, List.take_of_length_le (by rw [shiftL_map, List.length_map]; omega)] at hSh
        have hS4 := XG _ _ hS2
        refine ⟨_, rfl, _, _, _, _, rfl, rfl, (sq_tup hS4), rfl, _, rfl, _, _, _, _, rfl, rfl, (sq_tup hS4), rfl, (by show 4 ≤ sizeLine; decide), ?_⟩
        intro a na
        have X5 := ex_new (o := .tup [.str "over", .ref A, .int (m : Nat), .int (s_ : Nat)]) na
        refine q a _ (XG.trans X5) (ex_fresh XG na) ?_
        rw [Tr.shift]
        unfold LtAt
        exact ⟨A, as, upd_same, nA, X5 _ _ hA, (hSh.imp fun b nb => nb.1).mono X5⟩
theorem ok__law_moved {P : Program} {w : World} {K : PySem.W.Frag} {mg : Str → Option Value} {base : Heap} (T : Env K mg) {d L : Nat} (hL : 40 ≤ L) (r__law_moved : Fc P w K mg base L (He.ga K "_law_moved") [] (sp__law_moved K d)) : Fc P w K mg base (L + 1) (He.ga K "_law_moved") [] (sp__law_moved K (d + 1)) := by
  obtain ⟨fd, D, F⟩ := fb__law_moved T hL r__law_moved
  exact F.all (D.bindsN fun _ _ _ _ _ _ us hl => match us, hl with | [_, _], _ => rfl)
theorem all__law_moved {P : Program} {w : World} {K : PySem.W.Frag} {mg : Str → Option Value} {base : Heap} (T : Env K mg) : ∀ d, Fc P w K mg base (40 + 1 * d) (He.ga K "_law_moved") [] (sp__law_moved K d)
  | 0 => fc_no fun vs H Q E h => by
    obtain ⟨_, _, _, _, _, _, h, _⟩ := h
    omega
  | d + 1 => ok__law_moved T (Nat.le_add_right 40 _) (all__law_moved T d)
end
section
theorem fb__law_parts {P : Program} {w : World} {K : PySem.W.Frag} {mg : Str → Option Value} {base : Heap} (T : Env K mg) {d L : Nat} (hL : 60 ≤ L) (r__law_part : Fc P w K mg base L (He.ga K "_law_part") [] (sp__law_part K d)) : ∃ fd, FunD K "_law_parts" "_law_parts" (defArgs s__law_parts) (defBody s__law_parts) (defScope s__law_parts) [] [] (He.ga K "_law_parts") fd ∧ Fb P w K mg base (L + 1) (He.ga K "_law_parts") fd ["_law_pot_here", "_law_deep", "_law_room"] (sp__law_parts K (d)) := by
  obtain ⟨fd, F⟩ := T.f__law_parts
  refine ⟨fd, F, fb_of F sc__law_parts (fun vs H Q E h => ?_) (fun cdv A outer s H vs Q E hr h => ?_)⟩
  · obtain ⟨p, deep, room, rfl, _⟩ := h
    rfl
  · obtain ⟨p, deep, room, rfl, hp, d4, dd, r1, r40, q⟩ := h
    refine ⟨_, (pss_cons (ps_set (i := 3) sc__law_parts.nd rfl (Or.inl rfl) (pe_lst pa_nil))
      (pss_cons (ps_set (i := 4) sc__law_parts.nd rfl (Or.inl rfl) pe_int)
      (pss_cons (ps_for (passes_of rfl) rfl (pi_range1 (by rfl) T.n_range (pa_cons (pe_op op_add pe_int (c_call (ok__law_draw T) (hr.mono (by omega)) T.g__law_draw T.k__law_draw takes0 (pa_cons (pv 0) (pa_cons pe_int pa_nil)))) pa_nil)) (pg_name (i := 5) sc__law_parts.nd rfl (Or.inl rfl))
      (pss_cons (ps_set (i := 6) sc__law_parts.nd rfl (Or.inl rfl) (pe_op op_sub (pv 2) (pe_callB call_len (by rfl) T.n_len (by decide +kernel) (pa_cons (c_call (all__law_means T 9) (hr.mono (by omega)) T.g__law_means T.k__law_means takes0 (pa_cons (pv 3) pa_nil)) pa_nil))))
      (pss_one (ps_if (pt_cmpR op_gt (pv 6) pe_int (nomark _))
      (pss_cons (ps_expr (pe_bm PySem.F.plainAttrs_list PySem.F.slot_list_append PySem.F.type_list_append mt_append (pv 3) (pa_cons (c_call (all__law_moved T 9) (hr.mono (by omega)) T.g__law_moved T.k__law_moved takes0 (pa_cons (c_call r__law_part (hr.mono (by omega)) T.g__law_part T.k__law_part takes0 (pa_cons (pv 0) (pa_cons (pv 1) (pa_cons (pv 6) pa_nil)))) (pa_cons (pv 4) pa_nil))) pa_nil)))
      (pss_one (ps_set (i := 4) sc__law_parts.nd rfl (Or.inl rfl) (pe_op op_add (pe_op op_add (pe_ix ix_list (c_call (all__law_means T 9) (hr.mono (by omega)) T.g__law_means T.k__law_means takes0 (pa_cons (pv 3) pa_nil)) (pe_un un_neg pe_int) (fun _ _ => rfl)) pe_int) (c_call (ok__law_gap T) (hr.mono (by omega)) T.g__law_gap T.k__law_gap takes0 (pa_cons (pv 0) pa_nil))))))
      pss_nil))))
      (pss_one (ps_ret (pv 3)))))), ?_⟩
    refine ⟨by show 0 ≤ sizeLine; decide, fun f nf => ?_⟩
    have P0 := PotOn.refl hp
    have fp := pot_ne P0 nf
    have P1 := pot_new (o := .lst []) P0 nf
    have hf1 : upd H f (.lst []) f = some (.lst (([] : List Addr).map V.ref)) := upd_same
    generalize upd H f (.lst []) = H1 at P1 hf1 ⊢
    have hp1 := P1.1
    refine ⟨_, rfl, _, _, rfl, hp1, (by decide), (by decide), ?_⟩
    intro e H2 e0 e3 P2
    obtain ⟨e, rfl⟩ := Int.eq_ofNat_of_zero_le e0
    have P12 := P1.trans P2
    have hf2 := P2.2 _ _ fp hf1
    refine ⟨_, _, rfl, rfl, _, rfl, (by omega), (by omega), ?_⟩
    refine for_range (fun i σ H' => PotOn H H' p ∧ ∃ (as : List Addr) (ts : List Tr) (begin_ : Nat) (v5 v6 : Option V), H' f = some (.lst (as.map V.ref)) ∧ LtsAt (fun b => H b = none ∧ b ≠ f) H' ts as ∧ okL_ ts ∧ nestL ts + deep ≤ 4 ∧ risB ts = true ∧ (i = 0 → ts = []) ∧ (ts = [] → i = 0 ∧ begin_ = 0) ∧ (ts ≠ [] → (momsL ts).headD 0 = 0 ∧ (momsL ts).getLastD 0 < begin_ ∧ (momsL ts).getLastD 0 + 1 ≤ (momsL ts).length * (PartW deep + GAP)) ∧ begin_ ≤ (momsL ts).length * (PartW deep + GAP) ∧ (momsL ts).length ≤ room ∧ σ = [some (.ref p), some (.int (deep : Nat)), some (.int (room : Nat)), some (.ref f), some (.int (begin_ : Nat)), v5, v6]) ⟨P12, [], [], 0, none, none, hf2, by unfold LtsAt; rfl, by unfold okL_; trivial, by rw [nestL]; omega, rfl, fun _ => rfl, fun _ => ⟨rfl, rfl⟩, fun z => absurd rfl z, by omega, by rw [momsL]; exact Nat.zero_le _, rfl⟩ ?_ ?_
    · rintro i σ H3 hi ⟨P3, as, ts, bg, v5, v6, hf3, hA3, hok, hne, hri, hi0, hnil, hfa, hbg, hlen, rfl⟩
      have hp3 := P3.1
      have fH : H f = none := nf
      have hl1 := hA3.len
      have hn9 : nestL ts + 1 ≤ 9 := by omega
      have hl2 : (momsL ts).length ≤ 2000 := by omega
      refine ⟨_, rfl, _, rfl, _, _, _, _, rfl, hf3, hA3, hn9, hok, hl2, ?_⟩
      intro u H4 X4 nu hu
      have P4 := P3.ex2 X4
      have hf4 := X4 _ _ hf3
      have hA4 := hA3.mono X4
      refine ⟨_, _, rfl, (.inl ⟨_, ⟨(sq_lst hu), rfl⟩⟩), _, _, rfl, rfl, _, rfl, _, _, rfl, rfl, _, rfl, ?_⟩
      try dsimp only [tNil]
      rw [natV_len]
      refine ite2 (fun c => ?_) (fun c => ?_)
      · have c2 : (0 : Int) < (room : Nat) - ((momsL ts).length : Nat) := of_decide_eq_true c
        have el : ((room : Nat) : Int) - ((momsL ts).length : Nat) = ((room - (momsL ts).length : Nat) : Int) := by omega
        rw [el]
        obtain ⟨left, hleft⟩ : ∃ l, l = room - (momsL ts).length := ⟨_, rfl⟩
        rw [← hleft]
        have hp4 := P4.1
        refine ⟨_, rfl, (.inl ⟨rfl, ⟨_, (sq_lst hf4)⟩⟩), _, rfl, _, rfl, _, rfl, _, _, _, rfl, hp4, d4, dd, (by omega), (by omega), ?_⟩
        intro a t H5 hT htok htn hth htl htb P5
        have P35 := P4.trans P5
        have hf5 := P5.2 _ _ fp hf4
        have hA5 := hA4.keep (keeps_pot hp4 P5)
        have tn9 : t.nest + 1 ≤ 9 := by omega
        have nf3 : ∀ b, H4 b = none → H b = none ∧ b ≠ f := fun b nb => ⟨P4.fresh nb, fun z => by rw [z, hf4] at nb; cases nb⟩
        refine ⟨_, rfl, _, _, _, _, rfl, hT, tn9, htok, ?_⟩
        intro a2 H6 X6 na2 hT6
        have P6 := P35.ex2 X6
        have hf6 := X6 _ _ hf5
        have hA6 := hA5.mono X6
        have hT6' : LtAt (fun b => H b = none ∧ b ≠ f) H6 (t.shift bg) a2 := hT6.imp fun b nb => ⟨P35.fresh nb, fun z => by rw [z, hf5] at nb; cases nb⟩
        have hz : (as.map V.ref).length < sizeLine := sz_lt (by rw [List.length_map, hl1]; have := len_moms hok; omega)
        have P7 := pot_upd (o := .lst (as.map V.ref ++ [.ref a2])) P6 nf fp
        have hf7 : upd H6 f (.lst (as.map V.ref ++ [.ref a2])) f = some (.lst ((as ++ [a2]).map V.ref)) := by rw [upd_same, List.map_append]; rfl
        have hA7 : LtsAt (fun b => H b = none ∧ b ≠ f) (upd H6 f (.lst (as.map V.ref ++ [.ref a2]))) (ts ++ [t.shift bg]) (as ++ [a2]) := (hA6.snoc hT6').keep (keeps_put hf6 fun b nb => nb.2)
        refine ⟨_, _, _, rfl, rfl, hf6, hz, _, rfl, _, _, _, _, rfl, hf7, hA7, ?_⟩
        try dsimp only [tNil]
        generalize upd H6 f (.lst (as.map V.ref ++ [.ref a2])) = H7 at P7 hf7 hA7 ⊢
        have tok' := ok_shift bg t htok
        have okS : okL_ (ts ++ [t.shift bg]) := okL_snoc hok tok'
        have nsS : nestL (ts ++ [t.shift bg]) + deep ≤ 4 := by rw [nestL_app, nestL_one, nest_shift]; omega
        have lenS : (momsL (ts ++ [t.shift bg])).length = (momsL ts).length + t.moms.length := by rw [momsL_snoc, List.length_append, moms_shift, List.length_map]
        have mt := moms_ne htok
        have lastS : (momsL (ts ++ [t.shift bg])).getLastD 0 = t.moms.getLastD 0 + bg := by rw [momsL_snoc, lastD_app (moms_ne tok'), moms_shift, lastD_map bg mt]
        have tneS : ts ++ [t.shift bg] ≠ [] := by simp
        have B1 := pos_moms t htok
        have headT : (t.shift bg).moms.headD 0 = bg := by rw [moms_shift, headD_map bg mt, hth, Nat.zero_add]
        have headS : (momsL (ts ++ [t.shift bg])).headD 0 = 0 := by
          by_cases t0 : ts = []
          · subst t0
            rw [momsL_snoc]
            show (t.shift bg).moms.headD 0 = 0
            rw [headT]
            exact (hnil rfl).2
          · rw [momsL_snoc, headD_app (momsL_ne hok t0)]
            exact (hfa t0).1
        have risS : risB (ts ++ [t.shift bg]) = true := risB_snoc hok hri fun z => by rw [headT]; exact (hfa z).2.1
        have nnS := momsL_ne okS tneS
        have hw := at_lastN nnS
        refine ⟨by omega, okS, by omega, fun w H8 X8 nw hw8 => ?_⟩
        have P8 := P7.ex2 X8
        have hp8 := P8.1
        refine ⟨_, rfl, _, _, _, _, rfl, rfl, (sq_lst hw8), hw, _, _, rfl, rfl, _, rfl, _, rfl, hp8, ?_⟩
        intro g H9 hg P9
        refine ⟨_, _, rfl, rfl, ?_⟩
        try dsimp only [tNil]
        have eM : ((momsL ts).length + t.moms.length) * (PartW deep + GAP) = (momsL ts).length * (PartW deep + GAP) + (t.moms.length * PartW deep + t.moms.length * GAP) := by rw [Nat.add_mul, Nat.mul_add t.moms.length]
        have eG : GAP ≤ t.moms.length * GAP := Nat.le_mul_of_pos_left _ B1
        have gG : g < GAP := Nat.lt_trans hg (by decide +kernel)
        refine ⟨P8.trans P9, as ++ [a2], ts ++ [t.shift bg], t.moms.getLastD 0 + bg + 1 + g, some (.int (0 + (i : Nat))), some (.int (left : Nat)), P9.2 _ _ fp (X8 _ _ hf7), (hA7.mono X8).keep (keeps_pot hp8 P9), okS, nsS, risS, fun z => by omega, fun z => absurd z tneS, fun _ => ⟨headS, by rw [lastS]; omega, by rw [lastS, lenS, eM]; omega⟩, by rw [lenS, eM]; omega, by rw [lenS]; omega, ?_⟩
        rw [lastS]
        have e9 : (((t.moms.getLastD 0 + bg : Nat) : Int)) + 1 + ((g : Nat) : Int) = ((t.moms.getLastD 0 + bg + 1 + g : Nat) : Int) := by omega
        try dsimp only
        rw [e9]
        rfl
      · have c2 : ¬ (0 : Int) < (room : Nat) - ((momsL ts).length : Nat) := fun z => c (decide_eq_true z)
        have ts0 : ts ≠ [] := fun z => by
          rw [z, momsL] at c2
          simp at c2
          omega
        exact ⟨P4, as, ts, bg, _, _, hf4, hA4, hok, hne, hri, fun z => by omega, fun z => absurd z ts0, hfa, hbg, hlen, rfl⟩
    · rintro σ H3 ⟨P3, as, ts, bg, v5, v6, hf3, hA3, hok, hne, hri, hi0, hnil, hfa, hbg, hlen, rfl⟩
      have ts0 : ts ≠ [] := fun z => by
        have := (hnil z).1
        omega
      obtain ⟨g1, g2, g3⟩ := hfa ts0
      exact ⟨_, rfl, q f as ts H3 nf hf3 hA3 ts0 hok hne hri g1 hlen g3 P3⟩
theorem ok__law_parts {P : Program} {w : World} {K : PySem.W.Frag} {mg : Str → Option Value} {base : Heap} (T : Env K mg) {d L : Nat} (hL : 60 ≤ L) (r__law_part : Fc P w K mg base L (He.ga K "_law_part") [] (sp__law_part K d)) : Fc P w K mg base (L + 1) (He.ga K "_law_parts") [] (sp__law_parts K (d)) := by
  obtain ⟨fd, D, F⟩ := fb__law_parts T hL r__law_part
  exact F.all (D.bindsN fun _ _ _ _ _ _ us hl => match us, hl with | [_, _, _], _ => rfl)
end
section
theorem fb__law_part {P : Program} {w : World} {K : PySem.W.Frag} {mg : Str → Option Value} {base : Heap} (T : Env K mg) {d L : Nat} (hL : 60 ≤ L) (r__law_part : Fc P w K mg base L (He.ga K "_law_part") [] (sp__law_part K d)) : ∃ fd, FunD K "_law_part" "_law_part" (defArgs s__law_part) (defBody s__law_part) (defScope s__law_part) [] [] (He.ga K "_law_part") fd ∧ Fb P w K mg base (L + 2) (He.ga K "_law_part") fd ["_law_pot_here", "_law_deep", "_law_room"] (sp__law_part K (d + 1)) := by
  obtain ⟨fd, F⟩ := T.f__law_part
  refine ⟨fd, F, fb_of F sc__law_part (fun vs H Q E h => ?_) (fun cdv A outer s H vs Q E hr h => ?_)⟩
  · obtain ⟨p, deep, room, rfl, _⟩ := h
    rfl
  · obtain ⟨p, deep, room, rfl, hp, d4, dd, r1, r40, q⟩ := h
    refine ⟨_, (pss_cons (ps_set (i := 3) sc__law_part.nd rfl (Or.inl rfl) (c_call (ok__law_draw T) (hr.mono (by omega)) T.g__law_draw T.k__law_draw takes0 (pa_cons (pv 0) (pa_cons pe_int pa_nil))))
      (pss_cons (ps_set (i := 4) sc__law_part.nd rfl (Or.inl rfl) (pe_callB (call_min2 rfl) (by rfl) T.n_min (by decide +kernel) (pa_cons (pv 2) (pa_cons (pe_op op_add pe_int (c_call (ok__law_draw T) (hr.mono (by omega)) T.g__law_draw T.k__law_draw takes0 (pa_cons (pv 0) (pa_cons pe_int pa_nil)))) pa_nil))))
      (pss_cons (ps_if (PW.pt (pw_or (pt_cmpR op_eq (pv 3) pe_int (nomark _)) (pw_or (pt_cmpR op_lt (pv 4) pe_int (nomark _)) (pw_or1 (pt_cmpR op_eq (pv 1) pe_int (nomark _))))))
      (pss_one (ps_ret (pe_tup (pa_cons pe_str (pa_cons pe_int pa_nil)))))
      pss_nil)
      (pss_cons (ps_set (i := 5) sc__law_part.nd rfl (Or.inl rfl) (c_call (ok__law_parts T hL r__law_part) (hr.mono (by omega)) T.g__law_parts T.k__law_parts takes0 (pa_cons (pv 0) (pa_cons (pe_op op_add (pv 1) pe_int) (pa_cons (pe_op op_fdiv (pv 2) (pv 4)) pa_nil)))))
      (pss_one (ps_ret (pe_tup (pa_cons pe_str (pa_cons (pv 5) (pa_cons (pv 4) (pa_cons (pe_op op_add (pe_op op_add (pe_ix ix_list (c_call (all__law_means T 9) (hr.mono (by omega)) T.g__law_means T.k__law_means takes0 (pa_cons (pv 5) pa_nil)) (pe_un un_neg pe_int) (fun _ _ => rfl)) pe_int) (c_call (ok__law_gap T) (hr.mono (by omega)) T.g__law_gap T.k__law_gap takes0 (pa_cons (pv 0) pa_nil))) pa_nil))))))))))), ?_⟩
    refine ⟨_, rfl, _, _, rfl, hp, (by decide), (by decide), ?_⟩
    intro way H1 w0 w3 P1
    have hp1 := P1.1
    refine ⟨_, rfl, _, rfl, _, _, rfl, hp1, (by decide), (by decide), ?_⟩
    intro e H2 e0 e5 P2
    obtain ⟨e, rfl⟩ := Int.eq_ofNat_of_zero_le e0
    refine ⟨_, _, rfl, rfl, _, _, rfl, _, rfl, rfl, _, rfl, ?_⟩
    try dsimp only [tNil]
    have P12 := P1.trans P2
    have hp2 := P12.1
    have em : (if (2 : Int) + ((e : Nat) : Int) < ((room : Nat) : Int) then (2 : Int) + ((e : Nat) : Int) else ((room : Nat) : Int)) = ((min room (2 + e) : Nat) : Int) := by split <;> omega
    rw [em]
    have hm2 : min room (2 + e) ≤ room := Nat.min_le_left _ _
    generalize min room (2 + e) = many at hm2 ⊢
    have fin : ∀ a, H2 a = none → Q (.ref a) (upd H2 a (.tup [.str "at", .int 0])) := fun a na => by
      have m1 : (Tr.at 0).moms = [0] := at_moms 0
      refine q a (.at 0) _ (by unfold LtAt; exact upd_same) (at_ok 0) (by rw [at_nest]; omega) (by rw [m1]; rfl) (by rw [m1]; exact r1) ?_ (P12.ex2 (ex_new na))
      rw [m1]
      show 0 + 1 ≤ 1 * PartW deep
      have gap1 : 1 ≤ GAP := by decide +kernel
      have : 1 * 1 ≤ (2 * (4 - deep) + 1) * GAP := Nat.mul_le_mul (by omega) gap1
      show 0 + 1 ≤ 1 * ((2 * (4 - deep) + 1) * GAP)
      omega
    refine ite2 (fun _ => iteT ⟨by show 2 ≤ sizeLine; decide, fin⟩) (fun _ => ?_)
    refine ⟨_, rfl, _, _, rfl, rfl, _, rfl, ?_⟩
    try dsimp only [tNil]
    refine ite2 (fun _ => iteT ⟨by show 2 ≤ sizeLine; decide, fin⟩) (fun c2 => ?_)
    refine ⟨_, rfl, rfl, _, rfl, ?_⟩
    try dsimp only [tNil]
    refine ite2 (fun _ => ⟨by show 2 ≤ sizeLine; decide, fin⟩) (fun c3 => ?_)
    have g2 : ¬ ((many : Nat) : Int) < 2 := fun z => c2 (decide_eq_true z)
    have g3 : deep ≠ 4 := fun z => c3 (by rw [z]; rfl)
    have many2 : 2 ≤ many := by omega
    have rq : 1 ≤ room / many := (Nat.le_div_iff_mul_le (by omega)).mpr (by omega)
    have rq2 : room / many ≤ 40 := Nat.le_trans (Nat.div_le_self _ _) r40
    have rq3 : many * (room / many) ≤ room := Nat.mul_div_le _ _
    have dd1 : deep + 1 ≤ 4 := by omega
    have dd5 : 5 ≤ deep + 1 + d := by omega
    refine ⟨_, rfl, _, rfl, _, _, rfl, rfl, _, rfl, _, rfl, _, _, rfl, rfl, ⟨(by omega), (by omega)⟩, _, _, _, rfl, hp2, dd1, dd5, rq, rq2, ?_⟩
    intro r as ts H3 nr hr3 hA3 ts0 hok hne hri hhd hlen hlast P3
    have hne : nestL ts + (deep + 1) ≤ 4 := hne
    have hlen : (momsL ts).length ≤ room / many := hlen
    have hlast : (momsL ts).getLastD 0 + 1 ≤ (momsL ts).length * (PartW (deep + 1) + GAP) := hlast
    have P13 := P12.trans P3
    have hn9 : nestL ts + 1 ≤ 9 := by omega
    have hl2 : (momsL ts).length ≤ 2000 := by omega
    have nn := momsL_ne hok ts0
    have hw := at_lastN nn
    refine ⟨_, rfl, _, rfl, _, rfl, _, _, _, _, rfl, hr3, hA3, hn9, hok, hl2, ?_⟩
    intro w H4 X4 nw hw4
    have P4 := P13.ex2 X4
    have hp4 := P4.1
    refine ⟨_, rfl, _, _, _, _, rfl, rfl, (sq_lst hw4), hw, _, _, rfl, rfl, _, rfl, _, rfl, hp4, ?_⟩
    intro g H5 hg P5
    refine ⟨_, _, rfl, rfl, (by show 4 ≤ sizeLine; decide), ?_⟩
    intro a na
    have B1 : 1 ≤ (momsL ts).length := Nat.le_trans (List.length_pos_iff.mpr ts0) (len_moms hok)
    have gG : g < GAP := Nat.lt_trans hg (by decide +kernel)
    have so := ris_sorted hok hri
    have ml : many * (momsL ts).length ≤ room := Nat.le_trans (Nat.mul_le_mul_left _ hlen) rq3
    obtain ⟨la, hla⟩ : ∃ l, l = (momsL ts).getLastD 0 := ⟨_, rfl⟩
    rw [← hla] at hlast ⊢
    have e9 : ((la : Nat) : Int) + 1 + ((g : Nat) : Int) = ((la + 1 + g : Nat) : Int) := by omega
    dsimp only
    rw [e9]
    have ok2 : (Tr.ov ts many (la + 1 + g)).ok := by
      unfold Tr.ok
      exact ⟨ts0, many2, by omega, by omega, by rw [hhd, ← hla]; omega, so, hok⟩
    have X5 := ex_new (o := .tup [.str "over", .ref r, .int (many : Nat), .int ((la + 1 + g : Nat) : Int)]) na
    have hA4 := (hA3.mono X4).keep (keeps_pot hp4 P5)
    have rp : r ≠ p := pot_ne P12 nr
    have hr5 := P5.2 _ _ rp (X4 _ _ hr3)
    have nrH : H r = none := P12.fresh nr
    have m1 : (Tr.ov ts many (la + 1 + g)).moms = overN (momsL ts) many (la + 1 + g) := by rw [Tr.moms]
    refine q a (.ov ts many (la + 1 + g)) _ ?_ ok2 (by rw [Tr.nest]; omega) (by rw [m1, overN_head nn _ (by omega), hhd]) (by rw [m1, overN_len]; omega) ?_ ((P4.trans P5).ex2 X5)
    · unfold LtAt
      refine ⟨r, as, upd_same, nrH, X5 _ _ hr5, (hA4.imp fun b nb => P12.fresh nb.1).mono X5⟩
    · obtain ⟨m', rfl⟩ : ∃ m', many = m' + 1 := ⟨many - 1, by omega⟩
      rw [m1, overN_last nn (by omega), overN_len, ← hla]
      have ew : PartW deep = (PartW (deep + 1) + GAP) + GAP := by
        show (2 * (4 - deep) + 1) * GAP = ((2 * (4 - (deep + 1)) + 1) * GAP + GAP) + GAP
        have e : 2 * (4 - deep) + 1 = (2 * (4 - (deep + 1)) + 1) + 1 + 1 := by omega
        rw [e, Nat.add_mul, Nat.add_mul, Nat.one_mul]
      rw [ew]
      have z := over_bound (at_ := 0) (la := la) (st := la + 1 + g) (m' := m') (len := (momsL ts).length) (V := PartW (deep + 1) + GAP) (G := GAP) (by omega) (by omega) B1
      simpa using z
theorem ok__law_part {P : Program} {w : World} {K : PySem.W.Frag} {mg : Str → Option Value} {base : Heap} (T : Env K mg) {d L : Nat} (hL : 60 ≤ L) (r__law_part : Fc P w K mg base L (He.ga K "_law_part") [] (sp__law_part K d)) : Fc P w K mg base (L + 2) (He.ga K "_law_part") [] (sp__law_part K (d + 1)) := by
  obtain ⟨fd, D, F⟩ := fb__law_part T hL r__law_part
  exact F.all (D.bindsN fun _ _ _ _ _ _ us hl => match us, hl with | [_, _, _], _ => rfl)
theorem all__law_part {P : Program} {w : World} {K : PySem.W.Frag} {mg : Str → Option Value} {base : Heap} (T : Env K mg) : ∀ d, Fc P w K mg base (60 + 2 * d) (He.ga K "_law_part") [] (sp__law_part K d)
  | 0 => fc_no fun vs H Q E h => by
    obtain ⟨p, deep, room, _, _, h1, h2, _⟩ := h
    omega
  | d + 1 => ok__law_part T (Nat.le_add_right 60 _) (all__law_part T d)
end
section
def sp__law_tree (K : PySem.W.Frag) : Sp := fun vs H Q _ => ∃ (p : Addr), vs = [.ref p] ∧ Pot H p ∧ ∀ (r : Addr) (as : List Addr) (ts : List Tr) H', H r = none → H' r = some (.lst (as.map V.ref)) → LtsAt (fun b => H b = none ∧ b ≠ r) H' ts as → ts ≠ [] → okL_ ts → nestL ts ≤ 4 → risB ts = true → (momsL ts).length ≤ 40 → (momsL ts).getLastD 0 < 10 ^ 59 → PotOn H H' p → Q (.ref r) H'
theorem fb__law_tree {P : Program} {w : World} {K : PySem.W.Frag} {mg : Str → Option Value} {base : Heap} (T : Env K mg) : ∃ fd, FunD K "_law_tree" "_law_tree" (defArgs s__law_tree) (defBody s__law_tree) (defScope s__law_tree) [] [] (He.ga K "_law_tree") fd ∧ Fb P w K mg base 90 (He.ga K "_law_tree") fd ["_law_pot_here"] (sp__law_tree K) := by
  obtain ⟨fd, F⟩ := T.f__law_tree
  refine ⟨fd, F, fb_of F sc__law_tree (fun vs H Q E h => ?_) (fun cdv A outer s H vs Q E hr h => ?_)⟩
  · obtain ⟨p, rfl, _⟩ := h
    rfl
  · obtain ⟨p, rfl, hp, q⟩ := h
    refine ⟨_, (pss_cons (ps_set (i := 1) sc__law_tree.nd rfl (Or.inl rfl) (c_call (ok__law_draw T) (hr.mono (by decide)) T.g__law_draw T.k__law_draw takes0 (pa_cons (pv 0) (pa_cons pe_int pa_nil))))
      (pss_cons (ps_set (i := 2) sc__law_tree.nd rfl (Or.inr rfl) (c_call (ok__law_draw T) (hr.mono (by decide)) T.g__law_draw T.k__law_draw takes0 (pa_cons (pv 0) (pa_cons (pe_ix ix_list (pe_lst (pa_cons pe_int (pa_cons pe_int (pa_cons pe_int (pa_cons (pe_op op_pow pe_int pe_int) pa_nil))))) (c_call (ok__law_draw T) (hr.mono (by decide)) T.g__law_draw T.k__law_draw takes0 (pa_cons (pv 0) (pa_cons pe_int pa_nil))) (fun _ _ => rfl)) pa_nil))))
      (pss_cons (ps_if (pt_cmpR op_gt (pv 1) pe_int (nomark _))
      (pss_one (ps_ret (pe_lst (pa_cons (pe_tup (pa_cons pe_str (pa_cons (pe_lst (pa_cons (pe_tup (pa_cons pe_str (pa_cons (pv 2) pa_nil))) pa_nil)) (pa_cons (pe_op op_add pe_int (c_call (ok__law_draw T) (hr.mono (by decide)) T.g__law_draw T.k__law_draw takes0 (pa_cons (pv 0) (pa_cons pe_int pa_nil)))) (pa_cons (pe_op op_add pe_int (c_call (ok__law_gap T) (hr.mono (by decide)) T.g__law_gap T.k__law_gap takes0 (pa_cons (pv 0) pa_nil))) pa_nil))))) pa_nil))))
      pss_nil)
      (pss_cons (ps_set (i := 3) sc__law_tree.nd rfl (Or.inl rfl) (pe_ix ix_list (pe_lst (pa_cons pe_int (pa_cons pe_int pa_nil))) (pe_callTy call_int1 (by rfl) T.n_int (by decide +kernel) (pa_cons (pe_cmpR op_eq (pv 1) pe_int (nomark _)) pa_nil)) (fun _ _ => rfl)))
      (pss_one (ps_ret (pe_lc (own := [("_law_part_here", 4)]) (by rfl) sc__law_tree.nd (pi_list (c_call (ok__law_parts T (Nat.le_add_right 60 _) (all__law_part T 9)) (hr.mono (by decide)) T.g__law_parts T.k__law_parts takes0 (pa_cons (pv 0) (pa_cons pe_int (pa_cons (pv 3) pa_nil))))) (blkOk_by (own := [("_law_part_here", 4)]) (N := ["_law_pot_here", "_law_size", "_law_begin", "_law_room", "_law_part_here"]) (sc := defScope s__law_tree) (by decide +kernel)) (fun _ _ _ _ _ => (pg_name (i := 4) sc__law_tree.nd rfl (Or.inl rfl))) (fun _ _ _ _ _ => pts_nil) (fun _ _ _ _ _ => (c_call (all__law_moved T 9) (hr.mono (by decide)) T.g__law_moved T.k__law_moved takes0 (pa_cons (pv 4) (pa_cons (pv 2) pa_nil))))))))))), ?_⟩
    refine ⟨_, rfl, _, _, rfl, hp, (by decide), (by decide), ?_⟩
    intro sz H1 s0 s16 P1
    refine ⟨_, rfl, _, _, rfl, rfl, ⟨(by decide), ⟨(by decide), (by decide)⟩⟩, (by decide), ?_⟩
    intro a1 na1
    have Xa1 := ex_new (o := HO.lst [V.int 1440, V.int 1440, V.int 1440, V.int (10 ^ Int.toNat 58)]) na1
    have ha1 : upd H1 a1 (HO.lst [V.int 1440, V.int 1440, V.int 1440, V.int (10 ^ Int.toNat 58)]) a1 = some (HO.lst [V.int 1440, V.int 1440, V.int 1440, V.int (10 ^ Int.toNat 58)]) := upd_same
    generalize upd H1 a1 (HO.lst [V.int 1440, V.int 1440, V.int 1440, V.int (10 ^ Int.toNat 58)]) = Ga1 at Xa1 ha1 ⊢
    refine ⟨_, rfl, _, _, rfl, (pot_mono P1.1 Xa1), (by decide), (by decide), ?_⟩
    intro d G2 d0 d4 P2
    obtain ⟨x, hx, ex⟩ := at_mem (xs := [V.int 1440, V.int 1440, V.int 1440, V.int (10 ^ Int.toNat 58)]) d0 (by show d < 4; exact d4)
    have hb : ∃ i : Int, x = .int i ∧ 0 < i ∧ i.toNat < 10 ^ 200 ∧ i ≤ 10 ^ 58 := by
      simp only [List.mem_cons, List.not_mem_nil, or_false] at hx
      rcases hx with rfl | rfl | rfl | rfl <;> exact ⟨_, rfl, by decide +kernel, by decide +kernel, by decide +kernel⟩
    obtain ⟨i, rfl, i0, i1, i58⟩ := hb
    refine ⟨_, _, _, _, rfl, rfl, (sq_lst (P2.2 _ _ (pot_ne P1 na1) ha1)), ex, _, _, rfl, P2.1, i0, i1, ?_⟩
    intro bg G3 b0 b1 P3
    obtain ⟨bg, rfl⟩ := Int.eq_ofNat_of_zero_le b0
    have bg58 : bg < 10 ^ 58 := by omega
    refine ⟨_, rfl, _, _, rfl, rfl, _, rfl, ?_⟩
    try dsimp only [tNil]
    refine ite2 (fun c => ?_) (fun c => ?_)
    · refine ⟨_, rfl, (by show 2 ≤ sizeLine; decide), ?_⟩
      intro a2 na2
      have Xa2 := ex_new (o := HO.tup [V.str (Str.ofString "at"), V.int (↑bg : Int)]) na2
      have ha2 : upd G3 a2 (HO.tup [V.str (Str.ofString "at"), V.int (↑bg : Int)]) a2 = some (HO.tup [V.str (Str.ofString "at"), V.int (↑bg : Int)]) := upd_same
      generalize upd G3 a2 (HO.tup [V.str (Str.ofString "at"), V.int (↑bg : Int)]) = Ga2 at Xa2 ha2 ⊢
      refine ⟨(by show 1 ≤ sizeLine; decide), ?_⟩
      intro a3 na3
      have Xa3 := ex_new (o := HO.lst [V.ref a2]) na3
      have ha3 : upd Ga2 a3 (HO.lst [V.ref a2]) a3 = some (HO.lst [V.ref a2]) := upd_same
      generalize upd Ga2 a3 (HO.lst [V.ref a2]) = Ga3 at Xa3 ha3 ⊢
      refine ⟨_, rfl, _, _, rfl, (pot_mono (pot_mono P3.1 Xa2) Xa3), (by decide), (by decide), ?_⟩
      intro dm H4 d0' d39 P4
      obtain ⟨dm, rfl⟩ := Int.eq_ofNat_of_zero_le d0'
      refine ⟨_, _, rfl, rfl, _, rfl, _, rfl, P4.1, ?_⟩
      intro g H5 hg P5
      refine ⟨_, _, rfl, rfl, (by show 4 ≤ sizeLine; decide), ?_⟩
      intro a4 na4
      have Xa4 := ex_new (o := HO.tup [V.str (Str.ofString "over"), V.ref a3, V.int (2 + (↑dm : Int)), V.int (1 + (↑g : Int))]) na4
      have ha4 : upd H5 a4 (HO.tup [V.str (Str.ofString "over"), V.ref a3, V.int (2 + (↑dm : Int)), V.int (1 + (↑g : Int))]) a4 = some (HO.tup [V.str (Str.ofString "over"), V.ref a3, V.int (2 + (↑dm : Int)), V.int (1 + (↑g : Int))]) := upd_same
      generalize upd H5 a4 (HO.tup [V.str (Str.ofString "over"), V.ref a3, V.int (2 + (↑dm : Int)), V.int (1 + (↑g : Int))]) = Ga4 at Xa4 ha4 ⊢
      refine ⟨(by show 1 ≤ sizeLine; decide), ?_⟩
      intro a5 na5
      have Xa5 := ex_new (o := HO.lst [V.ref a4]) na5
      have ha5 : upd Ga4 a5 (HO.lst [V.ref a4]) a5 = some (HO.lst [V.ref a4]) := upd_same
      generalize upd Ga4 a5 (HO.lst [V.ref a4]) = Ga5 at Xa5 ha5 ⊢
      try dsimp only [tNil]
      have P0a : PotOn H Ga3 p := ((((P1.ex2 Xa1).trans P2).trans P3).ex2 Xa2).ex2 Xa3
      have a3p := pot_ne (P3.ex2 Xa2) na3
      have a2p := pot_ne P3 na2
      have h3 := Xa5 _ _ (Xa4 _ _ (P5.2 _ _ a3p (P4.2 _ _ a3p ha3)))
      have h2 := Xa5 _ _ (Xa4 _ _ (P5.2 _ _ a2p (P4.2 _ _ a2p (Xa3 _ _ ha2))))
      have h4 := Xa5 _ _ ha4
      have PE : PotOn H Ga5 p := (((P0a.trans P4).trans P5).ex2 Xa4).ex2 Xa5
      have em : (2 : Int) + ((dm : Nat) : Int) = ((2 + dm : Nat) : Int) := by omega
      have es : (1 : Int) + ((g : Nat) : Int) = ((1 + g : Nat) : Int) := by omega
      rw [em, es] at h4
      have m0 : momsL [Tr.at bg] = [bg] := by rw [momsL_one, at_moms]
      have ok1 : (Tr.ov [.at bg] (2 + dm) (1 + g)).ok := by
        unfold Tr.ok
        rw [m0]
        exact ⟨by simp, by omega, by omega, by show (2 + dm) * 1 ≤ 1440; omega, by show bg < 1 + g + bg; omega, List.pairwise_singleton _ _, okL_one (at_ok bg)⟩
      have m1 : momsL [Tr.ov [.at bg] (2 + dm) (1 + g)] = overN [bg] (2 + dm) (1 + g) := by rw [momsL_one, Tr.moms, m0]
      have a3H : H a3 = none := (((P1.ex2 Xa1).trans P2).trans P3).ex2 Xa2 |>.fresh na3
      refine q a5 [a4] [.ov [.at bg] (2 + dm) (1 + g)] Ga5 ((P0a.trans P4).trans P5 |>.ex2 Xa4 |>.fresh na5) ha5 ?_ (by simp) (okL_one ok1) (by rw [nestL_one, Tr.nest, nestL_one, at_nest]; decide) rfl (by rw [m1, overN_len]; show (2 + dm) * 1 ≤ 40; omega) ?_ PE
      · refine lts_one ?_
        unfold LtAt
        exact ⟨a3, [a2], h4, ⟨a3H, ne_of_none (Xa4 _ _ (P5.2 _ _ a3p (P4.2 _ _ a3p ha3))) na5⟩, h3, lts_one (by unfold LtAt; exact h2)⟩
      · rw [m1, overN_last (by simp) (by omega)]
        show bg + (2 + dm - 1) * (1 + g) < 10 ^ 59
        have h40 : (2 + dm - 1) * (1 + g) ≤ 40 * 10 ^ 50 := Nat.mul_le_mul (by omega) (by omega)
        have hb2 : 40 * 10 ^ 50 + 10 ^ 58 < 10 ^ 59 := by decide +kernel
        omega
    · refine ⟨(by decide), ?_⟩
      intro a2 na2
      have Xa2 := ex_new (o := HO.lst [V.int 16, V.int 40]) na2
      have ha2 : upd G3 a2 (HO.lst [V.int 16, V.int 40]) a2 = some (HO.lst [V.int 16, V.int 40]) := upd_same
      generalize upd G3 a2 (HO.lst [V.int 16, V.int 40]) = Ga2 at Xa2 ha2 ⊢
      refine ⟨_, rfl, rfl, ?_⟩
      try dsimp only [tNil]
      refine .inr ⟨_, rfl, ?_⟩
      generalize decide (V.int sz = V.int 5) = b5
      have ix : ∃ room : Nat, atI [V.int 16, V.int 40] (if b5 = true then 1 else 0) = some (.int (room : Nat)) ∧ 1 ≤ room ∧ room ≤ 40 := by
        cases b5 with
        | true => exact ⟨40, rfl, by decide, by decide⟩
        | false => exact ⟨16, rfl, by decide, by decide⟩
      obtain ⟨room, ex5, r1, r40⟩ := ix
      refine ⟨_, _, _, _, rfl, rfl, (sq_lst ha2), ex5, _, rfl, _, rfl, _, _, _, rfl, (pot_mono P3.1 Xa2), (by decide), (by decide), r1, r40, ?_⟩
      intro r as ts H4 nr hr hA ts0 hok hne hri hhd hlen hlast P4
      have hne : nestL ts ≤ 4 := hne
      have hn9 : ∀ t ∈ ts, t.nest + 1 ≤ 9 := fun t ht => by have := nestL_mem ht; omega
      have hl1 := hA.len
      have hl3 := len_moms hok
      have nrG := P3.fresh (ex_fresh Xa2 nr)
      have PG : PotOn H H4 p := (((P1.ex2 Xa1).trans P2).trans P3).ex2 Xa2 |>.trans P4
      refine ⟨_, rfl, ⟨_, sq_lst hr⟩, fun A nA => lc_any (L2.walk_list (K := K) (a := r) (xs := as.map V.ref)) (fun i acc G => Ex H4 G ∧ (G A = none ∨ ∃ xs, G A = some (.lst xs)) ∧ ∃ bs, acc = bs.map V.ref ∧ LtsAt (fun b => H4 b = none ∧ b ≠ A) G ((shiftL bg ts).take i) bs) (fun i acc G z e => ?_) ⟨.refl _, .inl nA, [], rfl, by unfold LtsAt; rfl⟩ (by rw [List.length_map]; omega) (fun i acc G e => ?_) (fun i acc G e => sq_lst (e.1 _ _ hr)) (fun i x G G' acc N hi e hA' la y k _ => ?_) (fun acc G e hA' => ?_)⟩
      · obtain ⟨e1, e2, bs, e3, e4⟩ := e
        refine ⟨ex_mut e1 nA, .inr ⟨_, upd_same⟩, bs, e3, ?_⟩
        rcases e2 with e2 | ⟨xs, e2⟩
        · exact e4.mono (ex_new e2)
        · exact e4.keep (keeps_put e2 fun b nb => nb.2)
      · obtain ⟨_, _, bs, rfl, e4⟩ := e
        rw [List.length_map, e4.len, List.length_take]
        omega
      · obtain ⟨rfl, y⟩ := y
        obtain ⟨XG, _, bs, rfl, h1⟩ := e
        rw [List.getElem?_map] at y
        obtain ⟨c, hc, rfl⟩ := Option.map_eq_some_iff.mp y
        obtain ⟨t, ht, hDt⟩ := hA.get hc
        have htm := List.mem_of_getElem? ht
        refine ⟨rfl, _, rfl, _, rfl, _, c, t, bg, rfl, hDt.mono XG, hn9 t htm, okL_mem hok htm, fun a4 G2 X2 na4 hS3 => ⟨_, X2 _ _ hA', la, ?_⟩⟩
        refine k _ G2 (X2 _ _ hA') ⟨XG.trans X2, .inr ⟨_, X2 _ _ hA'⟩, bs ++ [a4], by rw [List.map_append]; rfl, ?_⟩
        rw [take_snoc (x := t.shift bg) (by rw [shiftL_map, List.getElem?_map, ht]; rfl)]
        exact (h1.mono X2).snoc (hS3.imp fun b nb => ⟨ex_fresh XG nb, fun z => by rw [z, hA'] at nb; cases nb⟩)
      · obtain ⟨XG, _, bs, rfl, hSh⟩ := e
        rw [List.length_map, hl1, List.take_of_length_le (by rw [shiftL_map, List.length_map]; omega)] at hSh
        have nn := momsL_ne hok ts0
        have PW : PartW 0 + GAP ≤ 10 * GAP := by decide +kernel
        have hb1 : (momsL ts).length * (PartW 0 + GAP) ≤ 40 * (10 * GAP) := Nat.mul_le_mul (by omega) PW
        have hb2 : 40 * (10 * GAP) + 10 ^ 58 < 10 ^ 59 := by decide +kernel
        obtain ⟨M, hM⟩ : ∃ M, M = (momsL ts).length * (PartW 0 + GAP) := ⟨_, rfl⟩
        rw [← hM] at hb1
        have hlast' : (momsL ts).getLastD 0 + 1 ≤ M := by rw [hM]; exact hlast
        have hb3 : M + 10 ^ 58 < 10 ^ 59 := Nat.lt_of_le_of_lt (Nat.add_le_add_right hb1 _) hb2
        clear hb1 hb2 hlast hM
        refine q A bs (shiftL bg ts) G (PG.fresh nA) hA' (hSh.imp fun b nb => ⟨PG.fresh nb.1, nb.2⟩) (by rw [shiftL_map]; simpa using ts0) (okL_shift bg ts hok) (by rw [nestL_shift]; exact hne) ?_ (by rw [momsL_shift, List.length_map]; omega) (by rw [momsL_shift, lastD_map bg nn]; omega) (PG.ex2 XG)
        refine ris_of (okL_shift bg ts hok) ?_
        rw [momsL_shift]
        exact List.pairwise_map.mpr ((ris_sorted hok hri).imp fun h => by omega)
theorem ok__law_tree {P : Program} {w : World} {K : PySem.W.Frag} {mg : Str → Option Value} {base : Heap} (T : Env K mg) : Fc P w K mg base 90 (He.ga K "_law_tree") [] (sp__law_tree K ) := by
  obtain ⟨fd, D, F⟩ := fb__law_tree T
  exact F.all (D.bindsN fun _ _ _ _ _ _ us hl => match us, hl with | [_], _ => rfl)
end
section
def sp__law_list (K : PySem.W.Frag) : Sp := fun vs H Q _ => ∃ (p : Addr), vs = [.ref p] ∧ Pot H p ∧ ∀ (f : Addr) (ns : List Nat) H', H f = none → H' f = some (.lst (natV ns)) → ns.Pairwise (· < ·) → ns.length ≤ 40 → (∀ n ∈ ns, n < 10 ^ 60) → PotOn H H' p → Q (.ref f) H'
theorem fb__law_list {P : Program} {w : World} {K : PySem.W.Frag} {mg : Str → Option Value} {base : Heap} (T : Env K mg) : ∃ fd, FunD K "_law_list" "_law_list" (defArgs s__law_list) (defBody s__law_list) (defScope s__law_list) [] [] (He.ga K "_law_list") fd ∧ Fb P w K mg base 95 (He.ga K "_law_list") fd ["_law_pot_here"] (sp__law_list K) := by
  obtain ⟨fd, F⟩ := T.f__law_list
  refine ⟨fd, F, fb_of F sc__law_list (fun vs H Q E h => ?_) (fun cdv A outer s H vs Q E hr h => ?_)⟩
  · obtain ⟨p, rfl, _⟩ := h
    rfl
  · obtain ⟨p, rfl, hp, q⟩ := h
    refine ⟨_, (pss_cons (ps_set (i := 1) sc__law_list.nd rfl (Or.inl rfl) (c_call (all__law_means T 9) (hr.mono (by decide)) T.g__law_means T.k__law_means takes0 (pa_cons (c_call (ok__law_tree T) (hr.mono (by decide)) T.g__law_tree T.k__law_tree takes0 (pa_cons (pv 0) pa_nil)) pa_nil)))
      (pss_cons (ps_set (i := 2) sc__law_list.nd rfl (Or.inl rfl) (c_call (ok__law_draw T) (hr.mono (by decide)) T.g__law_draw T.k__law_draw takes0 (pa_cons (pv 0) (pa_cons pe_int pa_nil))))
      (pss_cons (ps_for (passes_of rfl) rfl (pi_range1 (by rfl) T.n_range (pa_cons (pe_op op_add pe_int (c_call (ok__law_draw T) (hr.mono (by decide)) T.g__law_draw T.k__law_draw takes0 (pa_cons (pv 0) (pa_cons pe_int pa_nil)))) pa_nil)) (pg_name (i := 3) sc__law_list.nd rfl (Or.inl rfl))
      (Evl.pss_cut (ps_if (PW.pt (pw_and (pt_cmpR op_eq (pv 2) pe_int (nomark _)) (pw_and1 (pt_cmpR (op_neE hr.rm.units) (pv 1) (pe_lst pa_nil) (nomark _)))))
      (pss_one (ps_expr (pe_bm PySem.F.plainAttrs_list PySem.F.slot_list_pop PySem.F.type_list_pop mt_popAt (pv 1) (pa_cons (c_call (ok__law_draw T) (hr.mono (by decide)) T.g__law_draw T.k__law_draw takes0 (pa_cons (pv 0) (pa_cons (pe_callB call_len (by rfl) T.n_len (by decide +kernel) (pa_cons (pv 1) pa_nil)) pa_nil))) pa_nil))))
      pss_nil)
      (pss_one (ps_if (PW.pt (pw_and (pt_cmpR op_eq (pv 2) pe_int (nomark _)) (pw_and1 (pt_cmpR op_lt (pe_callB call_len (by rfl) T.n_len (by decide +kernel) (pa_cons (pv 1) pa_nil)) pe_int (nomark _)))))
      (pss_cons (ps_set (i := 4) sc__law_list.nd rfl (Or.inl rfl) (pe_op op_add (pe_op op_add (pe_ix ix_list (pv 1) (c_call (ok__law_draw T) (hr.mono (by decide)) T.g__law_draw T.k__law_draw takes0 (pa_cons (pv 0) (pa_cons (pe_callB call_len (by rfl) T.n_len (by decide +kernel) (pa_cons (pv 1) pa_nil)) pa_nil))) (fun _ _ => rfl)) pe_int) (c_call (ok__law_draw T) (hr.mono (by decide)) T.g__law_draw T.k__law_draw takes0 (pa_cons (pv 0) (pa_cons pe_int pa_nil)))))
      (pss_one (ps_if (pt_cmpR op_notIn_seq (pv 4) (pv 1) (by rfl))
      (pss_one (ps_expr (pe_bm PySem.F.plainAttrs_list PySem.F.slot_list_append PySem.F.type_list_append mt_append (pv 1) (pa_cons (pv 4) pa_nil))))
      pss_nil)))
      pss_nil))))
      (pss_one (ps_ret (pe_callB (cr_sortedA K) (by rfl) T.n_sorted (by decide +kernel) (pa_cons (pv 1) pa_nil))))))), ?_⟩
    refine ⟨_, rfl, _, rfl, hp, ?_⟩
    intro r as ts H1 nr hr hA ts0 hok hne hri hlen hlast P1
    have hn9 : nestL ts + 1 ≤ 9 := by omega
    have hl2 : (momsL ts).length ≤ 2000 := by omega
    have nn := momsL_ne hok ts0
    have so := ris_sorted hok hri
    refine ⟨_, _, _, _, rfl, hr, hA, hn9, hok, hl2, ?_⟩
    intro f H2 X2 nf hf
    refine ⟨_, rfl, _, _, rfl, (pot_mono P1.1 X2), (by decide), (by decide), ?_⟩
    intro way H3 w0 w4 P3
    refine ⟨_, rfl, _, _, rfl, P3.1, (by decide), (by decide), ?_⟩
    intro e H4 e0 e2 P4
    refine ⟨_, _, rfl, rfl, _, rfl, (by omega), (by omega), ?_⟩
    have nfH := P1.fresh nf
    have f2 : f ≠ p := pot_ne P1 nf
    have hf4 := P4.2 _ _ f2 (P3.2 _ _ f2 hf)
    have P04 : PotOn H H4 p := ((P1.ex2 X2).trans P3).trans P4
    refine for_range (fun i σ H' => PotOn H H' p ∧ ∃ (ns : List Nat) (v3 v4 : Option V), H' f = some (.lst (natV ns)) ∧ ns.Nodup ∧ ns.length ≤ 40 ∧ (∀ n ∈ ns, n < 10 ^ 59 + 5 * i) ∧ (way = 3 → ns ≠ []) ∧ σ = [some (.ref p), some (.ref f), some (.int way), v3, v4]) ⟨P04, momsL ts, none, none, hf4, so.imp (fun h => Nat.ne_of_lt h), hlen, fun n hn => by have := le_lastD so n hn; omega, fun _ => nn, rfl⟩ ?_ ?_
    · rintro i σ H5 hi ⟨P5, ns, v3, v4, hf5, hnd, hln, hb, h3, rfl⟩
      refine ⟨fun σ' H' => PotOn H H' p ∧ ∃ (ns : List Nat) (v4 : Option V), H' f = some (.lst (natV ns)) ∧ ns.Nodup ∧ ns.length ≤ 40 ∧ (∀ n ∈ ns, n < 10 ^ 59 + 5 * i) ∧ (way = 3 → ns ≠ []) ∧ σ' = [some (.ref p), some (.ref f), some (.int way), some (.int (0 + (i : Nat))), v4], ?_, ?_⟩
      · refine ⟨_, rfl, rfl, _, rfl, ?_⟩
        try dsimp only [tNil]
        refine ite2 (fun c => ?_) (fun c => ⟨P5, ns, v4, hf5, hnd, hln, hb, h3, rfl⟩)
        refine ⟨_, rfl, (by decide), ?_⟩
        intro a1 na1
        have Xa1 := ex_new (o := HO.lst []) na1
        have ha1 : upd H5 a1 (HO.lst []) a1 = some (HO.lst []) := upd_same
        generalize upd H5 a1 (HO.lst []) = Ga1 at Xa1 ha1 ⊢
        refine ⟨_, _, _, rfl, rfl, (sq_lst (Xa1 _ _ hf5)), (sq_lst ha1), _, rfl, ?_⟩
        try dsimp only [tNil]
        refine ite2 (fun cz => ?_) (fun _ => ⟨P5.ex2 Xa1, ns, v4, Xa1 _ _ hf5, hnd, hln, hb, h3, rfl⟩)
        have n0 : 0 < ns.length := by
          cases ns with
          | nil => cases cz
          | cons x r => exact Nat.succ_pos _
        have hf6 := Xa1 _ _ hf5
        have c2 : way ≠ 3 := fun z => by rw [z] at c; exact absurd (of_decide_eq_true c) (by simp)
        have d0 : (0 : Int) < ((natV ns).length : Nat) := by rw [natV_len]; omega
        have d1 : (((natV ns).length : Nat) : Int).toNat < 10 ^ 200 := by rw [natV_len]; exact Nat.lt_of_le_of_lt (show _ ≤ 40 by omega) (by decide +kernel)
        refine ⟨_, rfl, (.inl ⟨rfl, ⟨_, (sq_lst hf6)⟩⟩), _, rfl, _, rfl, _, _, rfl, (.inl ⟨_, ⟨(sq_lst hf6), rfl⟩⟩), _, _, rfl, (pot_mono P5.1 Xa1), d0, d1, ?_⟩
        intro k H7 k0 k1 P7
        rw [natV_len] at k1
        obtain ⟨k, rfl⟩ := Int.eq_ofNat_of_zero_le k0
        have kl : k < ns.length := Int.ofNat_lt.mp k1
        have hf7 := P7.2 _ _ f2 hf6
        refine ⟨f, natV ns, k, k, .int (ns[k] : Nat), rfl, rfl, hf7, by omega, by omega, by rw [natV_len]; exact seqIx_nat kl, natV_get (List.getElem?_eq_getElem kl), ?_⟩
        rw [natV_erase]
        refine ⟨pot_upd ((P5.ex2 Xa1).trans P7) nfH f2, ns.eraseIdx k, v4, upd_same, hnd.eraseIdx k, by rw [List.length_eraseIdx_of_lt kl]; omega, fun n hn => hb n (List.mem_of_mem_eraseIdx hn), fun z => absurd z c2, rfl⟩
      · clear hf5 hnd hln hb h3 P5 ns v4
        rintro σ' H6 ⟨P6, ns, v4, hf6, hnd, hln, hb, h3, rfl⟩
        refine ⟨_, rfl, rfl, _, rfl, ?_⟩
        try dsimp only [tNil]
        refine ite2 (fun c => ?_) (fun c => iteF ⟨P6, ns, _, v4, hf6, hnd, hln, fun n hn => by have := hb n hn; omega, h3, rfl⟩)
        have w3 : way = 3 := by
          have z := of_decide_eq_true c
          injection z
        have ns0 := h3 w3
        have n0 : 0 < ns.length := List.length_pos_iff.mpr ns0
        have d0 : (0 : Int) < ((natV ns).length : Nat) := by rw [natV_len]; omega
        have d1 : (((natV ns).length : Nat) : Int).toNat < 10 ^ 200 := by rw [natV_len]; exact Nat.lt_of_le_of_lt (show _ ≤ 40 by omega) (by decide +kernel)
        refine ⟨_, rfl, _, _, rfl, (.inl ⟨_, ⟨(sq_lst hf6), rfl⟩⟩), _, _, rfl, rfl, _, rfl, ?_⟩
        try dsimp only [tNil]
        refine ite2 (fun c40 => ?_) (fun _ => ⟨P6, ns, _, v4, hf6, hnd, hln, fun n hn => by have := hb n hn; omega, h3, rfl⟩)
        have l40 : ns.length < 40 := by
          have z := of_decide_eq_true c40
          rw [natV_len] at z
          omega
        refine ⟨_, rfl, _, rfl, _, rfl, _, _, rfl, (.inl ⟨_, ⟨(sq_lst hf6), rfl⟩⟩), _, _, rfl, P6.1, d0, d1, ?_⟩
        intro k H7 k0 k1 P7
        rw [natV_len] at k1
        obtain ⟨k, rfl⟩ := Int.eq_ofNat_of_zero_le k0
        have kl : k < ns.length := Int.ofNat_lt.mp k1
        have hf7 := P7.2 _ _ f2 hf6
        have hk := atI_nat (natV_get (List.getElem?_eq_getElem kl))
        refine ⟨_, _, _, _, rfl, rfl, (sq_lst hf7), hk, _, _, rfl, rfl, _, rfl, _, _, rfl, P7.1, (by decide), (by decide), ?_⟩
        intro d H8 d0' d3 P8
        obtain ⟨d, rfl⟩ := Int.eq_ofNat_of_zero_le d0'
        have hf8 := P8.2 _ _ f2 hf7
        have e9 : ((ns[k] : Nat) : Int) + 1 + ((d : Nat) : Int) = ((ns[k] + 1 + d : Nat) : Int) := by omega
        have PP := (P6.trans P7).trans P8
        refine ⟨_, _, rfl, rfl, ?_⟩
        dsimp only
        rw [e9]
        obtain ⟨x, hx⟩ : ∃ x, x = ns[k] + 1 + d := ⟨_, rfl⟩
        rw [← hx]
        have hxb : x < 10 ^ 59 + 5 * (i + 1) := by
          have := hb _ (List.getElem_mem kl)
          omega
        have fl := flat_nat ns
        have fx : flatV (V.int (x : Nat)) = true := rfl
        refine ⟨_, rfl, _, rfl, f, _, rfl, .inl (sq_lst hf8), fx, fl, ?_⟩
        rw [inV_nat]
        refine ⟨_, rfl, ite2 (fun cx => ?_) (fun cx => ⟨PP, ns, _, _, hf8, hnd, hln, fun n hn => by have := hb n hn; omega, h3, rfl⟩)⟩
        have nx : x ∉ ns := fun z => by
          rw [decide_eq_true z] at cx
          cases cx
        have hz : (natV ns).length < sizeLine := sz_lt (by rw [natV_len]; omega)
        refine ⟨_, rfl, .inl ⟨rfl, _, sq_lst hf8⟩, _, rfl, f, natV ns, .int (x : Nat), rfl, rfl, hf8, hz, ?_⟩
        rw [natV_snoc]
        refine ⟨pot_upd PP nfH f2, ns ++ [x], _, _, upd_same, ?_, by rw [List.length_append]; show _ + 1 ≤ 40; omega, fun n hn => ?_, fun _ => by simp, rfl⟩
        · refine List.nodup_append.mpr ⟨hnd, List.pairwise_singleton _ _, fun a ha b hb' z => ?_⟩
          rw [List.mem_singleton.mp hb'] at z
          exact nx (z ▸ ha)
        · rcases List.mem_append.mp hn with hn | hn
          · have := hb n hn
            omega
          · rw [List.mem_singleton.mp hn]
            exact hxb
    · rintro σ H5 ⟨P5, ns, v3, v4, hf5, hnd, hln, hb, h3, rfl⟩
      refine ⟨_, rfl, ?_⟩
      refine ⟨f, ns.map (fun n : Nat => (n : Int)), rfl, .inl (by rw [← nat_int]; exact sq_lst hf5), fun o no => ?_⟩
      rw [natV_srt]
      refine q o (srtN ns) _ (P5.fresh no) upd_same (srtN_lt hnd) (by rw [srtN_len]; exact hln) (fun n hn => ?_) (P5.ex2 (ex_new no))
      have := hb n ((srtN_mem n ns).mp hn)
      omega
theorem ok__law_list {P : Program} {w : World} {K : PySem.W.Frag} {mg : Str → Option Value} {base : Heap} (T : Env K mg) : Fc P w K mg base 95 (He.ga K "_law_list") [] (sp__law_list K ) := by
  obtain ⟨fd, D, F⟩ := fb__law_list T
  exact F.all (D.bindsN fun _ _ _ _ _ _ us hl => match us, hl with | [_], _ => rfl)
end
section
def sp__law_turned (K : PySem.W.Frag) : Sp := fun vs H Q _ => ∃ (p r : Addr) (ns : List Nat), vs = [.ref p, .ref r] ∧ Pot H p ∧ r ≠ p ∧ H r = some (.lst (natV ns)) ∧ ns.length ≤ 40 ∧ ∀ (f : Addr) (ms : List Nat) H', H f = none → H' f = some (.lst (natV ms)) → ms.Perm ns → PotOn H H' p → Q (.ref f) H'
theorem fb__law_turned {P : Program} {w : World} {K : PySem.W.Frag} {mg : Str → Option Value} {base : Heap} (T : Env K mg) : ∃ fd, FunD K "_law_turned" "_law_turned" (defArgs s__law_turned) (defBody s__law_turned) (defScope s__law_turned) [] [] (He.ga K "_law_turned") fd ∧ Fb P w K mg base 2 (He.ga K "_law_turned") fd ["_law_pot_here", "_law_row"] (sp__law_turned K) := by
  obtain ⟨fd, F⟩ := T.f__law_turned
  refine ⟨fd, F, fb_of F sc__law_turned (fun vs H Q E h => ?_) (fun cdv A outer s H vs Q E hr h => ?_)⟩
  · obtain ⟨p, r, ns, rfl, _⟩ := h
    rfl
  · obtain ⟨p, r, ns, rfl, hp, rp, hw, hl, q⟩ := h
    refine ⟨_, (pss_cons (ps_set (i := 2) sc__law_turned.nd rfl (Or.inl rfl) (pe_lst pa_nil))
      (pss_cons (ps_for (passes_of rfl) rfl (pi_list (pv 1)) (pg_name (i := 3) sc__law_turned.nd rfl (Or.inl rfl))
      (pss_one (ps_expr (pe_bm PySem.F.plainAttrs_list PySem.F.slot_list_insert PySem.F.type_list_insert mt_insert (pv 2) (pa_cons (c_call (ok__law_draw T) (hr.mono (by decide)) T.g__law_draw T.k__law_draw takes0 (pa_cons (pv 0) (pa_cons (pe_op op_add (pe_callB call_len (by rfl) T.n_len (by decide +kernel) (pa_cons (pv 2) pa_nil)) pe_int) pa_nil))) (pa_cons (pv 3) pa_nil))))))
      (pss_one (ps_ret (pv 2))))), ?_⟩
    refine ⟨(by decide), ?_⟩
    intro a1 na1
    have Xa1 := ex_new (o := HO.lst []) na1
    have ha1 : upd H a1 (HO.lst []) a1 = some (HO.lst []) := upd_same
    generalize upd H a1 (HO.lst []) = Ga1 at Xa1 ha1 ⊢
    refine ⟨_, rfl, _, rfl, ⟨_, (sq_lst (Xa1 _ _ hw))⟩, ?_⟩
    have P1 : PotOn H Ga1 p := (PotOn.refl hp).ex2 Xa1
    have a1p := pot_ne (PotOn.refl hp) na1
    refine for_on ns (fun n : Nat => V.int n) L2.walk_list (fun i σ H' => PotOn H H' p ∧ ∃ (ms : List Nat) (v3 : Option V), σ = [some (.ref p), some (.ref r), some (.ref a1), v3] ∧ H' a1 = some (.lst (natV ms)) ∧ ms.Perm (ns.take i)) ⟨P1, [], none, rfl, ha1, .nil⟩ (fun i σ H' z => sq_lst (z.1.2 _ _ rp hw)) ?_ ?_
    · rintro i n σ H2 hx ⟨P2, ms, v3, rfl, hf, hm⟩
      have hlm := hm.length_eq
      rw [List.length_take] at hlm
      have d0 : (0 : Int) < ((natV ms).length : Nat) + 1 := by omega
      have d1 : (((natV ms).length : Nat) + 1 : Int).toNat < 10 ^ 200 := by rw [natV_len]; exact Nat.lt_of_le_of_lt (show _ ≤ 1000 by omega) (by decide +kernel)
      refine ⟨_, rfl, (.inl ⟨rfl, ⟨_, (sq_lst hf)⟩⟩), _, rfl, _, rfl, _, _, rfl, (.inl ⟨_, ⟨(sq_lst hf), rfl⟩⟩), _, _, rfl, rfl, _, _, rfl, P2.1, d0, d1, ?_⟩
      intro k H3 k0 k1 P3
      rw [natV_len] at k1
      obtain ⟨k, rfl⟩ := Int.eq_ofNat_of_zero_le k0
      have hf3 := P3.2 _ _ a1p hf
      have hz : (natV ms).length < sizeLine := sz_lt (by rw [natV_len]; omega)
      refine ⟨_, rfl, a1, natV ms, k, .int (n : Nat), rfl, rfl, hf3, hz, by omega, by omega, ?_⟩
      have el : (natV ms).take k ++ [V.int (n : Nat)] ++ (natV ms).drop k = natV (ms.take k ++ [n] ++ ms.drop k) := by
        unfold natV
        rw [List.map_append, List.map_append, List.map_take, List.map_drop]
        rfl
      rw [show ((k : Nat) : Int).toNat = k by omega, el]
      refine ⟨pot_upd (P2.trans P3) na1 a1p, _, _, rfl, upd_same, ?_⟩
      rw [take_snoc hx]
      refine List.Perm.trans ?_ (hm.append_right [n])
      rw [List.append_assoc]
      have e : (ms.take k ++ ([n] ++ ms.drop k)).Perm (ms.take k ++ (ms.drop k ++ [n])) := List.Perm.append_left _ List.perm_append_comm
      rw [← List.append_assoc (ms.take k) (ms.drop k), List.take_append_drop] at e
      exact e
    · rintro σ H2 ⟨P2, ms, v3, rfl, hf, hm⟩
      rw [List.take_length] at hm
      exact ⟨_, rfl, q a1 ms H2 na1 hf hm P2⟩
theorem ok__law_turned {P : Program} {w : World} {K : PySem.W.Frag} {mg : Str → Option Value} {base : Heap} (T : Env K mg) : Fc P w K mg base 2 (He.ga K "_law_turned") [] (sp__law_turned K ) := by
  obtain ⟨fd, D, F⟩ := fb__law_turned T
  exact F.all (D.bindsN fun _ _ _ _ _ _ us hl => match us, hl with | [_, _], _ => rfl)
end
section
def sp__law_is_over (K : PySem.W.Frag) : Sp := fun vs H Q _ => ∃ (r : Addr) (ns : List Nat) (b p s : Nat), vs = [.ref r, .int (b : Nat), .int (p : Nat), .int (s : Nat)] ∧ SqL K H r (natV ns) ∧ b + s ≤ ns.length ∧ 1 ≤ p ∧ p < s ∧ ns.length ≤ 1000 ∧ Q (.bl (isOv ns b p s)) H
theorem fb__law_is_over {P : Program} {w : World} {K : PySem.W.Frag} {mg : Str → Option Value} {base : Heap} (T : Env K mg) : ∃ fd, FunD K "_law_is_over" "_law_is_over" (defArgs s__law_is_over) (defBody s__law_is_over) (defScope s__law_is_over) [] [] (He.ga K "_law_is_over") fd ∧ Fb P w K mg base 1 (He.ga K "_law_is_over") fd ["_law_row", "_law_begin", "_law_part_here", "_law_size"] (sp__law_is_over K) := by
  obtain ⟨fd, F⟩ := T.f__law_is_over
  refine ⟨fd, F, fb_of F sc__law_is_over (fun vs H Q E h => ?_) (fun cdv A outer s H vs Q E hr h => ?_)⟩
  · obtain ⟨r, ns, b, p, s, rfl, _⟩ := h
    rfl
  · obtain ⟨r, ns, b, p, s_, rfl, hw, hbs, p1, ps, hl, q⟩ := h
    refine ⟨_, (pss_cons (ps_set (i := 4) sc__law_is_over.nd rfl (Or.inl rfl) (pe_op op_sub (pe_ix ix_list (pv 0) (pe_op op_add (pv 1) (pv 2)) (fun _ _ => rfl)) (pe_ix ix_list (pv 0) (pv 1) (fun _ _ => rfl))))
      (pss_cons (ps_for (passes_of rfl) rfl (pi_range2 (by rfl) T.n_range (pa_cons (pv 1) (pa_cons (pe_op op_sub (pe_op op_add (pv 1) (pv 3)) (pv 2)) pa_nil))) (pg_name (i := 5) sc__law_is_over.nd rfl (Or.inl rfl))
      (pss_cons (ps_set (i := 6) sc__law_is_over.nd rfl (Or.inl rfl) (pe_ix ix_list (pv 0) (pe_op op_add (pv 5) (pv 2)) (fun _ _ => rfl)))
      (pss_one (ps_if (pt_cmpR op_ne (pe_op op_sub (pv 6) (pe_ix ix_list (pv 0) (pv 5) (fun _ _ => rfl))) (pv 4) (nomark _))
      (pss_one (ps_ret pe_bl))
      pss_nil))))
      (pss_one (ps_ret pe_bl)))), ?_⟩
    have i1 := natV_at (ns := ns) (i := (b : Int) + (p : Int)) (k := b + p) (by omega) (by omega)
    have i2 := natV_at (ns := ns) (i := (b : Int)) (k := b) rfl (by omega)
    refine ⟨_, rfl, _, rfl, _, rfl, _, _, rfl, rfl, _, _, _, _, rfl, rfl, hw, i1, _, rfl, _, rfl, _, _, _, _, rfl, rfl, hw, i2, _, _, rfl, rfl, _, rfl, _, rfl, _, rfl, _, _, rfl, rfl, _, rfl, _, _, rfl, rfl, _, _, rfl, ⟨(by omega), ⟨(by omega), ⟨(by omega), (by omega)⟩⟩⟩, ?_⟩
    have en : ((b : Int) + (s_ : Int) - (p : Int) - (b : Int)).toNat = s_ - p := by omega
    rw [en]
    refine for_range (fun i σ H' => H' = H ∧ (∀ k, k < i → decide ((gN ns (b + k + p) : Int) - gN ns (b + k) = (gN ns (b + p) : Int) - gN ns b) = true) ∧ ∃ v5 v6, σ = [some (.ref r), some (.int (b : Nat)), some (.int (p : Nat)), some (.int (s_ : Nat)), some (.int ((gN ns (b + p) : Int) - gN ns b)), v5, v6]) ⟨rfl, fun k hk => absurd hk (Nat.not_lt_zero k), _, _, rfl⟩ ?_ ?_
    · rintro i σ H1 hi ⟨rfl, hk, v5, v6, rfl⟩
      have i3 := natV_at (ns := ns) (i := (b : Int) + (i : Int) + (p : Int)) (k := b + i + p) (by omega) (by omega)
      have i4 := natV_at (ns := ns) (i := (b : Int) + (i : Int)) (k := b + i) (by omega) (by omega)
      refine ⟨_, rfl, _, rfl, _, rfl, _, _, rfl, rfl, _, _, _, _, rfl, rfl, hw, i3, _, rfl, _, rfl, _, rfl, _, _, _, _, rfl, rfl, hw, i4, _, _, rfl, rfl, _, rfl, rfl, _, rfl, ?_⟩
      try dsimp only [tNil]
      rw [vint_dec]
      cases hd : decide ((gN ns (b + i + p) : Int) - gN ns (b + i) = (gN ns (b + p) : Int) - gN ns b) with
      | false =>
        refine iteT ?_
        have e : isOv ns b p s_ = false := Bool.eq_false_iff.mpr fun w => by
          have := List.all_eq_true.mp w i (List.mem_range.mpr hi)
          rw [hd] at this
          cases this
        rw [e] at q
        exact q
      | true =>
        refine iteF ⟨rfl, fun k hk2 => ?_, _, _, rfl⟩
        rcases Nat.lt_succ_iff_lt_or_eq.mp hk2 with h | rfl
        · exact hk k h
        · exact hd
    · rintro σ H1 ⟨rfl, hk, v5, v6, rfl⟩
      have e : isOv ns b p s_ = true := List.all_eq_true.mpr fun k hk2 => hk k (List.mem_range.mp hk2)
      rw [e] at q
      exact q
theorem ok__law_is_over {P : Program} {w : World} {K : PySem.W.Frag} {mg : Str → Option Value} {base : Heap} (T : Env K mg) : Fc P w K mg base 1 (He.ga K "_law_is_over") [] (sp__law_is_over K ) := by
  obtain ⟨fd, D, F⟩ := fb__law_is_over T
  exact F.all (D.bindsN fun _ _ _ _ _ _ us hl => match us, hl with | [_, _, _, _], _ => rfl)
end
section
def mixP (ns : List Nat) (pap : List (List Int)) (b s i : Nat) : List Int := (List.range i).flatMap fun k => (pg pap b k + pg pap (b + k + 1) (s - k - 2)) :: (if firstB ns b s k = true then [pg pap b k + 1] else [])
theorem mixP_succ (ns : List Nat) (pap : List (List Int)) (b s i : Nat) : mixP ns pap b s (i + 1) = mixP ns pap b s i ++ ((pg pap b i + pg pap (b + i + 1) (s - i - 2)) :: (if firstB ns b s i = true then [pg pap b i + 1] else [])) := by
  unfold mixP
  rw [List.range_succ, List.flatMap_append]
  simp
theorem mixP_len (ns : List Nat) (pap : List (List Int)) (b s i : Nat) : (mixP ns pap b s i).length ≤ 2 * i := by
  induction i with
  | zero => simp [mixP]
  | succ i ih =>
    rw [mixP_succ, List.length_append, List.length_cons]
    split <;> simp <;> omega
theorem mixP_pos (ns : List Nat) (pap : List (List Int)) (b s i : Nat) (h : 0 < i) : 0 < (mixP ns pap b s i).length := by
  obtain ⟨j, rfl⟩ : ∃ j, i = j + 1 := ⟨i - 1, by omega⟩
  rw [mixP_succ, List.length_append, List.length_cons]
  omega
theorem mixP_min (ns : List Nat) (pap : List (List Int)) (b s : Nat) : minI (mixP ns pap b s (s - 1)) = minI (cutsP pap b s ++ oversP ns pap b s) := by
  apply minI_same
  intro x
  unfold mixP cutsP oversP firstP
  rw [List.mem_append, List.mem_map, List.mem_flatMap, List.mem_map]
  constructor
  · rintro ⟨k, hk, h⟩
    rcases List.mem_cons.mp h with rfl | h
    · exact .inl ⟨k, hk, rfl⟩
    · by_cases c : firstB ns b s k = true
      · rw [if_pos c] at h
        refine .inr ⟨k + 1, List.mem_filterMap.mpr ⟨k, hk, by rw [if_pos c]⟩, ?_⟩
        rw [List.mem_singleton.mp h]
        rfl
      · rw [if_neg c] at h
        cases h
  · rintro (⟨k, hk, rfl⟩ | ⟨p, hp, rfl⟩)
    · exact ⟨k, hk, List.mem_cons_self⟩
    · obtain ⟨k, hk, e⟩ := List.mem_filterMap.mp hp
      by_cases c : firstB ns b s k = true
      · rw [if_pos c] at e
        injection e with e
        subst e
        exact ⟨k, hk, by rw [if_pos c]; exact List.mem_cons_of_mem _ List.mem_cons_self⟩
      · rw [if_neg c] at e
        cases e
end
section
def sp__law_most (K : PySem.W.Frag) : Sp := fun vs H Q _ => ∃ (r p : Addr) (ns : List Nat) (pap : List (List Int)) (b s : Nat), vs = [.ref r, .ref p, .int (b : Nat), .int (s : Nat)] ∧ SqL K H r (natV ns) ∧ PapAt K H p pap ∧ Fits pap b s ∧ 1 ≤ s ∧ b + s ≤ ns.length ∧ ns.length ≤ 1000 ∧ ∀ H', Ex H H' → Q (.int (mostP ns pap b s)) H'
theorem fb__law_most {P : Program} {w : World} {K : PySem.W.Frag} {mg : Str → Option Value} {base : Heap} (T : Env K mg) : ∃ fd, FunD K "_law_most" "_law_most" (defArgs s__law_most) (defBody s__law_most) (defScope s__law_most) [] [] (He.ga K "_law_most") fd ∧ Fb P w K mg base 2 (He.ga K "_law_most") fd ["_law_row", "_law_rows", "_law_begin", "_law_size"] (sp__law_most K) := by
  obtain ⟨fd, F⟩ := T.f__law_most
  refine ⟨fd, F, fb_of F sc__law_most (fun vs H Q E h => ?_) (fun cdv A outer s H vs Q E hr h => ?_)⟩
  · obtain ⟨r, p, ns, pap, b, s, rfl, _⟩ := h
    rfl
  · obtain ⟨r, p, ns, pap, b, s_, rfl, hw, hP, hF, s1, hbs, hl, q⟩ := h
    refine ⟨_, (pss_cons (ps_if (pt_cmpR op_eq (pv 3) pe_int (nomark _))
      (pss_one (ps_ret pe_int))
      pss_nil)
      (pss_cons (ps_set (i := 4) sc__law_most.nd rfl (Or.inl rfl) (pe_lst pa_nil))
      (pss_cons (ps_for (passes_of rfl) rfl (pi_range2 (by rfl) T.n_range (pa_cons pe_int (pa_cons (pv 3) pa_nil))) (pg_name (i := 5) sc__law_most.nd rfl (Or.inl rfl))
      (pss_cons (ps_set (i := 6) sc__law_most.nd rfl (Or.inl rfl) (pe_ix (ix_seqA K) (pe_ix (ix_seqA K) (pv 1) (pv 2) (fun _ _ => rfl)) (pe_op op_sub (pv 5) pe_int) (fun _ _ => rfl)))
      (pss_cons (ps_set (i := 7) sc__law_most.nd rfl (Or.inl rfl) (pe_ix (ix_seqA K) (pv 1) (pe_op op_add (pv 2) (pv 5)) (fun _ _ => rfl)))
      (pss_cons (ps_expr (pe_bm PySem.F.plainAttrs_list PySem.F.slot_list_append PySem.F.type_list_append mt_append (pv 4) (pa_cons (pe_op op_add (pv 6) (pe_ix (ix_seqA K) (pv 7) (pe_op op_sub (pe_op op_sub (pv 3) (pv 5)) pe_int) (fun _ _ => rfl))) pa_nil)))
      (pss_one (ps_if (PW.pt (pw_and (pt_cmpR op_eq (pe_op op_mod (pv 3) (pv 5)) pe_int (nomark _)) (pw_and1 (pt_val (c_call (ok__law_is_over T) (hr.mono (by decide)) T.g__law_is_over T.k__law_is_over takes0 (pa_cons (pv 0) (pa_cons (pv 2) (pa_cons (pv 5) (pa_cons (pv 3) pa_nil)))))))))
      (pss_one (ps_expr (pe_bm PySem.F.plainAttrs_list PySem.F.slot_list_append PySem.F.type_list_append mt_append (pv 4) (pa_cons (pe_op op_add (pv 6) pe_int) pa_nil))))
      pss_nil))))))
      (pss_one (ps_ret (pe_callB (cr_min rfl) (by rfl) T.n_min (by decide +kernel) (pa_cons (pv 4) pa_nil))))))), ?_⟩
    refine ⟨_, rfl, rfl, _, rfl, ?_⟩
    try dsimp only [tNil]
    rw [vint_dec]
    refine ite2 (fun c => ?_) (fun c => ?_)
    · have c1 : s_ = 1 := by
        have := of_decide_eq_true c
        omega
      have z := q H (.refl _)
      unfold mostP at z
      rw [if_pos c1] at z
      exact z
    · have c1 : s_ ≠ 1 := fun z => c (decide_eq_true (by omega))
      refine ⟨(by decide), ?_⟩
      intro a1 na1
      have Xa1 := ex_new (o := HO.lst []) na1
      have ha1 : upd H a1 (HO.lst []) a1 = some (HO.lst []) := upd_same
      generalize upd H a1 (HO.lst []) = Ga1 at Xa1 ha1 ⊢
      refine ⟨_, rfl, _, _, rfl, ⟨(by decide), ⟨(by decide), ⟨(by omega), (by omega)⟩⟩⟩, ?_⟩
      have en : ((s_ : Int) - 1).toNat = s_ - 1 := by omega
      rw [en]
      refine for_range (fun i σ H' => Ex H H' ∧ ∃ v5 v6 v7, H' a1 = some (.lst ((mixP ns pap b s_ i).map V.int)) ∧ σ = [some (.ref r), some (.ref p), some (.int (b : Nat)), some (.int (s_ : Nat)), some (.ref a1), v5, v6, v7]) ⟨Xa1, _, _, _, by simpa [mixP] using ha1, rfl⟩ ?_ ?_
      · rintro i σ H1 hi ⟨X1, v5, v6, v7, hf, rfl⟩
        have hP' := hP.mono X1
        have hw1 := ex_sql X1 hw
        obtain ⟨f1, f2⟩ := hF 0 i (by omega) (by omega)
        obtain ⟨g1, g2⟩ := hF (i + 1) (s_ - i - 2) (by omega) (by omega)
        have lm := mixP_len ns pap b s_ i
        refine ⟨_, rfl, _, rfl, pap_ix hP' rfl (by simpa using f1) fun b1 h1 => ⟨_, rfl, _, _, rfl, rfl, row_ix h1 (j := i) (by omega) (by simpa using f2) ?_⟩⟩
        refine ⟨_, rfl, _, rfl, _, rfl, _, _, rfl, rfl, pap_ix hP' (i := b + i + 1) (by omega) (by omega) fun b2 h2 => ?_⟩
        refine ⟨_, rfl, (.inl ⟨rfl, ⟨_, (sq_lst hf)⟩⟩), _, rfl, _, rfl, _, rfl, _, rfl, _, _, rfl, rfl, _, _, rfl, rfl, ?_⟩
        refine row_ix h2 (j := s_ - i - 2) (by omega) (by omega) ⟨_, _, rfl, rfl, a1, _, _, rfl, rfl, hf, sz_lt (by rw [List.length_map]; omega), ?_⟩
        have e1 : (mixP ns pap b s_ i).map V.int ++ [V.int ((pap.getD b []).getD i 0 + (pap.getD (b + i + 1) []).getD (s_ - i - 2) 0)] = (mixP ns pap b s_ i ++ [pg pap b i + pg pap (b + i + 1) (s_ - i - 2)]).map V.int := by
          rw [List.map_append]
          rfl
        dsimp only
        rw [e1]
        have X2 : Ex H (upd H1 a1 (.lst ((mixP ns pap b s_ i ++ [pg pap b i + pg pap (b + i + 1) (s_ - i - 2)]).map V.int))) := ex_mut X1 na1
        have hf2 : upd H1 a1 (.lst ((mixP ns pap b s_ i ++ [pg pap b i + pg pap (b + i + 1) (s_ - i - 2)]).map V.int)) a1 = some (.lst ((mixP ns pap b s_ i ++ [pg pap b i + pg pap (b + i + 1) (s_ - i - 2)]).map V.int)) := upd_same
        generalize upd H1 a1 (.lst ((mixP ns pap b s_ i ++ [pg pap b i + pg pap (b + i + 1) (s_ - i - 2)]).map V.int)) = H2 at X2 hf2 ⊢
        have hw2 := ex_sql X2 hw
        have ei : (1 : Int) + (i : Int) = ((i + 1 : Nat) : Int) := by omega
        rw [ei]
        have hz : (0 : Int) < ((i + 1 : Nat) : Int) := by omega
        have hp1 : 1 ≤ i + 1 := by omega
        have hp2 : i + 1 < s_ := by omega
        have em : ((s_ : Nat) : Int) % ((i + 1 : Nat) : Int) = ((s_ % (i + 1) : Nat) : Int) := (Int.natCast_emod s_ (i + 1)).symm
        refine ⟨_, rfl, _, rfl, _, _, rfl, rfl, hz, rfl, _, rfl, ?_⟩
        try dsimp only [tNil]
        rw [vint_dec, em]
        refine ite2 (fun c => ?_) (fun c => ?_)
        · have c2 : s_ % (i + 1) = 0 := by
            have := of_decide_eq_true c
            omega
          have fb : firstB ns b s_ i = isOv ns b (i + 1) s_ := by
            unfold firstB
            rw [decide_eq_true c2, Bool.true_and]
          refine ⟨_, rfl, _, rfl, _, rfl, _, rfl, _, _, _, _, _, rfl, hw2, hbs, hp1, hp2, hl, _, rfl, ?_⟩
          try dsimp only [tNil]
          cases hv : isOv ns b (i + 1) s_ with
          | true =>
            refine iteT ?_
            refine ⟨_, rfl, .inl ⟨rfl, _, sq_lst hf2⟩, _, rfl, _, _, rfl, rfl, a1, _, _, rfl, rfl, hf2, sz_lt (by rw [List.length_map, List.length_append]; show _ + 1 ≤ _; omega), ?_⟩
            refine ⟨ex_mut X2 na1, _, _, _, ?_, rfl⟩
            rw [upd_same, mixP_succ, fb, hv, if_pos rfl]
            rw [List.map_append, List.map_append, List.append_assoc]
            rfl
          | false =>
            refine iteF ⟨X2, _, _, _, ?_, rfl⟩
            rw [hf2, mixP_succ, fb, hv, if_neg (by simp)]
        · have fb : firstB ns b s_ i = false := by
            unfold firstB
            rw [decide_eq_false (fun z => c (decide_eq_true (by omega))), Bool.false_and]
          refine iteF ⟨X2, _, _, _, ?_, rfl⟩
          rw [hf2, mixP_succ, fb, if_neg (by simp)]
      · rintro σ H1 ⟨X1, v5, v6, v7, hf, rfl⟩
        refine ⟨_, rfl, a1, _, rfl, sq_lst hf, ?_, fun m hm hle => ?_⟩
        · exact mixP_pos ns pap b s_ _ (by omega)
        · have z := q _ X1
          unfold mostP at z
          rw [if_neg c1, ← mixP_min ns pap b s_, ← minI_eq hm hle] at z
          exact z
theorem ok__law_most {P : Program} {w : World} {K : PySem.W.Frag} {mg : Str → Option Value} {base : Heap} (T : Env K mg) : Fc P w K mg base 2 (He.ga K "_law_most") [] (sp__law_most K ) := by
  obtain ⟨fd, D, F⟩ := fb__law_most T
  exact F.all (D.bindsN fun _ _ _ _ _ _ us hl => match us, hl with | [_, _, _, _], _ => rfl)
end
section
def sp__law_holds (K : PySem.W.Frag) : Sp := fun vs H Q _ => ∃ f p ns pap, vs = [.ref f, .ref p] ∧ SqL K H f (natV ns) ∧ PapAt K H p pap ∧ pap.length ≤ 1000 ∧ (∀ rw_ ∈ pap, rw_.length ≤ 1000) ∧ ns.length ≤ 1000 ∧ ∀ H', Ex H H' → Q (.bl (paperB ns pap)) H'
theorem fb__law_holds {P : Program} {w : World} {K : PySem.W.Frag} {mg : Str → Option Value} {base : Heap} (T : Env K mg) : ∃ fd, FunD K "_law_holds" "_law_holds" (defArgs s__law_holds) (defBody s__law_holds) (defScope s__law_holds) [] [] (He.ga K "_law_holds") fd ∧ Fb P w K mg base 3 (He.ga K "_law_holds") fd ["_law_row", "_law_rows"] (sp__law_holds K) := by
  obtain ⟨fd, F⟩ := T.f__law_holds
  refine ⟨fd, F, fb_of F sc__law_holds (fun vs H Q E h => ?_) (fun cdv A outer s H vs Q E hr h => ?_)⟩
  · obtain ⟨f, p, ns, pap, rfl, _⟩ := h
    rfl
  · obtain ⟨f, p, ms, pap, rfl, hf, hP, hp1, hp2, hln, q⟩ := h
    refine ⟨_, (pss_cons (ps_if (pt_cmpR op_ne (pe_callB call_len (by rfl) T.n_len (by decide +kernel) (pa_cons (pv 1) pa_nil)) (pe_callB call_len (by rfl) T.n_len (by decide +kernel) (pa_cons (pv 0) pa_nil)) (nomark _))
      (pss_one (ps_ret pe_bl))
      pss_nil)
      (Evl.pss_cut (ps_for (passes_of rfl) rfl (pi_enumB K (by rfl) T.n_enumerate (pa_cons (pv 1) pa_nil)) (pg_tup (by rfl) (pgs_cons (pg_name (i := 2) sc__law_holds.nd rfl (Or.inl rfl)) (pgs_cons (pg_name (i := 3) sc__law_holds.nd rfl (Or.inl rfl)) pgs_nil)))
      (pss_one (ps_if (pt_cmpR op_ne (pe_callB call_len (by rfl) T.n_len (by decide +kernel) (pa_cons (pv 3) pa_nil)) (pe_op op_sub (pe_callB call_len (by rfl) T.n_len (by decide +kernel) (pa_cons (pv 0) pa_nil)) (pv 2)) (nomark _))
      (pss_one (ps_ret pe_bl))
      pss_nil)))
      (pss_cons (ps_for (passes_of rfl) rfl (pi_enumB K (by rfl) T.n_enumerate (pa_cons (pv 1) pa_nil)) (pg_tup (by rfl) (pgs_cons (pg_name (i := 2) sc__law_holds.nd rfl (Or.inl rfl)) (pgs_cons (pg_name (i := 3) sc__law_holds.nd rfl (Or.inl rfl)) pgs_nil)))
      (pss_one (ps_for (passes_of rfl) rfl (pi_enumB K (by rfl) T.n_enumerate (pa_cons (pv 3) pa_nil)) (pg_tup (by rfl) (pgs_cons (pg_name (i := 4) sc__law_holds.nd rfl (Or.inl rfl)) (pgs_cons (pg_name (i := 5) sc__law_holds.nd rfl (Or.inl rfl)) pgs_nil)))
      (pss_cons (ps_set (i := 6) sc__law_holds.nd rfl (Or.inl rfl) (c_call (ok__law_most T) (hr.mono (by decide)) T.g__law_most T.k__law_most takes0 (pa_cons (pv 0) (pa_cons (pv 1) (pa_cons (pv 2) (pa_cons (pe_op op_add (pv 4) pe_int) pa_nil))))))
      (pss_one (ps_if (pt_cmpR op_gt (pv 5) (pv 6) (nomark _))
      (pss_one (ps_ret pe_bl))
      pss_nil))))))
      (pss_one (ps_ret pe_bl))))), ?_⟩
    obtain ⟨as, h1, h2, h3⟩ := id hP
    have hL : LenV K (.ref p) H pap.length := by
      rcases h1 with h | h
      · exact .inl ⟨_, h, by rw [List.length_map]; exact h2.symm⟩
      · exact .inr ⟨_, h, by rw [List.length_map]; exact h2.symm⟩
    refine ⟨_, rfl, _, _, rfl, hL, _, rfl, _, _, rfl, (.inl ⟨_, ⟨hf, rfl⟩⟩), rfl, _, rfl, ?_⟩
    try dsimp only [tNil]
    rw [vint_dec, natV_len]
    cases hd : decide ((pap.length : Int) = (ms.length : Int)) with
    | false =>
      have z := q H (.refl _)
      unfold paperB shapeB at z
      rw [decide_eq_false (fun w : pap.length = ms.length => by rw [w] at hd; simp at hd), Bool.false_and, Bool.false_and] at z
      exact iteT z
    | true =>
    have lp : pap.length = ms.length := by
      have := of_decide_eq_true hd
      omega
    refine iteF ⟨fun σ' H' => Ex H H' ∧ shapeB pap ms.length = true ∧ ∃ v2 v3 v4 v5 v6, σ' = [some (.ref f), some (.ref p), v2, v3, v4, v5, v6], ?_, ?_⟩
    · refine ⟨_, rfl, p, as.map V.ref, rfl, h1, fun J G wk hG => L2.for_it wk (fun i σ H' => Ex H H' ∧ (∀ k, k < i → decide (((pap.getD k []).length : Int) = (ms.length : Int) - (k : Int)) = true) ∧ ∃ v2 v3, σ = [some (.ref f), some (.ref p), v2, v3, none, none, none]) ⟨.refl _, (fun b hb => absurd hb (Nat.not_lt_zero b)), _, _, rfl⟩ (fun i σ H' _ z => hG H' (stays_ex z.1)) (fun i y σ H3 H4 hi z y2 => ?_) (fun σ H3 z => ?_)⟩
      · obtain ⟨X3, hk, v2, v3, rfl⟩ := z
        obtain ⟨T1, x1, x2, rfl, nT, rfl, g1, g2⟩ := y2
        injection g1 with g1
        subst g1
        dsimp only at g2
        rw [List.getElem?_map] at g2
        obtain ⟨c, hc, rfl⟩ := Option.map_eq_some_iff.mp g2
        rw [List.length_map] at hi
        have hr1 := h3 i c _ hc (List.getElem?_eq_getElem (by omega))
        have e3 : pap[i] = pap.getD i [] := by rw [List.getD_eq_getElem?_getD, List.getElem?_eq_getElem (by omega)]; rfl
        rw [e3] at hr1
        have X4 := X3.trans (ex_new (o := .tup [.int (i : Nat), .ref c]) nT)
        have hT : upd H3 T1 (.tup [.int (i : Nat), .ref c]) T1 = some (.tup [.int (i : Nat), .ref c]) := upd_same
        generalize upd H3 T1 (.tup [.int (i : Nat), .ref c]) = H4 at X4 hT ⊢
        have hr4 := hr1.mono X4
        have hf4 := ex_sql X4 hf
        have hB : LenV K (.ref c) H4 (pap.getD i []).length := by
          rcases hr4 with h | h
          · exact .inl ⟨_, h, (List.length_map _).symm⟩
          · exact .inr ⟨_, h, (List.length_map _).symm⟩
        refine ⟨T1, _, rfl, sq_tup hT, rfl, _, _, rfl, _, _, rfl, rfl, ?_⟩
        refine ⟨_, rfl, _, _, rfl, hB, _, rfl, _, _, rfl, (.inl ⟨_, ⟨hf4, rfl⟩⟩), _, rfl, _, _, rfl, rfl, rfl, _, rfl, ?_⟩
        try dsimp only [tNil]
        rw [vint_dec, natV_len]
        cases hd2 : decide (((pap.getD i []).length : Int) = (ms.length : Int) - (i : Int)) with
        | false =>
          have z := q H4 X4
          have e : shapeB pap ms.length = false := Bool.eq_false_iff.mpr fun w => by
            unfold shapeB at w
            have := List.all_eq_true.mp (Bool.and_eq_true_iff.mp w).2 i (List.mem_range.mpr (by omega))
            rw [hd2] at this
            cases this
          unfold paperB at z
          rw [e, Bool.false_and] at z
          exact iteT z
        | true =>
          refine iteF ⟨X4, fun k hk2 => ?_, _, _, rfl⟩
          rcases Nat.lt_succ_iff_lt_or_eq.mp hk2 with h | rfl
          · exact hk k h
          · exact hd2
      · obtain ⟨X3, hk, v2, v3, rfl⟩ := z
        rw [List.length_map, h2] at hk
        refine ⟨X3, ?_, _, _, _, _, _, rfl⟩
        unfold shapeB
        rw [decide_eq_true lp, Bool.true_and]
        exact List.all_eq_true.mpr fun k hk2 => hk k (List.mem_range.mp hk2)
    rintro σ' H2 ⟨X2, hsh, v2, v3, v4, v5, v6, rfl⟩
    have hf2 := ex_sql X2 hf
    have hP2 := hP.mono X2
    have lrow : ∀ b, b < ms.length → (pap.getD b []).length = ms.length - b := fun b hb => by
      unfold shapeB at hsh
      have z := of_decide_eq_true (List.all_eq_true.mp (Bool.and_eq_true_iff.mp hsh).2 b (List.mem_range.mpr (by omega)))
      omega
    have bad : ∀ b j H', b < ms.length → j < ms.length - b → ¬ pg pap b j ≤ mostP ms pap b (j + 1) → Ex H2 H' → Q (.bl false) H' := fun b j H' hb hj nle X => by
      have z := q H' (X2.trans X)
      have e : paperB ms pap = false := by
        unfold paperB
        rw [hsh, Bool.true_and]
        refine Bool.eq_false_iff.mpr fun w => ?_
        have w2 := List.all_eq_true.mp w b (List.mem_range.mpr hb)
        unfold rowB at w2
        exact nle (of_decide_eq_true (List.all_eq_true.mp w2 j (List.mem_range.mpr hj)))
      rw [e] at z
      exact z
    clear h1 h3 h2
    obtain ⟨as, h1, h2, h3⟩ := id hP2
    refine ⟨_, rfl, p, as.map V.ref, rfl, h1, fun J G wk hG => L2.for_it wk (fun i σ H' => Ex H2 H' ∧ (∀ b, b < i → rowB ms pap b = true) ∧ ∃ v3 v4 v5 v6 v7, σ = [some (.ref f), some (.ref p), v3, v4, v5, v6, v7]) ⟨.refl _, (fun b hb => absurd hb (Nat.not_lt_zero b)), _, _, _, _, _, rfl⟩ (fun i σ H' _ z => hG H' (stays_ex z.1)) (fun i y σ H3 H4 hi z y2 => ?_) (fun σ H3 z => ?_)⟩
    · obtain ⟨X3, hrows, v3, v4, v5, v6, v7, rfl⟩ := z
      obtain ⟨T1, x1, x2, rfl, nT, rfl, g1, g2⟩ := y2
      injection g1 with g1
      subst g1
      dsimp only at g2
      rw [List.getElem?_map] at g2
      obtain ⟨c, hc, rfl⟩ := Option.map_eq_some_iff.mp g2
      rw [List.length_map] at hi
      have hr1 := h3 i c _ hc (List.getElem?_eq_getElem (by omega))
      have e3 : pap[i] = pap.getD i [] := by rw [List.getD_eq_getElem?_getD, List.getElem?_eq_getElem (by omega)]; rfl
      rw [e3] at hr1
      have X4 := X3.trans (ex_new (o := .tup [.int (i : Nat), .ref c]) nT)
      have hT : upd H3 T1 (.tup [.int (i : Nat), .ref c]) T1 = some (.tup [.int (i : Nat), .ref c]) := upd_same
      generalize upd H3 T1 (.tup [.int (i : Nat), .ref c]) = H4 at X4 hT ⊢
      have hr4 := hr1.mono X4
      have li : i < ms.length := by omega
      have lri := lrow i li
      refine ⟨T1, _, rfl, sq_tup hT, rfl, _, _, rfl, _, _, rfl, rfl, ?_⟩
      refine ⟨_, rfl, c, _, rfl, hr4, fun J2 G2 wk2 hG2 => L2.for_it wk2 (fun j σ H' => Ex H2 H' ∧ Ex H4 H' ∧ (∀ k, k < j → pg pap i k ≤ mostP ms pap i (k + 1)) ∧ ∃ v5 v6 v7, σ = [some (.ref f), some (.ref p), some (.int (i : Nat)), some (.ref c), v5, v6, v7]) ⟨X4, .refl _, (fun b hb => absurd hb (Nat.not_lt_zero b)), _, _, _, rfl⟩ (fun j σ H' _ z => hG2 H' (stays_ex z.2.1)) (fun j y σ H5 H6 hj z y2 => ?_) (fun σ H5 z => ?_)⟩
      · obtain ⟨X5, X45, hk, v5, v6, v7, rfl⟩ := z
        obtain ⟨T2, y1, y2, rfl, nT2, rfl, g1, g2⟩ := y2
        injection g1 with g1
        subst g1
        dsimp only at g2
        rw [List.length_map] at hj
        have e4 : y2 = .int (pg pap i j) := by
          rw [List.getElem?_map, List.getElem?_eq_getElem hj] at g2
          have : (pap.getD i [])[j] = pg pap i j := by
            show _ = ((pap.getD i []).getD j 0)
            generalize pap.getD i [] = row_ at hj ⊢
            rw [List.getD_eq_getElem?_getD, List.getElem?_eq_getElem hj]
            rfl
          rw [this] at g2
          exact (Option.some.inj g2).symm
        subst e4
        have X6 := X5.trans (ex_new (o := .tup [.int (j : Nat), .int (pg pap i j)]) nT2)
        have X46 := X45.trans (ex_new (o := .tup [.int (j : Nat), .int (pg pap i j)]) nT2)
        have hT2 : upd H5 T2 (.tup [.int (j : Nat), .int (pg pap i j)]) T2 = some (.tup [.int (j : Nat), .int (pg pap i j)]) := upd_same
        generalize upd H5 T2 (.tup [.int (j : Nat), .int (pg pap i j)]) = H6 at X6 X46 hT2 ⊢
        refine ⟨T2, _, rfl, sq_tup hT2, rfl, _, _, rfl, _, _, rfl, rfl, ?_⟩
        have hF := shape_fits (b := i) (s := j + 1) hsh (by omega)
        have hw6 := ex_sql X6 hf2
        have hP6 := hP2.mono X6
        have hs1 : 1 ≤ j + 1 := by omega
        have hs2 : i + (j + 1) ≤ ms.length := by omega
        refine ⟨_, rfl, _, rfl, _, rfl, _, rfl, _, _, rfl, rfl, _, _, _, _, _, _, rfl, hw6, hP6, hF, hs1, hs2, hln, ?_⟩
        intro H7 X7
        refine ⟨_, rfl, _, rfl, _, _, rfl, rfl, _, rfl, ?_⟩
        try dsimp only [tNil]
        refine ite2 (fun c => ?_) (fun c => ?_)
        · exact bad i j H7 li (by omega) (fun z => Int.not_lt.mpr z (of_decide_eq_true c)) (X6.trans X7)
        · have c2 : pg pap i j ≤ mostP ms pap i (j + 1) := Decidable.by_contra fun z => c (decide_eq_true (Int.not_le.mp z))
          refine ⟨X6.trans X7, X46.trans X7, fun k hk2 => ?_, _, _, _, rfl⟩
          rcases Nat.lt_succ_iff_lt_or_eq.mp hk2 with h | rfl
          · exact hk k h
          · exact c2
      · obtain ⟨X5, X45, hk, v5, v6, v7, rfl⟩ := z
        rw [List.length_map, lri] at hk
        refine ⟨X5, fun b hb => ?_, _, _, _, _, _, rfl⟩
        rcases Nat.lt_succ_iff_lt_or_eq.mp hb with hb | rfl
        · exact hrows b hb
        · unfold rowB
          exact List.all_eq_true.mpr fun k hk2 => decide_eq_true (hk k (List.mem_range.mp hk2))
    · obtain ⟨X3, hrows, v3, v4, v5, v6, v7, rfl⟩ := z
      rw [List.length_map, h2, lp] at hrows
      have z := q H3 (X2.trans X3)
      unfold paperB at z
      rw [hsh, Bool.true_and, List.all_eq_true.mpr fun b hb => hrows b (List.mem_range.mp hb)] at z
      exact z
theorem ok__law_holds {P : Program} {w : World} {K : PySem.W.Frag} {mg : Str → Option Value} {base : Heap} (T : Env K mg) : Fc P w K mg base 3 (He.ga K "_law_holds") [] (sp__law_holds K ) := by
  obtain ⟨fd, D, F⟩ := fb__law_holds T
  exact F.all (D.bindsN fun _ _ _ _ _ _ us hl => match us, hl with | [_, _], _ => rfl)
end
section
/-- rows of a paper in lists of their own, which stand at places that N tells -/
def PapL (N : Addr → Prop) (H : Hp) (a : Addr) (pap : List (List Int)) (as : List Addr) : Prop := H a = some (.lst (as.map V.ref)) ∧ as.length = pap.length ∧ as.Nodup ∧ ∀ (i : Nat) (b : Addr), as[i]? = some b → N b ∧ b ≠ a ∧ H b = some (.lst ((pap.getD i []).map V.int))
theorem PapL.at {K : PySem.W.Frag} {N : Addr → Prop} {H : Hp} {a : Addr} {pap : List (List Int)} {as : List Addr} (h : PapL N H a pap as) : PapAt K H a pap := by
  obtain ⟨h1, h2, _, h3⟩ := h
  refine ⟨as, .inl (sq_lst h1), h2, fun i b r hi hr => .inl ?_⟩
  have := (h3 i b hi).2.2
  rw [List.getD_eq_getElem?_getD, hr] at this
  exact sq_lst this
theorem PapL.mono {N : Addr → Prop} {H H' : Hp} {a : Addr} {pap : List (List Int)} {as : List Addr} (h : PapL N H a pap as) (e : Ex H H') : PapL N H' a pap as := ⟨e _ _ h.1, h.2.1, h.2.2.1, fun i b hi => let ⟨h1, h2, h3⟩ := h.2.2.2 i b hi; ⟨h1, h2, e _ _ h3⟩⟩
theorem PapL.put {N : Addr → Prop} {H : Hp} {a : Addr} {pap : List (List Int)} {as : List Addr} (h : PapL N H a pap as) {i : Nat} {b : Addr} (hi : as[i]? = some b) (r : List Int) : PapL N (upd H b (.lst (r.map V.int))) a (pap.set i r) as := by
  obtain ⟨h1, h2, h3, h4⟩ := h
  have ba := (h4 i b hi).2.1
  obtain ⟨il, _⟩ := List.getElem?_eq_some_iff.mp hi
  refine ⟨by rw [upd_ne (Ne.symm ba)]; exact h1, by rw [List.length_set]; exact h2, h3, fun j c hj => ?_⟩
  obtain ⟨g1, g2, g3⟩ := h4 j c hj
  refine ⟨g1, g2, ?_⟩
  by_cases e : j = i
  · subst e
    rw [hi] at hj
    cases hj
    rw [upd_same, List.getD_eq_getElem?_getD, List.getElem?_set_self (by omega)]
    rfl
  · have bc : c ≠ b := fun z => e (by
      obtain ⟨jl, e1⟩ := List.getElem?_eq_some_iff.mp hj
      obtain ⟨il, e2⟩ := List.getElem?_eq_some_iff.mp hi
      exact (List.getElem_inj h3).mp (by rw [e1, e2, z]))
    rw [upd_ne bc, g3, List.getD_eq_getElem?_getD, List.getD_eq_getElem?_getD, List.getElem?_set_ne (Ne.symm e)]
/-- all entries are of a size -/
def smallP (m : Nat) (pap : List (List Int)) : Prop := ∀ r ∈ pap, ∀ x ∈ r, x.natAbs ≤ m
theorem smallP_set {m : Nat} {pap : List (List Int)} (h : smallP m pap) {i : Nat} {r : List Int} (hr : ∀ x ∈ r, x.natAbs ≤ m) : smallP m (pap.set i r) := fun s hs x hx => by
  rcases List.mem_or_eq_of_mem_set hs with z | z
  · exact h s z x hx
  · subst z
    exact hr x hx
theorem smallP_le {m k : Nat} {pap : List (List Int)} (h : smallP m pap) (e : m ≤ k) : smallP k pap := fun r hr x hx => Nat.le_trans (h r hr x hx) e
end
section
def Shp (n i j : Nat) (pap : List (List Int)) : Prop := pap.length = n ∧ ∀ b, b < n → (pap.getD b []).length = if b < j then i + 1 else min i (n - b)
def Bd (pap : List (List Int)) : Prop := ∀ b k, k < (pap.getD b []).length → 1 ≤ pg pap b k ∧ pg pap b k ≤ (k : Int) + 1
theorem shp_fits {n i j : Nat} {pap : List (List Int)} (h : Shp n i j pap) (hj : j + i + 1 ≤ n) : Fits pap j (i + 1) := by
  obtain ⟨h1, h2⟩ := h
  intro p k hpk h0
  refine ⟨by omega, ?_⟩
  rw [h2 _ (by omega)]
  split
  · omega
  · by_cases c : p = 0
    · have := h0 c
      omega
    · omega
theorem getD_set_self {pap : List (List Int)} {j : Nat} (r : List Int) (h : j < pap.length) : (pap.set j r).getD j [] = r := by
  rw [List.getD_eq_getElem?_getD, List.getElem?_set_self h]
  rfl
theorem getD_set_ne {pap : List (List Int)} {j b : Nat} (r : List Int) (h : j ≠ b) : (pap.set j r).getD b [] = pap.getD b [] := by
  rw [List.getD_eq_getElem?_getD, List.getD_eq_getElem?_getD, List.getElem?_set_ne h]
theorem shp_step {n i j : Nat} {pap : List (List Int)} (h : Shp n i j pap) (hj : j + i + 1 ≤ n) (v : Int) : Shp n i (j + 1) (pap.set j (pap.getD j [] ++ [v])) := by
  obtain ⟨h1, h2⟩ := h
  refine ⟨by rw [List.length_set]; exact h1, fun b hb => ?_⟩
  by_cases c : b = j
  · subst c
    rw [getD_set_self _ (by omega), List.length_append, h2 b hb, if_neg (Nat.lt_irrefl _), if_pos (Nat.lt_succ_self _)]
    show min i (n - b) + 1 = i + 1
    omega
  · rw [getD_set_ne _ (Ne.symm c), h2 b hb]
    by_cases d : b < j
    · rw [if_pos d, if_pos (by omega)]
    · rw [if_neg d, if_neg (by omega)]
theorem bd_step {n i j : Nat} {pap : List (List Int)} (h : Shp n i j pap) (hj : j + i + 1 ≤ n) (hb : Bd pap) {v : Int} (v1 : 1 ≤ v) (v2 : v ≤ (i : Int) + 1) : Bd (pap.set j (pap.getD j [] ++ [v])) := by
  obtain ⟨h1, h2⟩ := h
  intro b k hk
  unfold pg
  by_cases c : b = j
  · subst c
    rw [getD_set_self _ (by omega)] at hk ⊢
    have lr := h2 b (by omega)
    rw [if_neg (Nat.lt_irrefl _)] at lr
    rw [List.length_append] at hk
    have hk2 : k < (pap.getD b []).length + 1 := hk
    by_cases d : k < (pap.getD b []).length
    · have := hb b k d
      unfold pg at this
      rw [List.getD_eq_getElem?_getD, List.getElem?_append_left d, ← List.getD_eq_getElem?_getD]
      exact this
    · have e : k = (pap.getD b []).length := by omega
      rw [List.getD_eq_getElem?_getD, e, List.getElem?_append_right (Nat.le_refl _)]
      simp only [Nat.sub_self, List.getElem?_cons_zero, Option.getD_some]
      omega
  · rw [getD_set_ne _ (Ne.symm c)] at hk ⊢
    exact hb b k hk
theorem shp_next {n i : Nat} {pap : List (List Int)} (h : Shp n i (n - i) pap) : Shp n (i + 1) 0 pap := by
  obtain ⟨h1, h2⟩ := h
  refine ⟨h1, fun b hb => ?_⟩
  rw [h2 b hb, if_neg (Nat.not_lt_zero b)]
  split <;> omega
theorem shp_zero (n : Nat) : Shp n 0 0 (List.replicate n []) := by
  refine ⟨List.length_replicate, fun b hb => ?_⟩
  rw [List.getD_eq_getElem?_getD, List.getElem?_replicate, if_pos hb, if_neg (Nat.not_lt_zero b)]
  simp
theorem bd_zero (n : Nat) : Bd (List.replicate n []) := fun b k hk => by
  rw [List.getD_eq_getElem?_getD, List.getElem?_replicate] at hk
  split at hk <;> simp at hk
theorem most_bounds {ns : List Nat} {pap : List (List Int)} {b s : Nat} (hb : Bd pap) (hF : Fits pap b s) (hs : 1 ≤ s) : 1 ≤ mostP ns pap b s ∧ mostP ns pap b s ≤ (s : Int) := by
  unfold mostP
  by_cases c : s = 1
  · rw [if_pos c]
    omega
  · rw [if_neg c]
    have g1 : ∀ k, k < s - 1 → 1 ≤ pg pap b k ∧ pg pap b k ≤ (k : Int) + 1 := fun k hk => hb b k (by have := (hF 0 k (by omega) (by omega)).2; simpa using this)
    have g2 : ∀ k, k < s - 1 → 1 ≤ pg pap (b + k + 1) (s - k - 2) ∧ pg pap (b + k + 1) (s - k - 2) ≤ ((s - k - 2 : Nat) : Int) + 1 := fun k hk => hb (b + k + 1) (s - k - 2) (by
      have := (hF (k + 1) (s - k - 2) (by omega) (by omega)).2
      rw [show b + (k + 1) = b + k + 1 by omega] at this
      exact this)
    have m0 : pg pap b 0 + pg pap (b + 0 + 1) (s - 0 - 2) ∈ cutsP pap b s ++ oversP ns pap b s := List.mem_append_left _ (List.mem_map.mpr ⟨0, List.mem_range.mpr (by omega), rfl⟩)
    obtain ⟨h1, h2⟩ := minI_mem (List.ne_nil_of_mem m0)
    have a1 := h2 _ m0
    have a2 := g1 0 (by omega)
    have a3 := g2 0 (by omega)
    generalize minI (cutsP pap b s ++ oversP ns pap b s) = mv at h1 a1 ⊢
    refine ⟨?_, by omega⟩
    rcases List.mem_append.mp h1 with h | h
    · unfold cutsP at h
      obtain ⟨k, hk, e⟩ := List.mem_map.mp h
      have hk2 := List.mem_range.mp hk
      have b1 := g1 k hk2
      have b2 := g2 k hk2
      omega
    · unfold oversP at h
      obtain ⟨p, hp, e⟩ := List.mem_map.mp h
      unfold firstP at hp
      obtain ⟨k, hk, e2⟩ := List.mem_filterMap.mp hp
      have hk2 := List.mem_range.mp hk
      split at e2
      · injection e2 with e2
        have b1 := g1 (p - 1) (by omega)
        omega
      · cases e2
theorem bd_small {n : Nat} {pap : List (List Int)} (h : Shp n n 0 pap) (hb : Bd pap) (hn : n ≤ 40) : smallP 100 pap := fun r hr x hx => by
  obtain ⟨h1, h2⟩ := h
  obtain ⟨i, il, rfl⟩ := List.getElem_of_mem hr
  obtain ⟨j, jl, rfl⟩ := List.getElem_of_mem hx
  have e : pap.getD i [] = pap[i] := by rw [List.getD_eq_getElem?_getD, List.getElem?_eq_getElem il]; rfl
  have lr := h2 i (by omega)
  rw [if_neg (Nat.not_lt_zero i), e] at lr
  have z := hb i j (by rw [e]; exact jl)
  unfold pg at z
  rw [e, List.getD_eq_getElem?_getD, List.getElem?_eq_getElem jl] at z
  simp only [Option.getD_some] at z
  omega
end
section
def sp__law_numbers (K : PySem.W.Frag) : Sp := fun vs H Q _ => ∃ (r : Addr) (ns : List Nat), vs = [.ref r] ∧ H r = some (.lst (natV ns)) ∧ ns.length ≤ 40 ∧ ∀ a pap as H', Ex H H' → H a = none → PapL (fun b => H b = none) H' a pap as → pap.length = ns.length → (∀ i, i < ns.length → (pap.getD i []).length = ns.length - i) → smallP 100 pap → Q (.ref a) H'
theorem fb__law_numbers {P : Program} {w : World} {K : PySem.W.Frag} {mg : Str → Option Value} {base : Heap} (T : Env K mg) : ∃ fd, FunD K "_law_numbers" "_law_numbers" (defArgs s__law_numbers) (defBody s__law_numbers) (defScope s__law_numbers) [] [] (He.ga K "_law_numbers") fd ∧ Fb P w K mg base 3 (He.ga K "_law_numbers") fd ["_law_row"] (sp__law_numbers K) := by
  obtain ⟨fd, F⟩ := T.f__law_numbers
  refine ⟨fd, F, fb_of F sc__law_numbers (fun vs H Q E h => ?_) (fun cdv A outer s H vs Q E hr h => ?_)⟩
  · obtain ⟨r, ns, rfl, _⟩ := h
    rfl
  · obtain ⟨r, ns, rfl, hw, hl, q⟩ := h
    refine ⟨_, (pss_cons (ps_setLc (i := 1) (own := [("_law_one", 4)]) (by rfl) sc__law_numbers.nd rfl rfl (sw_true rfl rfl rfl (by decide +kernel)) (pi_list (pv 0)) (blkOk_by (own := [("_law_one", 4)]) (N := ["_law_row", "_law_rows", "_law_size", "_law_begin", "_law_one"]) (sc := defScope s__law_numbers) (by decide +kernel)) (fun _ _ _ _ _ => (pg_name (i := 4) sc__law_numbers.nd rfl (Or.inl rfl))) (fun _ _ _ _ _ => pts_nil) (fun _ _ _ _ _ => (pe_lst pa_nil)))
      (pss_cons (ps_for (passes_of rfl) rfl (pi_range2 (by rfl) T.n_range (pa_cons pe_int (pa_cons (pe_op op_add (pe_callB call_len (by rfl) T.n_len (by decide +kernel) (pa_cons (pv 0) pa_nil)) pe_int) pa_nil))) (pg_name (i := 2) sc__law_numbers.nd rfl (Or.inl rfl))
      (pss_one (ps_for (passes_of rfl) rfl (pi_range1 (by rfl) T.n_range (pa_cons (pe_op op_add (pe_op op_sub (pe_callB call_len (by rfl) T.n_len (by decide +kernel) (pa_cons (pv 0) pa_nil)) (pv 2)) pe_int) pa_nil)) (pg_name (i := 3) sc__law_numbers.nd rfl (Or.inl rfl))
      (pss_one (ps_expr (pe_bm PySem.F.plainAttrs_list PySem.F.slot_list_append PySem.F.type_list_append mt_append (pe_ix ix_list (pv 1) (pv 3) (fun _ _ => rfl)) (pa_cons (c_call (ok__law_most T) (hr.mono (by decide)) T.g__law_most T.k__law_most takes0 (pa_cons (pv 0) (pa_cons (pv 1) (pa_cons (pv 3) (pa_cons (pv 2) pa_nil))))) pa_nil)))))))
      (pss_one (ps_ret (pv 1))))), ?_⟩
    refine ⟨_, rfl, _, rfl, ⟨_, (sq_lst hw)⟩, ?_⟩
    intro A nA
    refine lc_any (L2.walk_list (K := K) (a := r) (xs := natV ns)) (fun i acc G => Ex H G ∧ ∃ as : List Addr, acc = as.map V.ref ∧ as.length = i ∧ as.Nodup ∧ ∀ (k : Nat) (b : Addr), as[k]? = some b → H b = none ∧ b ≠ A ∧ G b = some (.lst [])) (fun i acc G z e => ?_) ⟨.refl _, [], rfl, rfl, List.nodup_nil, fun k b hk => by simp at hk⟩ (by rw [natV_len]; omega) (fun i acc G e => ?_) (fun i acc G e => sq_lst (e.1 _ _ hw)) (fun i x G G' acc N hi e hA' la y k _ => ?_) (fun acc G e hA' => ?_)
    · obtain ⟨e1, as, e2, e3, e4, e5⟩ := e
      refine ⟨ex_mut e1 nA, as, e2, e3, e4, fun k b hk => ?_⟩
      obtain ⟨g1, g2, g3⟩ := e5 k b hk
      exact ⟨g1, g2, by rw [upd_ne g2]; exact g3⟩
    · obtain ⟨_, as, rfl, e3, _⟩ := e
      rw [List.length_map, e3]
      exact Nat.le_refl _
    · obtain ⟨rfl, y⟩ := y
      obtain ⟨e1, as, e2, e3, e4, e5⟩ := e
      refine ⟨rfl, by show 0 ≤ sizeLine; decide, fun b nb => ?_⟩
      have X2 := ex_new (o := .lst []) nb
      have bA : b ≠ A := fun z => by rw [z, hA'] at nb; cases nb
      refine ⟨acc, X2 _ _ hA', la, k _ _ (X2 _ _ hA') ⟨e1.trans X2, as ++ [b], by rw [e2, List.map_append]; rfl, by rw [List.length_append, e3]; rfl, ?_, fun j c hj => ?_⟩⟩
      · refine List.nodup_append.mpr ⟨e4, List.pairwise_singleton _ _, fun c hc d hd z => ?_⟩
        rw [List.mem_singleton.mp hd] at z
        obtain ⟨j, jl, e6⟩ := List.getElem_of_mem hc
        have := (e5 j c (by rw [List.getElem?_eq_getElem jl, e6])).2.2
        rw [z, nb] at this
        cases this
      · by_cases d : j < as.length
        · rw [List.getElem?_append_left d] at hj
          obtain ⟨g1, g2, g3⟩ := e5 j c hj
          exact ⟨g1, g2, X2 _ _ g3⟩
        · rw [List.getElem?_append_right (by omega)] at hj
          have hj2 : [b][j - as.length]? = some c := hj
          have cb : c = b := List.mem_singleton.mp (List.mem_of_getElem? hj2)
          rw [cb]
          exact ⟨ex_fresh e1 nb, bA, upd_same⟩
    · obtain ⟨X1, as, rfl, e3, e4, e5⟩ := e
      rw [natV_len] at e3
      have P0 : PapL (fun b => H b = none) G A (List.replicate ns.length []) as := by
        refine ⟨hA', by rw [List.length_replicate]; exact e3, e4, fun i b hi => ?_⟩
        obtain ⟨g1, g2, g3⟩ := e5 i b hi
        refine ⟨g1, g2, ?_⟩
        rw [g3, List.getD_eq_getElem?_getD, List.getElem?_replicate]
        split <;> rfl
      have hw1 := X1 _ _ hw
      clear e5 hA'
      refine ⟨_, rfl, _, _, rfl, (.inl ⟨_, ⟨(sq_lst hw1), rfl⟩⟩), _, _, rfl, rfl, _, _, rfl, ?_⟩
      rw [natV_len]
      have en : ((ns.length : Int) + 1 - 1).toNat = ns.length := by omega
      rw [en]
      refine ⟨⟨by omega, by omega, by omega, by omega⟩, for_range (fun i σ H' => Ex H H' ∧ ∃ pap v3, PapL (fun b => H b = none) H' A pap as ∧ Shp ns.length i 0 pap ∧ Bd pap ∧ σ = [some (.ref r), some (.ref A), v3.1, v3.2, none]) ⟨X1, _, (none, none), P0, shp_zero _, bd_zero _, rfl⟩ ?_ ?_⟩
      · rintro i σ H1 hi ⟨X1, pap, v3, hP, hS, hB, rfl⟩
        have hw2 := X1 _ _ hw
        have lz : (natV ns).length = ns.length := natV_len ns
        have e1 : (1 : Int) + (i : Int) = ((i + 1 : Nat) : Int) := by omega
        rw [e1]
        refine ⟨_, rfl, _, _, rfl, (.inl ⟨_, ⟨(sq_lst hw2), rfl⟩⟩), _, rfl, _, _, rfl, rfl, _, _, rfl, rfl, _, rfl, (by omega), (by omega), ?_⟩
        rw [lz]
        have en2 : ((ns.length : Int) - ((i + 1 : Nat) : Int) + 1).toNat = ns.length - i := by omega
        rw [en2]
        refine for_range (fun j σ H' => Ex H H' ∧ ∃ pap v, PapL (fun b => H b = none) H' A pap as ∧ Shp ns.length i j pap ∧ Bd pap ∧ σ = [some (.ref r), some (.ref A), some (.int ((i + 1 : Nat) : Int)), v, none]) ⟨X1, pap, _, hP, hS, hB, rfl⟩ ?_ ?_
        · clear hP hS hB hw2 X1
          rintro j σ H2 hj ⟨X2, pap, v, hP, hS, hB, rfl⟩
          have hw3 := X2 _ _ hw
          have e0 : (0 : Int) + (j : Int) = (j : Int) := by omega
          rw [e0]
          have jn : j < as.length := by omega
          have hbj : as[j]? = some as[j] := List.getElem?_eq_getElem jn
          have hat : atI (as.map V.ref) (j : Int) = some (.ref as[j]) := atI_nat (by rw [List.getElem?_map, hbj]; rfl)
          obtain ⟨g1, g2, g3⟩ := hP.2.2.2 j _ hbj
          have hPA : PapAt K H2 A pap := hP.at
          have hA2 := hP.1
          have hF := shp_fits hS (by omega)
          have s1 : 1 ≤ i + 1 := by omega
          have s2 : j + (i + 1) ≤ ns.length := by omega
          have s3 : ns.length ≤ 1000 := by omega
          have mb := most_bounds (ns := ns) hB hF s1
          refine ⟨_, rfl, _, rfl, _, _, _, _, rfl, rfl, (sq_lst hA2), hat, (.inl ⟨rfl, ⟨_, (sq_lst g3)⟩⟩), _, rfl, _, rfl, _, rfl, _, rfl, _, _, _, _, _, _, rfl, (sq_lst hw3), hPA, hF, s1, s2, s3, ?_⟩
          intro H3 X3
          have lr := hS.2 j (by omega)
          rw [if_neg (Nat.lt_irrefl _)] at lr
          have hz : ((pap.getD j []).map V.int).length < sizeLine := sz_lt (by rw [List.length_map]; omega)
          refine ⟨_, _, _, rfl, rfl, (X3 _ _ g3), hz, (ex_mut (X2.trans X3) g1), ?_⟩
          have P3 := (hP.mono X3).put hbj (pap.getD j [] ++ [mostP ns pap j (i + 1)])
          rw [List.map_append] at P3
          exact ⟨_, _, P3, shp_step hS (by omega) _, bd_step hS (by omega) hB mb.1 (by have := mb.2; omega), rfl⟩
        · rintro σ H2 ⟨X2, pap, v, hP, hS, hB, rfl⟩
          exact ⟨X2, pap, (_, _), hP, shp_next hS, hB, rfl⟩
      · rintro σ H1 ⟨X1, pap, v3, hP, hS, hB, rfl⟩
        refine ⟨_, rfl, q A pap as H1 X1 nA hP hS.1 (fun i hi => ?_) (bd_small hS hB hl)⟩
        rw [hS.2 i hi, if_neg (Nat.not_lt_zero i)]
        omega
theorem ok__law_numbers {P : Program} {w : World} {K : PySem.W.Frag} {mg : Str → Option Value} {base : Heap} (T : Env K mg) : Fc P w K mg base 3 (He.ga K "_law_numbers") [] (sp__law_numbers K ) := by
  obtain ⟨fd, D, F⟩ := fb__law_numbers T
  exact F.all (D.bindsN fun _ _ _ _ _ _ us hl => match us, hl with | [_], _ => rfl)
end
section
def MkR (N : Addr → Prop) (A : Addr) (rw_ : Nat → List Int) (i : Nat) (acc : List V) (G : Hp) : Prop := ∃ as : List Addr, acc = as.map V.ref ∧ as.length = i ∧ as.Nodup ∧ ∀ (k : Nat) (b : Addr), as[k]? = some b → N b ∧ b ≠ A ∧ G b = some (.lst ((rw_ k).map V.int))
theorem MkR.nil {N : Addr → Prop} {A : Addr} {rw_ : Nat → List Int} {G : Hp} : MkR N A rw_ 0 [] G := ⟨[], rfl, rfl, List.nodup_nil, fun k b hk => by simp at hk⟩
theorem MkR.len {N : Addr → Prop} {A : Addr} {rw_ : Nat → List Int} {i : Nat} {acc : List V} {G : Hp} (h : MkR N A rw_ i acc G) : acc.length ≤ i := by
  obtain ⟨as, rfl, e3, _⟩ := h
  rw [List.length_map, e3]
  exact Nat.le_refl _
theorem MkR.mono {N : Addr → Prop} {A : Addr} {rw_ : Nat → List Int} {i : Nat} {acc : List V} {G G' : Hp} (h : MkR N A rw_ i acc G) (e : Ex G G') : MkR N A rw_ i acc G' := by
  obtain ⟨as, e2, e3, e4, e5⟩ := h
  exact ⟨as, e2, e3, e4, fun k b hk => let ⟨g1, g2, g3⟩ := e5 k b hk; ⟨g1, g2, e _ _ g3⟩⟩
theorem MkR.upd {N : Addr → Prop} {A : Addr} {rw_ : Nat → List Int} {i : Nat} {acc : List V} {G : Hp} (h : MkR N A rw_ i acc G) (o : HO) : MkR N A rw_ i acc (upd G A o) := by
  obtain ⟨as, e2, e3, e4, e5⟩ := h
  exact ⟨as, e2, e3, e4, fun k b hk => let ⟨g1, g2, g3⟩ := e5 k b hk; ⟨g1, g2, by rw [upd_ne g2]; exact g3⟩⟩
theorem MkR.snoc {N : Addr → Prop} {A : Addr} {rw_ : Nat → List Int} {i : Nat} {acc : List V} {G G' : Hp} {b : Addr} (h : MkR N A rw_ i acc G) (nb : G b = none) (Nb : N b) (bA : b ≠ A) (e : Ex G G') (hb : G' b = some (.lst ((rw_ i).map V.int))) : MkR N A rw_ (i + 1) (acc ++ [.ref b]) G' := by
  obtain ⟨as, e2, e3, e4, e5⟩ := h
  refine ⟨as ++ [b], by rw [e2, List.map_append]; rfl, by rw [List.length_append, e3]; rfl, ?_, fun j c hj => ?_⟩
  · refine List.nodup_append.mpr ⟨e4, List.pairwise_singleton _ _, fun c hc d hd z => ?_⟩
    rw [List.mem_singleton.mp hd] at z
    obtain ⟨j, jl, e6⟩ := List.getElem_of_mem hc
    have := (e5 j c (by rw [List.getElem?_eq_getElem jl, e6])).2.2
    rw [z, nb] at this
    cases this
  · by_cases d : j < as.length
    · rw [List.getElem?_append_left d] at hj
      obtain ⟨g1, g2, g3⟩ := e5 j c hj
      exact ⟨g1, g2, e _ _ g3⟩
    · rw [List.getElem?_append_right (by omega)] at hj
      have hj2 : [b][j - as.length]? = some c := hj
      have cb : c = b := List.mem_singleton.mp (List.mem_of_getElem? hj2)
      have ji : j = i := by
        obtain ⟨z, _⟩ := List.getElem?_eq_some_iff.mp hj2
        simp at z
        omega
      rw [cb, ji]
      exact ⟨Nb, bA, hb⟩
theorem MkR.pap {N : Addr → Prop} {A : Addr} {rw_ : Nat → List Int} {n : Nat} {acc : List V} {G : Hp} (h : MkR N A rw_ n acc G) (hA : G A = some (.lst acc)) : ∃ as, PapL N G A ((List.range n).map rw_) as := by
  obtain ⟨as, e2, e3, e4, e5⟩ := h
  subst e2
  refine ⟨as, hA, by simpa using e3, e4, fun i b hi => ?_⟩
  obtain ⟨g1, g2, g3⟩ := e5 i b hi
  refine ⟨g1, g2, ?_⟩
  obtain ⟨il, _⟩ := List.getElem?_eq_some_iff.mp hi
  rw [g3, List.getD_eq_getElem?_getD, List.getElem?_map, List.getElem?_range (by omega)]
  rfl
theorem PapL.weak {N N' : Addr → Prop} {G : Hp} {F : Addr} {pap : List (List Int)} {as : List Addr} (h : PapL N G F pap as) (w : ∀ b, N b → N' b) : PapL N' G F pap as := ⟨h.1, h.2.1, h.2.2.1, fun i b hi => let ⟨g1, g2⟩ := h.2.2.2 i b hi; ⟨w _ g1, g2⟩⟩
/-- all but q stays -/
theorem PapL.oth {N : Addr → Prop} {G G' : Hp} {F q : Addr} {pap : List (List Int)} {as : List Addr} (h : PapL N G F pap as) (k : ∀ b o, b ≠ q → G b = some o → G' b = some o) (Fq : F ≠ q) (Nq : ∀ b, N b → b ≠ q) : PapL N G' F pap as :=
  ⟨k _ _ Fq h.1, h.2.1, h.2.2.1, fun i b hi => let ⟨g1, g2, g3⟩ := h.2.2.2 i b hi; ⟨g1, g2, k _ _ (Nq _ g1) g3⟩⟩
theorem map_erase {α β : Type} (f : α → β) : ∀ (l : List α) (k : Nat), (l.map f).eraseIdx k = (l.eraseIdx k).map f
  | [], _ => rfl
  | _ :: _, 0 => rfl
  | n :: r, k + 1 => congrArg (f n :: ·) (map_erase f r k)
theorem getD_erase {α : Type} (d : α) : ∀ (l : List α) (k i : Nat), (l.eraseIdx k).getD i d = if i < k then l.getD i d else l.getD (i + 1) d
  | [], _, _ => by simp
  | _ :: _, 0, i => by simp
  | a :: r, k + 1, 0 => by simp
  | a :: r, k + 1, i + 1 => by
    have := getD_erase d r k i
    simp only [List.eraseIdx_cons_succ, List.getD_cons_succ, this]
    by_cases c : i < k
    · rw [if_pos c, if_pos (by omega)]
    · rw [if_neg c, if_neg (by omega)]
theorem PapL.drop {N : Addr → Prop} {G : Hp} {F : Addr} {pap : List (List Int)} {as : List Addr} (h : PapL N G F pap as) (k : Nat) : PapL N (upd G F (.lst ((as.map V.ref).eraseIdx k))) F (pap.eraseIdx k) (as.eraseIdx k) := by
  obtain ⟨h1, h2, h3, h4⟩ := h
  refine ⟨by rw [upd_same, map_erase], by rw [List.length_eraseIdx, List.length_eraseIdx, h2], h3.sublist (List.eraseIdx_sublist _ _), fun i b hi => ?_⟩
  rw [List.getElem?_eraseIdx] at hi
  rw [getD_erase]
  split at hi
  · rename_i c
    obtain ⟨g1, g2, g3⟩ := h4 i b hi
    rw [if_pos c, upd_ne g2]
    exact ⟨g1, g2, g3⟩
  · rename_i c
    obtain ⟨g1, g2, g3⟩ := h4 (i + 1) b hi
    rw [if_neg c, upd_ne g2]
    exact ⟨g1, g2, g3⟩
theorem range_pap (pap : List (List Int)) : (List.range pap.length).map (fun i => pap.getD i []) = pap := by
  apply List.ext_getElem?
  intro i
  by_cases h : i < pap.length
  · rw [List.getElem?_map, List.getElem?_range h, List.getElem?_eq_getElem h, Option.map_some, List.getD_eq_getElem?_getD, List.getElem?_eq_getElem h]
    rfl
  · rw [List.getElem?_eq_none (by simpa using Nat.le_of_not_lt h), List.getElem?_eq_none (Nat.le_of_not_lt h)]
/-- a row more, in a new list of rows -/
theorem PapL.snoc {N : Addr → Prop} {G G' : Hp} {F P b : Addr} {pap : List (List Int)} {as : List Addr} {r : List Int} (h : PapL N G F pap as) (nb : G b = none) (Nb : N b) (bP : b ≠ P) (nP : G P = none) (e : Ex G G') (hb : G' b = some (.lst (r.map V.int))) (hP : G' P = some (.lst (as.map V.ref ++ [.ref b]))) : PapL N G' P (pap ++ [r]) (as ++ [b]) := by
  obtain ⟨h1, h2, h3, h4⟩ := h
  refine ⟨by rw [hP, List.map_append]; rfl, by rw [List.length_append, List.length_append, h2]; rfl, ?_, fun i c hi => ?_⟩
  · refine List.nodup_append.mpr ⟨h3, List.pairwise_singleton _ _, fun c hc d hd z => ?_⟩
    rw [List.mem_singleton.mp hd] at z
    obtain ⟨j, jl, e6⟩ := List.getElem_of_mem hc
    have := (h4 j c (by rw [List.getElem?_eq_getElem jl, e6])).2.2
    rw [z, nb] at this
    cases this
  · by_cases d : i < as.length
    · rw [List.getElem?_append_left d] at hi
      obtain ⟨g1, g2, g3⟩ := h4 i c hi
      rw [List.getD_eq_getElem?_getD, List.getElem?_append_left (by omega), ← List.getD_eq_getElem?_getD]
      exact ⟨g1, fun z => (by rw [z, nP] at g3; cases g3), e _ _ g3⟩
    · rw [List.getElem?_append_right (by omega)] at hi
      have hi2 : [b][i - as.length]? = some c := hi
      have cb : c = b := List.mem_singleton.mp (List.mem_of_getElem? hi2)
      have ii : i = pap.length := by
        obtain ⟨z, _⟩ := List.getElem?_eq_some_iff.mp hi2
        simp at z
        omega
      rw [cb, ii, List.getD_eq_getElem?_getD, List.getElem?_append_right (Nat.le_refl _), Nat.sub_self]
      exact ⟨Nb, bP, hb⟩
theorem smallP_snoc {m : Nat} {pap : List (List Int)} (h : smallP m pap) {r : List Int} (hr : ∀ x ∈ r, x.natAbs ≤ m) : smallP m (pap ++ [r]) := fun s hs x hx => by
  rcases List.mem_append.mp hs with z | z
  · exact h s z x hx
  · rw [List.mem_singleton.mp z] at hx
    exact hr x hx
theorem PapL.row {N : Addr → Prop} {G : Hp} {F : Addr} {pap : List (List Int)} {as : List Addr} (h : PapL N G F pap as) {i : Nat} (hi : i < pap.length) : ∃ b : Addr, as[i]? = some b ∧ atI (as.map V.ref) (i : Int) = some (.ref b) ∧ N b ∧ b ≠ F ∧ G b = some (.lst ((pap.getD i []).map V.int)) := by
  obtain ⟨h1, h2, h3, h4⟩ := h
  have il : i < as.length := by omega
  have e1 : as[i]? = some as[i] := List.getElem?_eq_getElem il
  exact ⟨as[i], e1, atI_nat (by rw [List.getElem?_map, e1]; rfl), h4 i _ e1⟩
end
section
def sp__law_base (K : PySem.W.Frag) : Sp := fun vs H Q _ => ∃ (p r : Addr) (ns : List Nat), vs = [.ref p, .ref r] ∧ Pot H p ∧ r ≠ p ∧ H r = some (.lst (natV ns)) ∧ ns.length ≤ 40 ∧ ∀ a pap as H', H a = none → PapL (fun b => H b = none) H' a pap as → pap.length = ns.length → (∀ i, i < ns.length → (pap.getD i []).length = ns.length - i) → smallP 100 pap → PotOn H H' p → Q (.ref a) H'
theorem fb__law_base {P : Program} {w : World} {K : PySem.W.Frag} {mg : Str → Option Value} {base : Heap} (T : Env K mg) : ∃ fd, FunD K "_law_base" "_law_base" (defArgs s__law_base) (defBody s__law_base) (defScope s__law_base) [] [] (He.ga K "_law_base") fd ∧ Fb P w K mg base 30 (He.ga K "_law_base") fd ["_law_pot_here", "_law_row"] (sp__law_base K) := by
  obtain ⟨fd, F⟩ := T.f__law_base
  refine ⟨fd, F, fb_of F sc__law_base (fun vs H Q E h => ?_) (fun cdv A outer s H vs Q E hr h => ?_)⟩
  · obtain ⟨p, r, ns, rfl, _⟩ := h
    rfl
  · obtain ⟨p, r, ns, rfl, hp, rp, hw, hl, q⟩ := h
    refine ⟨_, (pss_cons (ps_set (i := 2) sc__law_base.nd rfl (Or.inr rfl) (c_call (ok__law_draw T) (hr.mono (by decide)) T.g__law_draw T.k__law_draw takes0 (pa_cons (pv 0) (pa_cons pe_int pa_nil))))
      (pss_cons (ps_if (pt_cmpR op_lt (pv 2) pe_int (nomark _))
      (pss_one (ps_ret (c_call (ok__law_numbers T) (hr.mono (by decide)) T.g__law_numbers T.k__law_numbers takes0 (pa_cons (pv 1) pa_nil))))
      pss_nil)
      (pss_one (ps_ret (pe_lc (own := [("_law_begin", 3)]) (by rfl) sc__law_base.nd (pi_range1 (by rfl) T.n_range (pa_cons (pe_callB call_len (by rfl) T.n_len (by decide +kernel) (pa_cons (pv 1) pa_nil)) pa_nil)) (blkOk_by (own := [("_law_begin", 3)]) (N := ["_law_pot_here", "_law_row", "_law_way", "_law_begin", "_law_size"]) (sc := defScope s__law_base) (by decide +kernel)) (fun _ _ _ _ _ => (pg_name (i := 3) sc__law_base.nd rfl (Or.inl rfl))) (fun _ _ _ _ _ => pts_nil) (fun _ _ _ _ _ => (pe_lc (own := [("_law_size", 4)]) (by rfl) sc__law_base.nd (pi_range1 (by rfl) T.n_range (pa_cons (pe_op op_sub (pe_callB (call_lenK K) (by rfl) T.n_len (by decide +kernel) (pa_cons (pv 1) pa_nil)) (pv 3)) pa_nil)) (blkOk_by (own := [("_law_size", 4)]) (N := ["_law_pot_here", "_law_row", "_law_way", "_law_begin", "_law_size"]) (sc := relS _ (defScope s__law_base)) (by decide +kernel)) (fun _ _ _ _ _ => (pg_name (i := 4) sc__law_base.nd rfl (Or.inl rfl))) (fun _ _ _ _ _ => pts_nil) (fun _ _ _ _ _ => (pe_op op_mul (pe_op op_add (pv 4) pe_int) (pe_callTy call_int1 (by rfl) T.n_int (by decide +kernel) (pa_cons (pe_cmpR op_eq (pv 2) pe_int (nomark _)) pa_nil))))))))))), ?_⟩
    refine ⟨_, rfl, _, _, rfl, hp, (by decide), (by decide), ?_⟩
    intro way H1 w0 w4 P1
    have hw1 := P1.2 _ _ rp hw
    refine ⟨_, rfl, _, _, rfl, rfl, _, rfl, ?_⟩
    try dsimp only [tNil]
    refine ite2 (fun c => ?_) (fun c => ?_)
    · refine ⟨_, rfl, _, _, rfl, hw1, hl, ?_⟩
      intro a pap as H2 X2 na hP h1 h2 h3
      exact q a pap as H2 (P1.fresh na) ⟨hP.1, hP.2.1, hP.2.2.1, fun i b hi => let ⟨g1, g2⟩ := hP.2.2.2 i b hi; ⟨P1.fresh g1, g2⟩⟩ h1 h2 h3 (P1.ex2 X2)
    · have lz : (natV ns).length = ns.length := natV_len ns
      refine ⟨_, rfl, _, _, rfl, (.inl ⟨_, ⟨(sq_lst hw1), rfl⟩⟩), _, rfl, ?_, ?_⟩
      · rw [lz]
        omega
      rw [lz, Int.toNat_natCast]
      refine ⟨by omega, ?_⟩
      obtain ⟨f, hf⟩ : ∃ f : Nat, f = if way = 2 then 1 else 0 := ⟨_, rfl⟩
      have f1 : f ≤ 1 := by rw [hf]; split <;> omega
      intro A nA
      refine lc_any (L2.walk_range (lo := 0) (n := ns.length)) (fun i acc G => Ex H1 G ∧ MkR (fun b => H1 b = none) A (fun b => (List.range (ns.length - b)).map fun s => ((s : Nat) + 1 : Int) * f) i acc G) (fun i acc G z e => ⟨ex_mut e.1 nA, e.2.upd _⟩) ⟨.refl _, .nil⟩ (by omega) (fun i acc G e => e.2.len) (fun _ _ _ _ => trivial) (fun i x G G' acc N hi e hA' la y k _ => ?_) (fun acc G e hA' => ?_)
      · obtain ⟨rfl, rfl⟩ := y
        obtain ⟨X2, hM⟩ := e
        have e0 : (0 : Int) + (i : Int) = (i : Int) := by omega
        have hw2 := X2 _ _ hw1
        show L3.Turn _ _ _ _ _ _ (.int ((0 : Int) + (i : Int))) _ _
        rw [e0]
        have im : i ≤ ns.length := by omega
        refine ⟨rfl, ?_⟩
        simp only [tYes, ↓reduceIte]
        refine ⟨_, rfl, _, _, rfl, (.inl ⟨_, ⟨(sq_lst hw2), rfl⟩⟩), _, rfl, _, _, rfl, rfl, _, rfl, ?_⟩
        rw [lz]
        have e1 : ((ns.length : Int) - (i : Int)).toNat = ns.length - i := by omega
        rw [e1]
        refine ⟨by omega, by omega, ?_⟩
        intro B nB
        have BA : B ≠ A := fun z => by rw [z, hA'] at nB; cases nB
        refine lc_rg (fun s => some (.int (((s : Nat) + 1 : Int) * f))) (fun G2 => Ex G' G2) (fun G2 l e => ex_mut e nB) (.refl _) (by omega) (fun s G2 acc2 N2 hs X3 hB la2 k2 => ?_) (fun G2 X3 hB => ?_)
        · have e2 : (0 : Int) + (s : Int) = (s : Int) := by omega
          rw [e2]
          refine ⟨rfl, ?_⟩
          simp only [tYes, ↓reduceIte]
          refine ⟨_, rfl, _, _, rfl, rfl, _, rfl, ?_⟩
          refine ⟨rfl, Or.inr ⟨_, rfl, ?_⟩⟩
          rw [vint_dec]
          have ef : (if (decide (way = 2)) = true then 1 else 0 : Int) = (f : Nat) := by
            rw [hf]
            by_cases c2 : way = 2
            · rw [if_pos c2, if_pos (decide_eq_true c2)]
              rfl
            · rw [if_neg c2, if_neg (by simpa using c2)]
              rfl
          rw [ef]
          refine ⟨_, _, rfl, rfl, .inr (by omega), acc2, hB, la2, ?_⟩
          exact k2 G2 X3 hB
        · have hB2 : G2 B = some (.lst (((List.range (ns.length - i)).map fun s => ((s : Nat) + 1 : Int) * f).map V.int)) := by
            rw [hB, List.filterMap_eq_map', List.map_map]
            rfl
          exact ⟨acc, X3 _ _ hA', la, k _ _ (X3 _ _ hA') ⟨X2.trans X3, hM.snoc nB (ex_fresh X2 nB) BA X3 hB2⟩⟩
      · obtain ⟨X2, hM⟩ := e
        obtain ⟨as, hP⟩ := hM.pap hA'
        refine q A _ as G (P1.fresh nA) ⟨hP.1, hP.2.1, hP.2.2.1, fun i b hi => let ⟨g1, g2⟩ := hP.2.2.2 i b hi; ⟨P1.fresh g1, g2⟩⟩ (by simp) (fun i hi => ?_) ?_ (P1.ex2 X2)
        · rw [List.getD_eq_getElem?_getD, List.getElem?_map, List.getElem?_range hi]
          simp
        · intro r hr x hx
          obtain ⟨i, hi, rfl⟩ := List.mem_map.mp hr
          obtain ⟨j, hj, rfl⟩ := List.mem_map.mp hx
          have i1 := List.mem_range.mp hi
          have j1 := List.mem_range.mp hj
          rw [Int.natAbs_mul]
          have : (((j : Nat) : Int) + 1).natAbs ≤ 40 := by omega
          have f2 : ((f : Nat) : Int).natAbs ≤ 1 := by omega
          exact Nat.le_trans (Nat.mul_le_mul this f2) (by decide)
theorem ok__law_base {P : Program} {w : World} {K : PySem.W.Frag} {mg : Str → Option Value} {base : Heap} (T : Env K mg) : Fc P w K mg base 30 (He.ga K "_law_base") [] (sp__law_base K ) := by
  obtain ⟨fd, D, F⟩ := fb__law_base T
  exact F.all (D.bindsN fun _ _ _ _ _ _ us hl => match us, hl with | [_, _], _ => rfl)
end
section
def sp__law_less (K : PySem.W.Frag) : Sp := fun vs H Q _ => ∃ p, vs = [.ref p] ∧ Pot H p ∧ ∀ (g : Nat) H', g < 10 ^ 50 → PotOn H H' p → Q (.int (g : Nat)) H'
theorem fb__law_less {P : Program} {w : World} {K : PySem.W.Frag} {mg : Str → Option Value} {base : Heap} (T : Env K mg) : ∃ fd, FunD K "_law_less" "_law_less" (defArgs s__law_less) (defBody s__law_less) (defScope s__law_less) [] [] (He.ga K "_law_less") fd ∧ Fb P w K mg base 2 (He.ga K "_law_less") fd ["_law_pot_here"] (sp__law_less K) := by
  obtain ⟨fd, F⟩ := T.f__law_less
  refine ⟨fd, F, fb_of F sc__law_less (fun vs H Q E h => ?_) (fun cdv A outer s H vs Q E hr h => ?_)⟩
  · obtain ⟨p, rfl, _⟩ := h
    rfl
  · obtain ⟨p, rfl, hp, q⟩ := h
    refine ⟨_, (pss_one (ps_ret (c_call (ok__law_draw T) (hr.mono (by decide)) T.g__law_draw T.k__law_draw takes0 (pa_cons (pv 0) (pa_cons (pe_ix ix_list (pe_lst (pa_cons pe_int (pa_cons pe_int (pa_cons pe_int (pa_cons (pe_op op_pow pe_int pe_int) pa_nil))))) (c_call (ok__law_draw T) (hr.mono (by decide)) T.g__law_draw T.k__law_draw takes0 (pa_cons (pv 0) (pa_cons pe_int pa_nil))) (fun _ _ => rfl)) pa_nil))))), ?_⟩
    refine ⟨_, rfl, _, _, rfl, rfl, ⟨(by decide), ⟨(by decide), (by decide)⟩⟩, (by decide), ?_⟩
    intro a1 na1
    have Xa1 := ex_new (o := HO.lst [V.int 2, V.int 2, V.int 3, V.int (10 ^ Int.toNat 50)]) na1
    have ha1 : upd H a1 (HO.lst [V.int 2, V.int 2, V.int 3, V.int (10 ^ Int.toNat 50)]) a1 = some (HO.lst [V.int 2, V.int 2, V.int 3, V.int (10 ^ Int.toNat 50)]) := upd_same
    generalize upd H a1 (HO.lst [V.int 2, V.int 2, V.int 3, V.int (10 ^ Int.toNat 50)]) = Ga1 at Xa1 ha1 ⊢
    refine ⟨_, rfl, _, _, rfl, (pot_mono hp Xa1), (by decide), (by decide), ?_⟩
    intro d H2 d0 d4 P2
    obtain ⟨x, hx, ex⟩ := at_mem (xs := [V.int 2, V.int 2, V.int 3, V.int (10 ^ Int.toNat 50)]) d0 (by show d < 4; exact d4)
    have hb : ∃ i : Int, x = .int i ∧ 0 < i ∧ i.toNat < 10 ^ 200 ∧ i ≤ 10 ^ 50 := by
      simp only [List.mem_cons, List.not_mem_nil, or_false] at hx
      rcases hx with rfl | rfl | rfl | rfl <;> exact ⟨_, rfl, by decide +kernel, by decide +kernel, by decide +kernel⟩
    obtain ⟨i, rfl, i0, i1, i50⟩ := hb
    refine ⟨_, _, _, _, rfl, rfl, (sq_lst (P2.2 _ _ (pot_ne (PotOn.refl hp) na1) ha1)), ex, _, _, rfl, P2.1, i0, i1, ?_⟩
    intro g H3 g0 g1 P3
    obtain ⟨n, rfl⟩ := Int.eq_ofNat_of_zero_le g0
    exact q n H3 (by omega) (((PotOn.refl hp).ex2 Xa1).trans P2 |>.trans P3)
theorem ok__law_less {P : Program} {w : World} {K : PySem.W.Frag} {mg : Str → Option Value} {base : Heap} (T : Env K mg) : Fc P w K mg base 2 (He.ga K "_law_less") [] (sp__law_less K ) := by
  obtain ⟨fd, D, F⟩ := fb__law_less T
  exact F.all (D.bindsN fun _ _ _ _ _ _ us hl => match us, hl with | [_], _ => rfl)
end
section
def OkP (pap : List (List Int)) : Prop := pap.length ≤ 41 ∧ (∀ r ∈ pap, r.length ≤ 41) ∧ smallP (10 ^ 51) pap
def cellB (t : Bool) (xs : List V) : HO := if t = true then .tup xs else .lst xs
def PapV (t : Bool) (H : Hp) (a : Addr) (pap : List (List Int)) (as : List Addr) : Prop := H a = some (cellB t (as.map V.ref)) ∧ as.length = pap.length ∧ ∀ (i : Nat) (b : Addr), as[i]? = some b → H b = some (cellB t ((pap.getD i []).map V.int))
theorem PapV.mono {t : Bool} {H H' : Hp} {a : Addr} {pap : List (List Int)} {as : List Addr} (h : PapV t H a pap as) (e : Ex H H') : PapV t H' a pap as := ⟨e _ _ h.1, h.2.1, fun i b hi => e _ _ (h.2.2 i b hi)⟩
theorem PapL.v {N : Addr → Prop} {H : Hp} {a : Addr} {pap : List (List Int)} {as : List Addr} (h : PapL N H a pap as) : PapV false H a pap as := ⟨h.1, h.2.1, fun i b hi => (h.2.2.2 i b hi).2.2⟩
theorem sq_cell {K : PySem.W.Frag} {H : Hp} {a : Addr} {xs : List V} : ∀ {t : Bool}, H a = some (cellB t xs) → SqS K H a xs
  | false, h => .inl (sq_lst h)
  | true, h => .inr (sq_tup h)
theorem PapV.at {K : PySem.W.Frag} {t : Bool} {H : Hp} {a : Addr} {pap : List (List Int)} {as : List Addr} (h : PapV t H a pap as) : PapAt K H a pap := by
  obtain ⟨h1, h2, h3⟩ := h
  refine ⟨as, sq_cell h1, h2, fun i b r hi hr => ?_⟩
  have := h3 i b hi
  rw [List.getD_eq_getElem?_getD, hr] at this
  exact sq_cell this
def seqD (t : Bool) (ds : List PyData) : PyData := if t = true then .tuple ds else .list ds
def papD (t : Bool) (pap : List (List Int)) : PyData := seqD t (pap.map fun r => seqD t (r.map .int))
theorem dp_cell {K : PySem.W.Frag} {H : Hp} {a : Addr} {xs : List V} {ds : List PyData} (d : DpAll K H xs ds) : ∀ {t : Bool}, H a = some (cellB t xs) → Dp K H (.ref a) (seqD t ds)
  | false, h => .lst (sq_lst h) d
  | true, h => .tup (sq_tup h) d
theorem dp_rows {K : PySem.W.Frag} {t : Bool} {H : Hp} : ∀ {pap : List (List Int)} {as : List Addr}, as.length = pap.length → (∀ (i : Nat) (b : Addr), as[i]? = some b → H b = some (cellB t ((pap.getD i []).map V.int))) → DpAll K H (as.map V.ref) (pap.map fun r => seqD t (r.map .int))
  | [], [], _, _ => .nil
  | [], _ :: _, h, _ => by cases h
  | _ :: _, [], h, _ => by cases h
  | r :: pap, a :: as, h, k => .cons (dp_cell (dpAll_ints K H r) (k 0 a rfl)) (dp_rows (Nat.succ.inj h) fun i b hi => k (i + 1) b hi)
theorem PapV.dp {K : PySem.W.Frag} {t : Bool} {H : Hp} {a : Addr} {pap : List (List Int)} {as : List Addr} (h : PapV t H a pap as) : Dp K H (.ref a) (papD t pap) := dp_cell (dp_rows h.2.1 h.2.2) h.1
theorem okI_51 {x : Int} (h : x.natAbs ≤ 10 ^ 51) : okI x = true := decide_eq_true (Nat.lt_of_le_of_lt h (by decide +kernel))
theorem okD_seq (t : Bool) (ds : List PyData) : okD (seqD t ds) = okL ds := by cases t <;> rfl
theorem szD_seq (t : Bool) (ds : List PyData) : szD (seqD t ds) = szL ds + 3 := by cases t <;> rfl
theorem depth_seq (t : Bool) (ds : List PyData) : (seqD t ds).depth = PyData.depthAll ds + 1 := by cases t <;> rfl
theorem rows_ok (t : Bool) : ∀ {pap : List (List Int)}, smallP (10 ^ 51) pap → okL (pap.map fun r => seqD t (r.map .int)) = true
  | [], _ => rfl
  | r :: pap, h => by
    show (okD (seqD t (r.map .int)) && okL (pap.map fun r => seqD t (r.map .int))) = true
    rw [rows_ok t fun s hs => h s (List.mem_cons_of_mem _ hs), okD_seq, ints_ok r fun x hx => okI_51 (h r List.mem_cons_self x hx)]
    rfl
theorem rows_sz (t : Bool) : ∀ {pap : List (List Int)}, (∀ r ∈ pap, r.length ≤ 41) → szL (pap.map fun r => seqD t (r.map .int)) ≤ pap.length * 80000
  | [], _ => Nat.zero_le _
  | r :: pap, h => by
    have ih := rows_sz t (pap := pap) fun s hs => h s (List.mem_cons_of_mem _ hs)
    have hr := h r List.mem_cons_self
    have e : szL ((r :: pap).map fun r => seqD t (r.map .int)) = szD (seqD t (r.map .int)) + 2 + szL (pap.map fun r => seqD t (r.map .int)) := rfl
    rw [e, szD_seq, ints_sz, List.length_cons]
    omega
theorem rows_depth (t : Bool) : ∀ (pap : List (List Int)), PyData.depthAll (pap.map fun r => seqD t (r.map .int)) ≤ 1
  | [] => Nat.zero_le _
  | r :: pap => by
    have e : PyData.depthAll ((r :: pap).map fun r => seqD t (r.map .int)) = max (seqD t (r.map .int)).depth (PyData.depthAll (pap.map fun r => seqD t (r.map .int))) := rfl
    rw [e, depth_seq, ints_depth]
    exact Nat.max_le.mpr ⟨Nat.le_refl _, rows_depth t pap⟩
theorem papD_ok {t : Bool} {pap : List (List Int)} (h : OkP pap) : okD (papD t pap) = true ∧ szD (papD t pap) ≤ 4000000 ∧ (papD t pap).depth ≤ 2 := by
  unfold papD
  refine ⟨by rw [okD_seq]; exact rows_ok t h.2.2, ?_, ?_⟩
  · rw [szD_seq]
    have := rows_sz t h.2.1
    have := h.1
    omega
  · rw [depth_seq]
    have := rows_depth t pap
    omega
/-- repr([order, paper]) -/
theorem pap_repr {K : PySem.W.Frag} {t : Bool} {H : Hp} {l o a : Addr} {ns : List Nat} {pap : List (List Int)} {as : List Addr} {Q : VK} (h : PapV t H a pap as) (hO : OkP pap) (ho : H o = some (.lst (natV ns))) (hn : ∀ n ∈ ns, n < 10 ^ 60) (hl : ns.length ≤ 40) (hh : H l = some (.lst [.ref o, .ref a])) (q : Q (.str (PyData.list [.list (ns.map fun n : Nat => PyData.int n), papD t pap]).shown) H) : rRepr K [.ref l] H Q := by
  obtain ⟨k1, k2, k3⟩ := papD_ok (t := t) hO
  have e1 : natV ns = (ns.map fun n : Nat => (n : Int)).map V.int := by unfold natV; rw [List.map_map]; rfl
  have e2 : (ns.map fun n : Nat => PyData.int n) = (ns.map fun n : Nat => (n : Int)).map PyData.int := by rw [List.map_map]; rfl
  rw [e1] at ho
  rw [e2] at q
  generalize hm : (ns.map fun n : Nat => (n : Int)) = ms at ho q
  have ml : ms.length ≤ 40 := by rw [← hm, List.length_map]; exact hl
  have mk : ∀ n ∈ ms, okI n = true := fun n hn' => by
    rw [← hm] at hn'
    obtain ⟨m, hm2, rfl⟩ := List.mem_map.mp hn'
    exact decide_eq_true (Nat.lt_trans (show ((m : Nat) : Int).natAbs < 10 ^ 60 by have := hn m hm2; omega) (by decide +kernel))
  refine rr_data (.lst (sq_lst hh) (.cons (.lst (sq_lst ho) (dpAll_ints K H ms)) (.cons h.dp .nil))) ?_ ?_ ?_ q
  · show (okL (ms.map PyData.int) && (okD (papD t pap) && true)) = true
    rw [ints_ok ms mk, k1]
    rfl
  · show szL (ms.map PyData.int) + 3 + 2 + (szD (papD t pap) + 2 + 0) + 3 ≤ 16000000
    rw [ints_sz]
    omega
  · show max (PyData.depthAll (ms.map PyData.int) + 1) (max (papD t pap).depth 0) + 1 ≤ 60
    rw [ints_depth]
    omega
end
section
def sp__law_spoilt (K : PySem.W.Frag) : Sp := fun vs H Q _ => ∃ (p a : Addr) (pap : List (List Int)) (as : List Addr) (N : Addr → Prop), vs = [.ref p, .ref a] ∧ Pot H p ∧ PapL N H a pap as ∧ a ≠ p ∧ (∀ b, N b → b ≠ p) ∧ pap.length ≤ 40 ∧ (∀ i, i < pap.length → (pap.getD i []).length = pap.length - i) ∧ smallP 100 pap ∧ ∀ F pap as H', H F = none → PapL (fun b => H b = none) H' F pap as → OkP pap → PotOn H H' p → Q (.ref F) H'
theorem getD_in {α : Type} {l : List α} {j : Nat} {d : α} (h : j < l.length) : l.getD j d ∈ l := by
  rw [List.getD_eq_getElem?_getD, List.getElem?_eq_getElem h]
  exact List.getElem_mem h
theorem ok_set {pap : List (List Int)} (h : OkP pap) {r : List Int} (rl : r.length ≤ 41) (rs : ∀ x ∈ r, x.natAbs ≤ 10 ^ 51) (i : Nat) : OkP (pap.set i r) := by
  obtain ⟨h1, h2, h3⟩ := h
  refine ⟨by rw [List.length_set]; exact h1, fun s hs => ?_, smallP_set h3 rs⟩
  rcases List.mem_or_eq_of_mem_set hs with z | z
  · exact h2 s z
  · rw [z]
    exact rl
theorem ixN_nat {n j : Nat} (h : j < n) : ixN n (j : Int) = some j := by
  unfold ixN
  rw [if_pos (by omega), if_pos (by omega), Int.toNat_natCast]
theorem set_in {l : List Int} {j : Nat} {y : Int} {m : Nat} (h : ∀ x ∈ l, x.natAbs ≤ m) (hy : y.natAbs ≤ m) : ∀ x ∈ l.set j y, x.natAbs ≤ m := fun x hx => by
  rcases List.mem_or_eq_of_mem_set hx with z | z
  · exact h x z
  · rw [z]
    exact hy
theorem intat {l : List Int} {j : Nat} (h : j < l.length) : (l.map V.int)[j]? = some (.int (l.getD j 0)) := by
  rw [List.getElem?_map, List.getD_eq_getElem?_getD, List.getElem?_eq_getElem h]
  rfl
/-- where the paper at F stands, before way k is asked for -/
def SpM (H : Hp) (p a F : Addr) (way : Int) (i j : Nat) (pap : List (List Int)) (k : Int) : L2.St → Hp → Prop := fun σ G => PotOn H G p ∧ ∃ pap1 as1 v, PapL (fun b => H b = none) G F pap1 as1 ∧ OkP pap1 ∧ (k ≤ way → pap1 = pap) ∧ σ = [some (.ref p), some (.ref a), some (.int way), some (.ref F), some (.int i), some (.int j), v]
theorem fb__law_spoilt {P : Program} {w : World} {K : PySem.W.Frag} {mg : Str → Option Value} {base : Heap} (T : Env K mg) : ∃ fd, FunD K "_law_spoilt" "_law_spoilt" (defArgs s__law_spoilt) (defBody s__law_spoilt) (defScope s__law_spoilt) [] [] (He.ga K "_law_spoilt") fd ∧ Fb P w K mg base 40 (He.ga K "_law_spoilt") fd ["_law_pot_here", "_law_rows"] (sp__law_spoilt K) := by
  obtain ⟨fd, F⟩ := T.f__law_spoilt
  refine ⟨fd, F, fb_of F sc__law_spoilt (fun vs H Q E h => ?_) (fun cdv A outer s H vs Q E hr h => ?_)⟩
  · obtain ⟨p, a, pap, as, N, rfl, _⟩ := h
    rfl
  · obtain ⟨p, a, pap, as, N, rfl, hp, hP, ap, Np, hl, hr_, hs, q⟩ := h
    refine ⟨_, (pss_cons (ps_set (i := 2) sc__law_spoilt.nd rfl (Or.inl rfl) (c_call (ok__law_draw T) (hr.mono (by decide)) T.g__law_draw T.k__law_draw takes0 (pa_cons (pv 0) (pa_cons pe_int pa_nil))))
      (pss_cons (ps_setLc (i := 3) (own := [("_law_numbers_here", 6)]) (by rfl) sc__law_spoilt.nd rfl rfl (sw_true rfl rfl rfl (by decide +kernel)) (pi_list (pv 1)) (blkOk_by (own := [("_law_numbers_here", 6)]) (N := ["_law_pot_here", "_law_rows", "_law_way", "_law_found", "_law_at", "_law_place", "_law_numbers_here"]) (sc := defScope s__law_spoilt) (by decide +kernel)) (fun _ _ _ _ _ => (pg_name (i := 6) sc__law_spoilt.nd rfl (Or.inl rfl))) (fun _ _ _ _ _ => pts_nil) (fun _ _ _ _ _ => (pe_callTy (call_list_ofK K) (by rfl) T.n_list (by decide +kernel) (pa_cons (pv 6) pa_nil))))
      (pss_cons (ps_if (pt_cmpR op_eq (pv 2) pe_int (nomark _))
      (pss_one (ps_ret (pe_op op_cat (pv 3) (pe_lst (pa_cons (pe_lst (pa_cons pe_int pa_nil)) pa_nil)))))
      pss_nil)
      (pss_cons (ps_if (pt_cmpR (op_eqE hr.rm.units) (pv 3) (pe_lst pa_nil) (nomark _))
      (pss_one (ps_ret (pe_ix ix_list (pe_lst (pa_cons (pe_lst pa_nil) (pa_cons (pe_lst (pa_cons (pe_lst pa_nil) pa_nil)) (pa_cons (pe_lst (pa_cons (pe_lst (pa_cons pe_int pa_nil)) pa_nil)) pa_nil)))) (pe_op op_mod (pv 2) pe_int) (fun _ _ => rfl))))
      pss_nil)
      (pss_cons (ps_set (i := 4) sc__law_spoilt.nd rfl (Or.inl rfl) (c_call (ok__law_draw T) (hr.mono (by decide)) T.g__law_draw T.k__law_draw takes0 (pa_cons (pv 0) (pa_cons (pe_callB call_len (by rfl) T.n_len (by decide +kernel) (pa_cons (pv 3) pa_nil)) pa_nil))))
      (pss_cons (ps_set (i := 5) sc__law_spoilt.nd rfl (Or.inl rfl) (c_call (ok__law_draw T) (hr.mono (by decide)) T.g__law_draw T.k__law_draw takes0 (pa_cons (pv 0) (pa_cons (pe_callB call_len (by rfl) T.n_len (by decide +kernel) (pa_cons (pe_ix ix_list (pv 3) (pv 4) (fun _ _ => rfl)) pa_nil)) pa_nil))))
      (Evl.pss_cut (ps_if (pt_cmpR op_eq (pv 2) pe_int (nomark _))
      (pss_one (ps_asg (pe_op op_add (pe_ix ix_list (pe_ix ix_list (pv 3) (pv 4) (fun _ _ => rfl)) (pv 5) (fun _ _ => rfl)) pe_int) (pg_sub (pe_ix ix_list (pv 3) (pv 4) (fun _ _ => rfl)) (pv 5) set_list)))
      pss_nil)
      (Evl.pss_cut (ps_if (pt_cmpR op_eq (pv 2) pe_int (nomark _))
      (pss_one (ps_asg (pe_op op_sub (pe_ix ix_list (pe_ix ix_list (pv 3) (pv 4) (fun _ _ => rfl)) (pv 5) (fun _ _ => rfl)) (c_call (ok__law_less T) (hr.mono (by decide)) T.g__law_less T.k__law_less takes0 (pa_cons (pv 0) pa_nil))) (pg_sub (pe_ix ix_list (pv 3) (pv 4) (fun _ _ => rfl)) (pv 5) set_list)))
      pss_nil)
      (Evl.pss_cut (ps_if (pt_cmpR op_eq (pv 2) pe_int (nomark _))
      (pss_one (ps_for (passes_of rfl) rfl (pi_list (pv 3)) (pg_name (i := 6) sc__law_spoilt.nd rfl (Or.inl rfl))
      (pss_one (ps_asg (pe_op op_sub (pe_ix ix_list (pv 6) (pe_un un_neg pe_int) (fun _ _ => rfl)) (c_call (ok__law_less T) (hr.mono (by decide)) T.g__law_less T.k__law_less takes0 (pa_cons (pv 0) pa_nil))) (pg_sub (pv 6) (pe_un un_neg pe_int) set_list)))))
      pss_nil)
      (Evl.pss_cut (ps_if (pt_cmpR op_eq (pv 2) pe_int (nomark _))
      (pss_one (ps_expr (pe_bm PySem.F.plainAttrs_list PySem.F.slot_list_pop PySem.F.type_list_pop mt_popAt (pe_ix ix_list (pv 3) (pv 4) (fun _ _ => rfl)) (pa_cons (pv 5) pa_nil))))
      pss_nil)
      (Evl.pss_cut (ps_if (pt_cmpR op_eq (pv 2) pe_int (nomark _))
      (pss_one (ps_expr (pe_bm PySem.F.plainAttrs_list PySem.F.slot_list_insert PySem.F.type_list_insert mt_insert (pe_ix ix_list (pv 3) (pv 4) (fun _ _ => rfl)) (pa_cons (pv 5) (pa_cons pe_int pa_nil)))))
      pss_nil)
      (Evl.pss_cut (ps_if (pt_cmpR op_eq (pv 2) pe_int (nomark _))
      (pss_one (ps_expr (pe_bm PySem.F.plainAttrs_list PySem.F.slot_list_pop PySem.F.type_list_pop mt_popAt (pv 3) (pa_cons (pv 4) pa_nil))))
      pss_nil)
      (pss_one (ps_ret (pv 3))))))))))))))), ?_⟩
    refine ⟨_, rfl, _, _, rfl, hp, (by decide), (by decide), ?_⟩
    intro way H1 w0 w8 P1
    have hP1 : PapL N H1 a pap as := hP.oth P1.2 ap Np
    have nq : ∀ b, H b = none → b ≠ p := fun b nb z => by
      obtain ⟨x, y, e, _⟩ := hp
      rw [z, e] at nb
      cases nb
    have asl := hP1.2.1
    refine ⟨_, rfl, _, rfl, ⟨_, (sq_lst hP1.1)⟩, ?_⟩
    intro F nF
    refine lc_any (L2.walk_list (K := K) (a := a) (xs := as.map V.ref)) (fun i acc G => Ex H1 G ∧ MkR (fun b => H b = none) F (fun i => pap.getD i []) i acc G) (fun i acc G z e => ⟨ex_mut e.1 nF, e.2.upd _⟩) ⟨.refl _, .nil⟩ (by rw [List.length_map]; omega) (fun i acc G e => e.2.len) (fun i acc G e => sq_lst (e.1 _ _ hP1.1)) (fun i x G G' acc N_ hi e hA' la y k _ => ?_) (fun acc G e hA' => ?_)
    · obtain ⟨rfl, y⟩ := y
      obtain ⟨X2, hM⟩ := e
      rw [List.length_map] at hi
      obtain ⟨b, hb, _, g1, g2, g3⟩ := hP1.row (i := i) (by omega)
      rw [List.getElem?_map, hb] at y
      cases y
      refine ⟨rfl, ?_⟩
      simp only [tYes, ↓reduceIte]
      refine ⟨_, rfl, _, _, rfl, .inl (sq_lst (X2 _ _ g3)), ?_⟩
      intro B nB
      have X3 := ex_new (o := .lst ((pap.getD i []).map V.int)) nB
      have BA : B ≠ F := fun z => by rw [z, hA'] at nB; cases nB
      exact ⟨acc, X3 _ _ hA', la, k _ _ (X3 _ _ hA') ⟨X2.trans X3, hM.snoc nB (P1.fresh (ex_fresh X2 nB)) BA X3 upd_same⟩⟩
    · obtain ⟨X2, hM⟩ := e
      rw [List.length_map, asl] at hM
      obtain ⟨bs, hF⟩ := hM.pap hA'
      rw [range_pap] at hF
      have P2 := P1.ex2 X2
      have nF0 : H F = none := P1.fresh nF
      clear hM hA' hP1 hP asl
      have hl_ : ∀ r ∈ pap, r.length ≤ 41 := fun r hr => by
        obtain ⟨i, il, rfl⟩ := List.getElem_of_mem hr
        have e : pap.getD i [] = pap[i] := by rw [List.getD_eq_getElem?_getD, List.getElem?_eq_getElem il]; rfl
        have := hr_ i il
        rw [e] at this
        omega
      have hs51 := smallP_le (k := 10 ^ 51) hs (by decide)
      refine ⟨_, rfl, rfl, _, rfl, ?_⟩
      try dsimp only [tNil]
      refine ite2 (fun c => ?_) (fun c => ?_)
      · have hF1 := hF.1
        refine ⟨_, rfl, (by decide), ?_⟩
        intro a1 na1
        have Xa1 := ex_new (o := HO.lst [V.int 0]) na1
        have ha1 : upd G a1 (HO.lst [V.int 0]) a1 = some (HO.lst [V.int 0]) := upd_same
        generalize upd G a1 (HO.lst [V.int 0]) = Ga1 at Xa1 ha1 ⊢
        refine ⟨(by show 1 ≤ sizeLine; decide), ?_⟩
        intro a2 na2
        have Xa2 := ex_new (o := HO.lst [V.ref a1]) na2
        have ha2 : upd Ga1 a2 (HO.lst [V.ref a1]) a2 = some (HO.lst [V.ref a1]) := upd_same
        generalize upd Ga1 a2 (HO.lst [V.ref a1]) = Ga2 at Xa2 ha2 ⊢
        refine ⟨_, _, _, _, rfl, rfl, (Xa2 _ _ (Xa1 _ _ hF1)), ha2, ?_⟩
        have bsl := hF.2.1
        refine ⟨sz_le (by rw [List.length_map]; show bs.length + 1 ≤ 100000; omega), fun P_ nP => ?_⟩
        have X12 := Xa1.trans Xa2
        have X3 := X12.trans (ex_new (o := .lst (bs.map V.ref ++ [.ref a1])) nP)
        have aP : a1 ≠ P_ := ne_of_none (Xa2 _ _ ha1) nP
        refine q P_ _ _ _ (P2.fresh (ex_fresh X12 nP)) (hF.snoc (r := [0]) na1 (P2.fresh na1) aP (ex_fresh X12 nP) X3 (by rw [upd_ne aP]; exact Xa2 _ _ ha1) upd_same) ⟨by simp; omega, fun r hr => ?_, smallP_snoc hs51 (fun x hx => by simp at hx; rw [hx]; decide)⟩ (P2.ex2 X3)
        rcases List.mem_append.mp hr with z | z
        · exact hl_ r z
        · rw [List.mem_singleton.mp z]
          decide
      · refine ⟨_, rfl, ?_⟩
        refine ⟨by show 0 ≤ sizeLine; decide, ?_⟩
        intro E_ nE
        have XE := ex_new (o := .lst []) nE
        have hFE := hF.mono XE
        have P3 := P2.ex2 XE
        refine ⟨_, _, _, rfl, rfl, sq_lst hFE.1, sq_lst upd_same, _, rfl, ?_⟩
        have nFE := nF0
        clear hF
        generalize upd G E_ (HO.lst []) = G3 at hFE P3 ⊢
        clear P2 X2 XE
        have hbl : bs.length = pap.length := hFE.2.1
        refine ite2 (fun c2 => ?_) (fun c2 => ?_)
        · refine ⟨(by decide), ?_⟩
          intro a1 na1
          have Xa1 := ex_new (o := HO.lst []) na1
          have ha1 : upd G3 a1 (HO.lst []) a1 = some (HO.lst []) := upd_same
          generalize upd G3 a1 (HO.lst []) = Ga1 at Xa1 ha1 ⊢
          refine ⟨(by decide), ?_⟩
          intro a2 na2
          have Xa2 := ex_new (o := HO.lst []) na2
          have ha2 : upd Ga1 a2 (HO.lst []) a2 = some (HO.lst []) := upd_same
          generalize upd Ga1 a2 (HO.lst []) = Ga2 at Xa2 ha2 ⊢
          refine ⟨(by show 1 ≤ sizeLine; decide), ?_⟩
          intro a3 na3
          have Xa3 := ex_new (o := HO.lst [V.ref a2]) na3
          have ha3 : upd Ga2 a3 (HO.lst [V.ref a2]) a3 = some (HO.lst [V.ref a2]) := upd_same
          generalize upd Ga2 a3 (HO.lst [V.ref a2]) = Ga3 at Xa3 ha3 ⊢
          refine ⟨(by decide), ?_⟩
          intro a4 na4
          have Xa4 := ex_new (o := HO.lst [V.int 1]) na4
          have ha4 : upd Ga3 a4 (HO.lst [V.int 1]) a4 = some (HO.lst [V.int 1]) := upd_same
          generalize upd Ga3 a4 (HO.lst [V.int 1]) = Ga4 at Xa4 ha4 ⊢
          refine ⟨(by show 1 ≤ sizeLine; decide), ?_⟩
          intro a5 na5
          have Xa5 := ex_new (o := HO.lst [V.ref a4]) na5
          have ha5 : upd Ga4 a5 (HO.lst [V.ref a4]) a5 = some (HO.lst [V.ref a4]) := upd_same
          generalize upd Ga4 a5 (HO.lst [V.ref a4]) = Ga5 at Xa5 ha5 ⊢
          refine ⟨(by show 3 ≤ sizeLine; decide), ?_⟩
          intro a6 na6
          have Xa6 := ex_new (o := HO.lst [V.ref a1, V.ref a3, V.ref a5]) na6
          have ha6 : upd Ga5 a6 (HO.lst [V.ref a1, V.ref a3, V.ref a5]) a6 = some (HO.lst [V.ref a1, V.ref a3, V.ref a5]) := upd_same
          generalize upd Ga5 a6 (HO.lst [V.ref a1, V.ref a3, V.ref a5]) = Ga6 at Xa6 ha6 ⊢
          refine ⟨_, rfl, _, _, rfl, rfl, (by omega), ?_⟩
          have f1 := P3.fresh na1
          have X2_ := Xa1
          have f2 := P3.fresh (ex_fresh X2_ na2)
          have X3_ := X2_.trans Xa2
          have f3 := P3.fresh (ex_fresh X3_ na3)
          have X4_ := X3_.trans Xa3
          have f4 := P3.fresh (ex_fresh X4_ na4)
          have X5_ := X4_.trans Xa4
          have f5 := P3.fresh (ex_fresh X5_ na5)
          have X6_ := (X5_.trans Xa5).trans Xa6
          have g1 := (((((Xa2.trans Xa3).trans Xa4).trans Xa5).trans Xa6) _ _ ha1)
          have g2 := ((((Xa3.trans Xa4).trans Xa5).trans Xa6) _ _ ha2)
          have g3 := (((Xa4.trans Xa5).trans Xa6) _ _ ha3)
          have g4 := ((Xa5.trans Xa6) _ _ ha4)
          have g5 := (Xa6 _ _ ha5)
          have n23 : a2 ≠ a3 := ne_of_none ha2 na3
          have n45 : a4 ≠ a5 := ne_of_none ha4 na5
          have P6 := P3.ex2 X6_
          rcases (by omega : way % 3 = 0 ∨ way % 3 = 1 ∨ way % 3 = 2) with m | m | m
          · refine ⟨_, [V.ref a1, V.ref a3, V.ref a5], _, V.ref a1, rfl, rfl, sq_lst ha6, (by rw [m]; rfl), ?_⟩
            exact q a1 [] [] _ f1 ⟨g1, rfl, List.nodup_nil, fun i b hb => by simp at hb⟩ ⟨by decide, (fun r hr => nomatch hr), (fun r hr => nomatch hr)⟩ P6
          · refine ⟨_, [V.ref a1, V.ref a3, V.ref a5], _, V.ref a3, rfl, rfl, sq_lst ha6, (by rw [m]; rfl), ?_⟩
            refine q a3 [[]] [a2] _ f3 ⟨g3, rfl, List.pairwise_singleton _ _, fun i b hb => ?_⟩ ⟨by decide, fun r hr => ?_, fun r hr x hx => ?_⟩ P6
            · cases i with
              | zero =>
                cases hb
                exact ⟨f2, n23, g2⟩
              | succ i => simp at hb
            · rw [List.mem_singleton.mp hr]
              decide
            · rw [List.mem_singleton.mp hr] at hx
              cases hx
          · refine ⟨_, [V.ref a1, V.ref a3, V.ref a5], _, V.ref a5, rfl, rfl, sq_lst ha6, (by rw [m]; rfl), ?_⟩
            refine q a5 [[1]] [a4] _ f5 ⟨g5, rfl, List.pairwise_singleton _ _, fun i b hb => ?_⟩ ⟨by decide, fun r hr => ?_, fun r hr x hx => ?_⟩ P6
            · cases i with
              | zero =>
                cases hb
                exact ⟨f4, n45, g4⟩
              | succ i => simp at hb
            · rw [List.mem_singleton.mp hr]
              decide
            · rw [List.mem_singleton.mp hr] at hx
              rw [List.mem_singleton.mp hx]
              decide
        · have pl : 0 < pap.length := by
            rw [← hbl]
            cases bs with
            | nil => exact absurd rfl c2
            | cons b r => simp
          have bl : (bs.map V.ref).length = pap.length := by rw [List.length_map, hbl]
          have hp3 := P3.1
          refine ⟨_, rfl, _, rfl, _, _, rfl, (.inl ⟨_, ⟨(sq_lst hFE.1), rfl⟩⟩), ?_⟩
          rw [bl]
          refine ⟨_, _, rfl, hp3, (by omega), (by omega), ?_⟩
          intro at_ H4 t0 t1 P4
          obtain ⟨i, rfl⟩ := Int.eq_ofNat_of_zero_le t0
          have il : i < pap.length := by omega
          have hF4 := hFE.oth P4.2 (nq F nF0) nq
          obtain ⟨b, hb, hat, nb, bF, hrow⟩ := hF4.row il
          have rl := hr_ i il
          have rl2 : ((pap.getD i []).map V.int).length = pap.length - i := by rw [List.length_map, rl]
          refine ⟨_, rfl, _, rfl, _, rfl, _, _, _, _, rfl, rfl, (sq_lst hF4.1), hat, _, _, rfl, (.inl ⟨_, ⟨(sq_lst hrow), rfl⟩⟩), ?_⟩
          rw [rl2]
          refine ⟨_, _, rfl, P4.1, (by omega), (by omega), ?_⟩
          intro pl_ H5 z0 z1 P5
          obtain ⟨j, rfl⟩ := Int.eq_ofNat_of_zero_le z0
          have jl : j < pap.length - i := by omega
          have hF5 := hF4.oth P5.2 (nq F nF0) nq
          have P5_ := (P3.trans P4).trans P5
          have jr : j < (pap.getD i []).length := by omega
          have rlm : (pap.getD i []).length ≤ 40 := by omega
          have r100 : ∀ x ∈ pap.getD i [], x.natAbs ≤ 100 := fun x hx => hs _ (by rw [List.getD_eq_getElem?_getD, List.getElem?_eq_getElem il]; exact List.getElem_mem il) x hx
          have at100 : ((pap.getD i []).getD j 0).natAbs ≤ 100 := r100 _ (getD_in jr)
          have OkP0 : OkP pap := ⟨by omega, hl_, hs51⟩
          have M0 : SpM H p a F way i j pap 1 [some (.ref p), some (.ref a), some (.int way), some (.ref F), some (.int i), some (.int j), none] H5 := ⟨P5_, pap, bs, _, hF5, OkP0, fun _ => rfl, rfl⟩
          clear P5_ hF5 hF4 hFE P3 P4 P5 hrow hat hb hbl bl c2 P1 hp hp3 rl2 nE nFE
          obtain ⟨PG, pap1, as1, v, hP1, hO, hpr, hσ⟩ := id M0
          cases hσ
          refine ⟨SpM H p a F way i j pap 2, ⟨_, rfl, rfl, _, rfl, ite2 (fun c => ?_) (fun c => ?_)⟩, fun σ G m => ?_⟩
          · have wk : way = 1 := by rw [vint_dec] at c; exact of_decide_eq_true c
            have e := hpr (by omega)
            subst e
            obtain ⟨b, hb, hat, nb, bF, hrow⟩ := hP1.row il
            have hat2 : atI ((pap1.getD i []).map V.int) (j : Int) = some (.int ((pap1.getD i []).getD j 0)) := ints_at rfl jr
            have ixn : ixN ((pap1.getD i []).map V.int).length (j : Int) = some j := ixN_nat (by rw [List.length_map]; exact jr)
            refine ⟨_, rfl, _, rfl, _, _, _, _, rfl, rfl, (sq_lst hP1.1), hat, _, rfl, _, _, _, _, rfl, rfl, (sq_lst hrow), hat2, _, _, rfl, rfl, _, rfl, _, rfl, _, _, _, _, rfl, rfl, (sq_lst hP1.1), hat, _, rfl, _, _, _, _, rfl, rfl, hrow, ixn, ?_⟩
            have hput := hP1.put hb ((pap1.getD i []).set j ((pap1.getD i []).getD j 0 + 1))
            rw [List.map_set] at hput
            exact ⟨pot_upd PG nb (nq b nb), _, _, _, hput, ok_set hO (by rw [List.length_set]; omega) (set_in (fun x hx => Nat.le_trans (r100 x hx) (by decide)) (by omega)) i, fun e => by omega, rfl⟩
          · exact ⟨PG, pap1, as1, _, hP1, hO, fun e => hpr (by omega), rfl⟩
          clear PG hP1 hO hpr M0
          obtain ⟨PG, pap1, as1, v, hP1, hO, hpr, rfl⟩ := m
          refine ⟨SpM H p a F way i j pap 3, ⟨_, rfl, rfl, _, rfl, ite2 (fun c => ?_) (fun c => ?_)⟩, fun σ G m => ?_⟩
          · have wk : way = 2 := by rw [vint_dec] at c; exact of_decide_eq_true c
            have e := hpr (by omega)
            subst e
            obtain ⟨b, hb, hat, nb, bF, hrow⟩ := hP1.row il
            have hat2 : atI ((pap1.getD i []).map V.int) (j : Int) = some (.int ((pap1.getD i []).getD j 0)) := ints_at rfl jr
            have ixn : ixN ((pap1.getD i []).map V.int).length (j : Int) = some j := ixN_nat (by rw [List.length_map]; exact jr)
            refine ⟨_, rfl, _, rfl, _, _, _, _, rfl, rfl, (sq_lst hP1.1), hat, _, rfl, _, _, _, _, rfl, rfl, (sq_lst hrow), hat2, _, rfl, _, rfl, PG.1, ?_⟩
            intro g H6 g50 P6
            have hP6 := hP1.oth P6.2 (nq F nF0) nq
            obtain ⟨b6, hb6, hat6, nb6, bF6, hrow6⟩ := hP6.row il
            refine ⟨_, _, rfl, rfl, _, rfl, _, rfl, _, _, _, _, rfl, rfl, (sq_lst hP6.1), hat6, _, rfl, _, _, _, _, rfl, rfl, hrow6, ixn, ?_⟩
            have hput := hP6.put hb6 ((pap1.getD i []).set j ((pap1.getD i []).getD j 0 - g))
            rw [List.map_set] at hput
            exact ⟨pot_upd (PG.trans P6) nb6 (nq b6 nb6), _, _, _, hput, ok_set hO (by rw [List.length_set]; omega) (set_in (fun x hx => Nat.le_trans (r100 x hx) (by decide)) (by omega)) i, fun e => by omega, rfl⟩
          · exact ⟨PG, pap1, as1, v, hP1, hO, fun e => hpr (by omega), rfl⟩
          clear PG hP1 hO hpr
          obtain ⟨PG, pap1, as1, v, hP1, hO, hpr, rfl⟩ := m
          refine ⟨SpM H p a F way i j pap 4, ⟨_, rfl, rfl, _, rfl, ite2 (fun c => ?_) (fun c => ?_)⟩, fun σ G m => ?_⟩
          · have wk : way = 3 := by rw [vint_dec] at c; exact of_decide_eq_true c
            have e := hpr (by omega)
            subst e
            have al1 : as1.length = pap1.length := hP1.2.1
            refine ⟨_, rfl, _, rfl, ⟨_, sq_lst hP1.1⟩, for_on as1 V.ref (L2.walk_list (K := K) (a := F) (xs := as1.map V.ref)) (fun m σ G => PotOn H G p ∧ ∃ pap2 v, PapL (fun b => H b = none) G F pap2 as1 ∧ OkP pap2 ∧ (∀ k, m ≤ k → pap2.getD k [] = pap1.getD k []) ∧ pap2.length = pap1.length ∧ σ = [some (.ref p), some (.ref a), some (.int way), some (.ref F), some (.int i), some (.int j), v]) ⟨PG, pap1, v, hP1, hO, fun _ _ => rfl, rfl, rfl⟩ (fun m σ G e => by obtain ⟨_, _, _, z, _⟩ := e; exact sq_lst z.1) (fun m x σ G hx e => ?_) (fun σ G e => ?_)⟩
            · clear PG hP1 hO hpr v
              obtain ⟨PG, pap2, v, hP2, hO, hk, hl2, rfl⟩ := e
              have hx2 := hx
              obtain ⟨ml, _⟩ := List.getElem?_eq_some_iff.mp hx2
              have ml2 : m < pap2.length := by omega
              have rm := hr_ m (by omega)
              obtain ⟨b, hb, hat, nb, bF, hrow⟩ := hP2.row ml2
              rw [hx] at hb
              cases hb
              rw [hk m (Nat.le_refl _)] at hrow
              have rm2 : ((pap1.getD m []).map V.int).length = pap1.length - m := by rw [List.length_map, rm]
              have s100 : ∀ x ∈ pap1.getD m [], x.natAbs ≤ 100 := fun x hx => hs _ (getD_in (l := pap1) (j := m) (by omega) (d := [])) x hx
              obtain ⟨z, hz⟩ : ∃ z, z = pap1.length - m - 1 := ⟨_, rfl⟩
              have zl : z < (pap1.getD m []).length := by omega
              have ixn : ixN ((pap1.getD m []).map V.int).length (-1) = some z := by
                rw [rm2]
                unfold ixN
                rw [if_neg (by decide), if_pos (by omega)]
                congr 1
                omega
              have hat2 : atI ((pap1.getD m []).map V.int) (-1) = some (.int ((pap1.getD m []).getD z 0)) := by
                unfold atI
                rw [ixn]
                exact intat zl
              refine ⟨_, rfl, _, rfl, _, _, _, _, rfl, rfl, (sq_lst hrow), hat2, _, rfl, _, rfl, PG.1, ?_⟩
              intro g H6 g50 P6
              have hP6 := hP2.oth P6.2 (nq F nF0) nq
              have hrow6 := P6.2 _ _ (nq _ nb) hrow
              refine ⟨_, _, rfl, rfl, _, rfl, _, rfl, _, _, _, z, rfl, rfl, hrow6, ixn, ?_⟩
              have hput := hP6.put hx2 ((pap1.getD m []).set z ((pap1.getD m []).getD z 0 - g))
              rw [List.map_set] at hput
              have z100 := s100 _ (getD_in (d := 0) zl)
              refine ⟨pot_upd (PG.trans P6) nb (nq _ nb), _, _, hput, ok_set hO (by rw [List.length_set]; omega) (set_in (fun x hx => Nat.le_trans (s100 x hx) (by decide)) (by omega)) m, fun k mk => ?_, by rw [List.length_set]; exact hl2, rfl⟩
              rw [getD_set_ne _ (by omega)]
              exact hk k (by omega)
            · obtain ⟨PG, pap2, v, hP2, hO, hk, hl2, rfl⟩ := e
              exact ⟨PG, pap2, as1, v, hP2, hO, fun e => by omega, rfl⟩
          · exact ⟨PG, pap1, as1, v, hP1, hO, fun e => hpr (by omega), rfl⟩
          clear PG hP1 hO hpr
          obtain ⟨PG, pap1, as1, v, hP1, hO, hpr, rfl⟩ := m
          refine ⟨SpM H p a F way i j pap 5, ⟨_, rfl, rfl, _, rfl, ite2 (fun c => ?_) (fun c => ?_)⟩, fun σ G m => ?_⟩
          · have wk : way = 4 := by rw [vint_dec] at c; exact of_decide_eq_true c
            have e := hpr (by omega)
            subst e
            obtain ⟨b, hb, hat, nb, bF, hrow⟩ := hP1.row il
            have six : seqIndex? (j : Int) ((pap1.getD i []).map V.int).length = some j := seqIx_nat (by rw [List.length_map]; exact jr)
            have gj : ((pap1.getD i []).map V.int)[j]? = some (V.int ((pap1.getD i []).getD j 0)) := intat jr
            refine ⟨_, rfl, _, rfl, _, _, _, _, rfl, rfl, (sq_lst hP1.1), hat, .inl ⟨rfl, _, sq_lst hrow⟩, _, rfl, b, _, _, j, _, rfl, rfl, hrow, by omega, by omega, six, gj, ?_⟩
            have hput := hP1.put hb ((pap1.getD i []).eraseIdx j)
            rw [← map_erase] at hput
            exact ⟨pot_upd PG nb (nq b nb), _, _, _, hput, ok_set hO (by rw [List.length_eraseIdx]; split <;> omega) (fun x hx => Nat.le_trans (r100 x (List.mem_of_mem_eraseIdx hx)) (by decide)) i, fun e => by omega, rfl⟩
          · exact ⟨PG, pap1, as1, v, hP1, hO, fun e => hpr (by omega), rfl⟩
          clear PG hP1 hO hpr
          obtain ⟨PG, pap1, as1, v, hP1, hO, hpr, rfl⟩ := m
          refine ⟨SpM H p a F way i j pap 6, ⟨_, rfl, rfl, _, rfl, ite2 (fun c => ?_) (fun c => ?_)⟩, fun σ G m => ?_⟩
          · have wk : way = 5 := by rw [vint_dec] at c; exact of_decide_eq_true c
            have e := hpr (by omega)
            subst e
            obtain ⟨b, hb, hat, nb, bF, hrow⟩ := hP1.row il
            refine ⟨_, rfl, _, rfl, _, _, _, _, rfl, rfl, (sq_lst hP1.1), hat, .inl ⟨rfl, _, sq_lst hrow⟩, _, rfl, _, _, _, _, rfl, rfl, hrow, sz_lt (by rw [List.length_map]; omega), by omega, by omega, ?_⟩
            rw [Int.toNat_natCast]
            have hput := hP1.put hb ((pap1.getD i []).take j ++ [0] ++ (pap1.getD i []).drop j)
            rw [List.map_append, List.map_append, List.map_take, List.map_drop] at hput
            refine ⟨pot_upd PG nb (nq b nb), _, _, _, hput, ok_set hO (by rw [List.length_append, List.length_append, List.length_take, List.length_drop, List.length_singleton]; omega) (fun x hx => ?_) i, fun e => by omega, rfl⟩
            rcases List.mem_append.mp hx with hx | hx
            · rcases List.mem_append.mp hx with hx | hx
              · exact Nat.le_trans (r100 x (List.mem_of_mem_take hx)) (by decide)
              · rw [List.mem_singleton.mp hx]
                decide
            · exact Nat.le_trans (r100 x (List.mem_of_mem_drop hx)) (by decide)
          · exact ⟨PG, pap1, as1, v, hP1, hO, fun e => hpr (by omega), rfl⟩
          clear PG hP1 hO hpr
          obtain ⟨PG, pap1, as1, v, hP1, hO, hpr, rfl⟩ := m
          refine ⟨SpM H p a F way i j pap 7, ⟨_, rfl, rfl, _, rfl, ite2 (fun c => ?_) (fun c => ?_)⟩, fun σ G m => ?_⟩
          · have wk : way = 6 := by rw [vint_dec] at c; exact of_decide_eq_true c
            have e := hpr (by omega)
            subst e
            have six : seqIndex? (i : Int) (as1.map V.ref).length = some i := seqIx_nat (by rw [List.length_map, hP1.2.1]; exact il)
            obtain ⟨b, hb, hat, nb, bF, hrow⟩ := hP1.row il
            have gi : (as1.map V.ref)[i]? = some (V.ref b) := by rw [List.getElem?_map, hb]; rfl
            refine ⟨_, rfl, .inl ⟨rfl, _, sq_lst hP1.1⟩, _, rfl, F, _, _, i, _, rfl, rfl, hP1.1, by omega, by omega, six, gi, ?_⟩
            exact ⟨pot_upd PG nF0 (nq F nF0), _, _, _, hP1.drop i, ⟨by rw [List.length_eraseIdx]; split <;> omega, fun r hr => hl_ r (List.mem_of_mem_eraseIdx hr), fun r hr => hs51 r (List.mem_of_mem_eraseIdx hr)⟩, fun e => by omega, rfl⟩
          · exact ⟨PG, pap1, as1, v, hP1, hO, fun e => hpr (by omega), rfl⟩
          clear PG hP1 hO hpr
          obtain ⟨PG, pap1, as1, v, hP1, hO, hpr, rfl⟩ := m
          exact ⟨_, rfl, q F pap1 as1 G nF0 hP1 hO PG⟩
theorem ok__law_spoilt {P : Program} {w : World} {K : PySem.W.Frag} {mg : Str → Option Value} {base : Heap} (T : Env K mg) : Fc P w K mg base 40 (He.ga K "_law_spoilt") [] (sp__law_spoilt K ) := by
  obtain ⟨fd, D, F⟩ := fb__law_spoilt T
  exact F.all (D.bindsN fun _ _ _ _ _ _ us hl => match us, hl with | [_, _], _ => rfl)
end
section
theorem sorted_ext : ∀ {a b : List Nat}, a.Pairwise (· < ·) → b.Pairwise (· < ·) → (∀ x, x ∈ a ↔ x ∈ b) → a = b
  | [], [], _, _, _ => rfl
  | [], y :: b, _, _, h => absurd ((h y).mpr List.mem_cons_self) (by simp)
  | x :: a, [], _, _, h => absurd ((h x).mp List.mem_cons_self) (by simp)
  | x :: a, y :: b, ha, hb, h => by
    obtain ⟨a1, a2⟩ := List.pairwise_cons.mp ha
    obtain ⟨b1, b2⟩ := List.pairwise_cons.mp hb
    have e : x = y := by
      rcases List.mem_cons.mp ((h x).mp List.mem_cons_self) with e | e
      · exact e
      · rcases List.mem_cons.mp ((h y).mpr List.mem_cons_self) with e2 | e2
        · exact e2.symm
        · have := b1 x e
          have := a1 y e2
          omega
    subst e
    rw [sorted_ext a2 b2 fun z => ⟨fun hz => by
      rcases List.mem_cons.mp ((h z).mp (List.mem_cons_of_mem _ hz)) with e | e
      · have := a1 z hz
        omega
      · exact e, fun hz => by
      rcases List.mem_cons.mp ((h z).mpr (List.mem_cons_of_mem _ hz)) with e | e
      · have := b1 z hz
        omega
      · exact e⟩]
end
section
def sp_law (K : PySem.W.Frag) : Sp := fun vs H Q _ => ∃ (a : Addr) (ns : List Int), vs = [.ref a] ∧ SqL K H a (ns.map V.int) ∧ ns.length ≤ 63 ∧ ∀ H', Q (.bl true) H'
theorem ok_law {P : Program} {w : World} {K : PySem.W.Frag} {mg : Str → Option Value} {base : Heap} (T : Env K mg) {fd : FuncData} (F : FunD K "law" "law" (defArgs s_law) (defBody s_law) (defScope s_law) [] [] (He.ga K "law") fd) : Fb P w K mg base 96 (He.ga K "law") fd ["_law_script"] (sp_law K) := by
  refine fb_of F sc_law (fun vs H Q E h => ?_) (fun cdv A outer s H vs Q E hr h => ?_)
  · obtain ⟨a, ns, rfl, _⟩ := h
    rfl
  · obtain ⟨a, ns, rfl, hS, hl, q⟩ := h
    refine ⟨_, (pss_cons (ps_for (passes_of rfl) rfl (pi_range1 (by rfl) T.n_range (pa_cons (pe_callB (call_max2 rfl) (by rfl) T.n_max (by decide +kernel) (pa_cons pe_int (pa_cons (pe_callB (call_min2 rfl) (by rfl) T.n_min (by decide +kernel) (pa_cons (pe_callB call_len (by rfl) T.n_len (by decide +kernel) (pa_cons (pv 0) pa_nil)) (pa_cons pe_int pa_nil))) pa_nil))) pa_nil)) (pg_name (i := 1) sc_law.nd rfl (Or.inl rfl))
      (pss_cons (ps_set (i := 2) sc_law.nd rfl (Or.inl rfl) (c_call (ok__law_pot T) (hr.mono (by decide)) T.g__law_pot T.k__law_pot takes0 (pa_cons (pv 0) (pa_cons (pv 1) pa_nil))))
      (pss_cons (ps_set (i := 3) sc_law.nd rfl (Or.inl rfl) (c_call (ok__law_draw T) (hr.mono (by decide)) T.g__law_draw T.k__law_draw takes0 (pa_cons (pv 2) (pa_cons pe_int pa_nil))))
      (pss_cons (ps_set (i := 4) sc_law.nd rfl (Or.inl rfl) (c_call (ok__law_list T) (hr.mono (by decide)) T.g__law_list T.k__law_list takes0 (pa_cons (pv 2) pa_nil)))
      (Evl.pss_cut (ps_if (pt_cmpR op_eq (pv 3) pe_int (nomark _))
      (pss_one (ps_set (i := 4) sc_law.nd rfl (Or.inl rfl) (pe_lst pa_nil)))
      pss_nil)
      (pss_cons (ps_set (i := 5) sc_law.nd rfl (Or.inl rfl) (c_call (ok__law_spoilt T) (hr.mono (by decide)) T.g__law_spoilt T.k__law_spoilt takes0 (pa_cons (pv 2) (pa_cons (c_call (ok__law_base T) (hr.mono (by decide)) T.g__law_base T.k__law_base takes0 (pa_cons (pv 2) (pa_cons (pv 4) pa_nil))) pa_nil))))
      (Evl.pss_cut (ps_if (pt_cmpR op_eq (pv 3) pe_int (nomark _))
      (pss_one (ps_set (i := 5) sc_law.nd rfl (Or.inl rfl) (c_call (ok__law_numbers T) (hr.mono (by decide)) T.g__law_numbers T.k__law_numbers takes0 (pa_cons (c_call (ok__law_list T) (hr.mono (by decide)) T.g__law_list T.k__law_list takes0 (pa_cons (pv 2) pa_nil)) pa_nil))))
      pss_nil)
      (pss_cons (ps_set (i := 6) sc_law.nd rfl (Or.inl rfl) (pe_callB (call_reprX K hr) (by rfl) T.n_repr (by decide +kernel) (pa_cons (c_call (ok__law_holds T) (hr.mono (by decide)) T.g__law_holds T.k__law_holds takes0 (pa_cons (pv 4) (pa_cons (pv 5) pa_nil))) pa_nil)))
      (pss_cons (ps_set (i := 7) sc_law.nd rfl (Or.inl rfl) (c_call (ok__law_turned T) (hr.mono (by decide)) T.g__law_turned T.k__law_turned takes0 (pa_cons (pv 2) (pa_cons (pv 4) pa_nil))))
      (Evl.pss_cut (ps_if (pt_cmpR op_eq (c_call (ok__law_draw T) (hr.mono (by decide)) T.g__law_draw T.k__law_draw takes0 (pa_cons (pv 2) (pa_cons pe_int pa_nil))) pe_int (nomark _))
      (pss_one (ps_set (i := 5) sc_law.nd rfl (Or.inl rfl) (pe_callTy call_tuple_of (by rfl) T.n_tuple (by decide +kernel) (pa_cons (pe_lc (own := [("_law_numbers_here", 10)]) (by rfl) sc_law.nd (pi_list (pv 5)) (blkOk_by (own := [("_law_numbers_here", 10)]) (N := ["_law_script", "_law_k", "_law_pot_here", "_law_way", "_law_row", "_law_given", "_law_due", "_law_order", "_law_kept", "_law_turn", "_law_numbers_here"]) (sc := defScope s_law) (by decide +kernel)) (fun _ _ _ _ _ => (pg_name (i := 10) sc_law.nd rfl (Or.inl rfl))) (fun _ _ _ _ _ => pts_nil) (fun _ _ _ _ _ => (pe_callTy (call_tuple_ofK K) (by rfl) T.n_tuple (by decide +kernel) (pa_cons (pv 10) pa_nil)))) pa_nil))))
      pss_nil)
      (pss_cons (ps_set (i := 8) sc_law.nd rfl (Or.inl rfl) (pe_callB (call_repr hr) (by rfl) T.n_repr (by decide +kernel) (pa_cons (pe_lst (pa_cons (pv 7) (pa_cons (pv 5) pa_nil))) pa_nil)))
      (pss_cons (ps_for (passes_of rfl) rfl (pi_range1 (by rfl) T.n_range (pa_cons pe_int pa_nil)) (pg_name (i := 9) sc_law.nd rfl (Or.inl rfl))
      (pss_one (ps_if (PW.pt (pw_or (pt_cmpR op_ne (pe_callB (call_reprX K hr) (by rfl) T.n_repr (by decide +kernel) (pa_cons (c_call (ok_is_paper T) (hr.mono (by decide)) T.g_is_paper T.k_is_paper takes0 (pa_cons (pv 7) (pa_cons (pv 5) pa_nil))) pa_nil)) (pv 6) (nomark _)) (pw_or1 (pt_cmpR op_ne (pe_callB (call_repr hr) (by rfl) T.n_repr (by decide +kernel) (pa_cons (pe_lst (pa_cons (pv 7) (pa_cons (pv 5) pa_nil))) pa_nil)) (pv 8) (nomark _)))))
      (pss_one (ps_ret pe_bl))
      pss_nil)))
      (pss_one (ps_if (pt_cmpR op_ne (pe_callB (call_reprX K hr) (by rfl) T.n_repr (by decide +kernel) (pa_cons (c_callK0 (ok_is_paper_0_paper_moments T) (hr.mono (by decide)) T.g_is_paper T.k_is_paper takes0 (pk_cons (pv 5) (pk_cons (pe_callTy call_tuple_of (by rfl) T.n_tuple (by decide +kernel) (pa_cons (pv 4) pa_nil)) pk_nil))) pa_nil)) (pv 6) (nomark _))
      (pss_one (ps_ret pe_bl))
      pss_nil))))))))))))))
      (pss_one (ps_ret pe_bl))), ?_⟩
    refine ⟨_, rfl, _, _, rfl, .inl ⟨_, hS, rfl⟩, _, _, rfl, _, _, rfl, _, rfl, (turns_lo 6 _ (by decide)), (turns_hi 6 _ (by decide)), for_range (fun i σ H' => Ex H H' ∧ ∃ v : Nat → Option V, σ = [some (.ref a), v 1, v 2, v 3, v 4, v 5, v 6, v 7, v 8, v 9, v 10]) ⟨.refl H, fun _ => none, rfl⟩ ?_ ?_⟩
    · rintro i σ H1 hi ⟨X1, v, rfl⟩
      have i1 : i < 1000 := turns_lt 6 _ (by decide) hi
      refine ⟨_, rfl, _, rfl, a, ns, _, rfl, ex_sql X1 hS, by omega, by omega, fun p H2 np P2 K2 => ?_⟩
      have X2 : Ex H H2 := fun b o e => by rw [K2 b (ne_of_none (X1 b o e) np)]; exact X1 b o e
      have hp0 : H p = none := ex_fresh X1 np
      refine ⟨_, rfl, p, 8, rfl, P2, by decide, by decide, fun way H3 w0 w1 P3 => ?_⟩
      refine ⟨_, rfl, p, rfl, P3.1, fun f rw1 H4 nf hf pw1 lw1 bw1 P4 => ?_⟩
      have X4 : Ex H2 H2 := .refl _
      have nq : ∀ b G, PotOn H2 G p → G b = none → b ≠ p := fun b G P nb z => by
        obtain ⟨x, y, e, _⟩ := P.1
        rw [z, e] at nb
        cases nb
      refine ⟨fun σ G => PotOn H2 G p ∧ ∃ (r : Addr) (ns : List Nat), r ≠ p ∧ G r = some (.lst (natV ns)) ∧ ns.Pairwise (· < ·) ∧ ns.length ≤ 40 ∧ (∀ n ∈ ns, n < 10 ^ 60) ∧ σ = [some (.ref a), some (.int (0 + (i : Nat))), some (.ref p), some (.int way), some (.ref r), v 5, v 6, v 7, v 8, v 9, v 10], ?_, ?_⟩
      · refine ⟨_, rfl, rfl, _, rfl, ite2 (fun c => ?_) (fun c => ?_)⟩
        · refine ⟨by show 0 ≤ sizeLine; decide, fun r nr => ?_⟩
          exact ⟨pot_new (P3.trans P4) nr, r, [], nq _ _ (P3.trans P4) nr, upd_same, .nil, by decide, (fun _ hn => nomatch hn), rfl⟩
        · exact ⟨P3.trans P4, f, rw1, nq _ _ P3 nf, hf, pw1, lw1, bw1, rfl⟩
      clear P3 P4 nf hf pw1 lw1 bw1 rw1 f X4
      rintro σ H5 ⟨P5, r, rw_, rp, hr5, pw, lw, bw, rfl⟩
      refine ⟨_, rfl, _, rfl, _, rfl, p, r, rw_, rfl, P5.1, rp, hr5, lw, fun b pap0 as0 H6 nb0 hb0 l0 l1 s100 P6 => ?_⟩
      have P56 := P5.trans P6
      have nq5 : ∀ b, H5 b = none → b ≠ p := fun b nb => nq b H5 P5 nb
      refine ⟨p, b, pap0, as0, _, rfl, P6.1, hb0, nq5 b nb0, nq5, by omega, (by rw [l0]; exact l1), s100, fun g pap as H7 ng hg hO P7 => ?_⟩
      have nq6 : ∀ b, H6 b = none → b ≠ p := fun b nb => nq b H6 P56 nb
      refine ⟨fun σ G => PotOn H2 G p ∧ G r = some (.lst (natV rw_)) ∧ ∃ g pap as, PapL (fun b => b ≠ p) G g pap as ∧ g ≠ p ∧ OkP pap ∧ σ = [some (.ref a), some (.int (0 + (i : Nat))), some (.ref p), some (.int way), some (.ref r), some (.ref g), v 6, v 7, v 8, v 9, v 10], ?_, ?_⟩
      · have hr7 := (P6.trans P7).2 _ _ rp hr5
        refine ⟨_, rfl, rfl, _, rfl, ite2 (fun c => ?_) (fun c => ?_)⟩
        · refine ⟨_, rfl, p, rfl, (P56.trans P7).1, fun f rw2 H8 nf hf pw2 lw2 bw2 P8 => ?_⟩
          refine ⟨f, rw2, rfl, hf, lw2, fun g2 pap2 as2 H9 X9 ng2 hg2 l2 l3 s2 => ?_⟩
          have P8' := (P56.trans P7).trans P8
          refine ⟨P8'.ex2 X9, X9 _ _ (P8.2 _ _ rp hr7), g2, pap2, as2, hg2.weak (fun b nb => nq b H8 P8' nb), nq _ _ P8' ng2, ⟨by omega, fun r hr => ?_, smallP_le s2 (by decide)⟩, rfl⟩
          obtain ⟨j, jl, rfl⟩ := List.getElem_of_mem hr
          have e : pap2.getD j [] = pap2[j] := by rw [List.getD_eq_getElem?_getD, List.getElem?_eq_getElem jl]; rfl
          have := l3 j (by omega)
          rw [e] at this
          omega
        · exact ⟨P56.trans P7, hr7, g, pap, as, hg.weak nq6, nq6 _ ng, hO, rfl⟩
      clear hg ng hO P7 s100 l1 l0 hb0 nb0 P6 P56 P5 nq5 nq6 hr5 pap0 as0
      clear g pap as H7 H6 H5
      rintro σ H7 ⟨P7, hr7, g, pap, as, hg, gp, hO, rfl⟩
      refine ⟨_, rfl, _, rfl, r, g, rw_, pap, rfl, sq_lst hr7, hg.at, by have := hO.1; omega, fun x hx => by have := hO.2.1 x hx; omega, by omega, fun H8 X8 => ?_⟩
      generalize hB : paperB rw_ pap = B
      refine rx_data (.bl B) rfl (by show 5 ≤ 16000000; decide) (by show 0 ≤ 60; decide) ?_
      have hg8 := hg.mono X8
      have hr8 := X8 _ _ hr7
      have P8 := P7.ex2 X8
      refine ⟨_, rfl, _, rfl, p, r, rw_, rfl, P8.1, rp, hr8, lw, fun o ms H9 no ho pm P9 => ?_⟩
      have P9' := P8.trans P9
      have hg9 := hg8.oth P9.2 gp (fun b nb => nb)
      have hr9 := P9.2 _ _ rp hr8
      have op : o ≠ p := nq _ _ P8 no
      refine ⟨fun σ G => PotOn H2 G p ∧ G r = some (.lst (natV rw_)) ∧ G o = some (.lst (natV ms)) ∧ ∃ t g as, PapV t G g pap as ∧ σ = [some (.ref a), some (.int (0 + (i : Nat))), some (.ref p), some (.int way), some (.ref r), some (.ref g), some (.str (PyData.bool B).shown), some (.ref o), v 8, v 9, v 10], ?_, ?_⟩
      · refine ⟨_, rfl, p, 2, rfl, P9'.1, by decide, by decide, fun d H10 d0 d1 P10 => ?_⟩
        have hg10 := hg9.oth P10.2 gp (fun b nb => nb)
        have hr10 := P10.2 _ _ rp hr9
        have ho10 := P10.2 _ _ op ho
        have P10' := P9'.trans P10
        refine ⟨rfl, _, rfl, ite2 (fun c => ?_) (fun c => ?_)⟩
        · refine ⟨_, rfl, _, rfl, ⟨_, sq_lst hg10.1⟩, ?_⟩
          intro A nA
          refine lc_any (L2.walk_list (K := K) (a := g) (xs := as.map V.ref)) (fun m acc G => Ex H10 G ∧ ∃ cs : List Addr, acc = cs.map V.ref ∧ cs.length = m ∧ ∀ (k : Nat) (b : Addr), cs[k]? = some b → b ≠ A ∧ G b = some (.tup ((pap.getD k []).map V.int))) (fun m acc G z e => ?_) ⟨.refl _, [], rfl, rfl, fun k b hk => by simp at hk⟩ (by rw [List.length_map, hg10.2.1]; have := hO.1; omega) (fun m acc G e => ?_) (fun m acc G e => sq_lst (e.1 _ _ hg10.1)) (fun m x G G' acc N_ hm e hA' la y k _ => ?_) (fun acc G e hA' => ?_)
          · obtain ⟨e1, cs, e2, e3, e4⟩ := e
            exact ⟨ex_mut e1 nA, cs, e2, e3, fun k b hk => let ⟨g1, g2⟩ := e4 k b hk; ⟨g1, by rw [upd_ne g1]; exact g2⟩⟩
          · obtain ⟨_, cs, rfl, e3, _⟩ := e
            rw [List.length_map, e3]
            exact Nat.le_refl _
          · obtain ⟨rfl, y⟩ := y
            obtain ⟨e1, cs, e2, e3, e4⟩ := e
            rw [List.length_map] at hm
            have aslen := hg10.2.1
            obtain ⟨b, hb, _, g1, g2, g3⟩ := hg10.row (i := m) (by omega)
            rw [List.getElem?_map, hb] at y
            cases y
            refine ⟨rfl, ?_⟩
            simp only [tYes, ↓reduceIte]
            refine ⟨_, rfl, _, _, rfl, .inl ⟨sq_lst (e1 _ _ g3), fun B nB => ?_⟩⟩
            have X3 := ex_new (o := .tup ((pap.getD m []).map V.int)) nB
            have BA : B ≠ A := fun z => by rw [z, hA'] at nB; cases nB
            refine ⟨acc, X3 _ _ hA', la, k _ _ (X3 _ _ hA') ⟨e1.trans X3, cs ++ [B], by rw [e2, List.map_append]; rfl, by rw [List.length_append, e3]; rfl, fun j c hj => ?_⟩⟩
            by_cases d : j < cs.length
            · rw [List.getElem?_append_left d] at hj
              obtain ⟨k1, k2⟩ := e4 j c hj
              exact ⟨k1, X3 _ _ k2⟩
            · rw [List.getElem?_append_right (by omega)] at hj
              have hj2 : [B][j - cs.length]? = some c := hj
              have cb : c = B := List.mem_singleton.mp (List.mem_of_getElem? hj2)
              have ji : j = m := by
                obtain ⟨z, _⟩ := List.getElem?_eq_some_iff.mp hj2
                simp at z
                omega
              rw [cb, ji]
              exact ⟨BA, upd_same⟩
          · obtain ⟨e1, cs, e2, e3, e4⟩ := e
            rw [List.length_map, hg10.2.1] at e3
            refine ⟨_, _, rfl, .inl ⟨sq_lst hA', fun l nl => ?_⟩⟩
            have X3 := e1.trans (ex_new (o := .tup acc) nl)
            refine ⟨P10'.ex2 X3, X3 _ _ hr10, X3 _ _ ho10, true, l, cs, ⟨by rw [upd_same, e2]; rfl, e3, fun j b hb => ?_⟩, rfl⟩
            exact (ex_new (o := .tup acc) nl) _ _ (e4 j b hb).2
        · exact ⟨P10', hr10, ho10, false, g, as, hg10.v, rfl⟩
      clear hg9 hg8 hg hr9 hr8 hr7 ho P9' P9 P8 P7 X8 gp
      rintro σ H11 ⟨P11, hr11, ho11, t, g', bs, hg11, rfl⟩
      have X11 : Ex H H11 := PotOn.ex X2 hp0 P11
      have bm : ∀ n ∈ ms, n < 10 ^ 60 := fun n hn => bw n (pm.subset hn)
      have lm : ms.length ≤ 40 := by rw [pm.length_eq]; exact lw
      have rD : rw_.Nodup := pw.imp fun {a b} (z : a < b) => Nat.ne_of_lt z
      have mD : ms.Nodup := pm.nodup_iff.mpr rD
      have sr : srtN rw_ = rw_ := sorted_ext (srtN_lt rD) pw fun x => srtN_mem x rw_
      have sm : srtN ms = rw_ := sorted_ext (srtN_lt mD) pw fun x => (srtN_mem x ms).trans pm.mem_iff
      have hs1 := hO.1
      have hs2 : ∀ x ∈ pap, x.length ≤ 1000 := fun x hx => by have := hO.2.1 x hx; omega
      refine ⟨_, rfl, _, rfl, by show 2 ≤ sizeLine; decide, fun l1 nl1 => ?_⟩
      have X12 := ex_new (o := .lst [.ref o, .ref g']) nl1
      have hg12 := hg11.mono X12
      refine pap_repr hg12 hO (X12 _ _ ho11) bm lm upd_same ?_
      obtain ⟨S, hS_⟩ : ∃ S, S = (PyData.list [.list (ms.map fun n : Nat => PyData.int n), papD t pap]).shown := ⟨_, rfl⟩
      rw [← hS_]
      have X12' := X11.trans X12
      generalize upd H11 l1 (.lst [.ref o, .ref g']) = H12 at X12 X12' hg12 ⊢
      refine ⟨_, rfl, (by decide), (by decide), for_range (fun m σ G => Ex H12 G ∧ ∃ v9, σ = [some (.ref a), some (.int (0 + (i : Nat))), some (.ref p), some (.int way), some (.ref r), some (.ref g'), some (.str (PyData.bool B).shown), some (.ref o), some (.str S), v9, v 10]) ⟨.refl _, _, rfl⟩ ?_ ?_⟩
      · rintro m σ H13 hm ⟨X13, v9, rfl⟩
        have hg13 := hg12.mono X13
        have ho13 := X13 _ _ (X12 _ _ ho11)
        refine ⟨_, rfl, _, rfl, _, some ms, _, pap, rfl, momG_nat (.inl ho13) (by omega) mD, fun _ => ⟨hg13.at, by omega, hs2⟩, fun ns e => by cases e; omega, fun ns e H14 X14 => ?_, fun e => nomatch e⟩
        cases e
        rw [sm, hB]
        refine rx_data (.bl B) rfl (by show 5 ≤ 16000000; decide) (by show 0 ≤ 60; decide) ?_
        refine ⟨_, rfl, rfl, _, rfl, ?_⟩
        rw [decide_eq_true rfl]
        refine iteF ⟨_, rfl, _, rfl, by show 2 ≤ sizeLine; decide, fun l2 nl2 => ?_⟩
        have X15 := ex_new (o := .lst [.ref o, .ref g']) nl2
        refine pap_repr (hg13.mono (X14.trans X15)) hO (X15 _ _ (X14 _ _ ho13)) bm lm upd_same ?_
        rw [← hS_]
        refine ⟨_, rfl, rfl, _, rfl, ?_⟩
        rw [decide_eq_true rfl]
        exact iteF ⟨(X13.trans X14).trans X15, _, rfl⟩
      · rintro σ H13 ⟨X13, v9, rfl⟩
        have hr13 := X13 _ _ (X12 _ _ hr11)
        have hg13 := hg12.mono X13
        refine ⟨_, rfl, _, rfl, _, _, rfl, .inl ⟨sq_lst hr13, fun l2 nl2 => ?_⟩⟩
        have X15 := ex_new (o := .tup (natV rw_)) nl2
        refine ⟨rfl, rfl, _, some rw_, _, pap, rfl, momG_nat (.inr upd_same) (by omega) rD, fun _ => ⟨(hg13.mono X15).at, by omega, hs2⟩, fun ns e => by cases e; omega, fun ns e H14 X14 => ?_, fun e => nomatch e⟩
        cases e
        rw [sr, hB]
        refine rx_data (.bl B) rfl (by show 5 ≤ 16000000; decide) (by show 0 ≤ 60; decide) ?_
        refine ⟨_, rfl, rfl, _, rfl, ?_⟩
        rw [decide_eq_true rfl]
        refine iteF ⟨((X12'.trans X13).trans X15).trans X14, fun n => ([some (.ref a), some (.int (0 + (i : Nat))), some (.ref p), some (.int way), some (.ref r), some (.ref g'), some (.str (PyData.bool B).shown), some (.ref o), some (.str S), v9, v 10].getD n none), rfl⟩
    · rintro σ H1 ⟨_, _, rfl⟩
      exact q _
end
end Toy
namespace Toy
open PySem PySem.Spec PyProof.Rows L2 L3
def xf1 : List Fx := [fun K => (He.Fa.glo "is_minute").ok K,
  fun K => (He.Fa.glo "in_rising_order").ok K,
  fun K => (He.Fa.glo "is_over").ok K,
  fun K => (He.Fa.glo "first_parts").ok K,
  fun K => (He.Fa.glo "most_number").ok K,
  fun K => (He.Fa.glo "has_shape").ok K,
  fun K => (He.Fa.glo "is_paper").ok K,
  fun K => (He.Fa.glo "_law_pot").ok K,
  fun K => (He.Fa.glo "_law_draw").ok K,
  fun K => (He.Fa.glo "_law_gap").ok K,
  fun K => (He.Fa.glo "_law_means").ok K,
  fun K => (He.Fa.glo "_law_moved").ok K,
  fun K => (He.Fa.glo "_law_part").ok K,
  fun K => (He.Fa.glo "_law_parts").ok K,
  fun K => (He.Fa.glo "_law_tree").ok K,
  fun K => (He.Fa.glo "_law_list").ok K,
  fun K => (He.Fa.glo "_law_turned").ok K,
  fun K => (He.Fa.glo "_law_is_over").ok K,
  fun K => (He.Fa.glo "_law_most").ok K,
  fun K => (He.Fa.glo "_law_holds").ok K,
  fun K => (He.Fa.glo "_law_numbers").ok K,
  fun K => (He.Fa.glo "_law_base").ok K,
  fun K => (He.Fa.glo "_law_less").ok K]
def xf2 : List Fx := [fun K => (He.Fa.glo "_law_spoilt").ok K,
  fun K => (He.Fa.glo "law").ok K,
  fun K => (He.Fa.free "all").ok K,
  fun K => (He.Fa.free "any").ok K,
  fun K => (He.Fa.free "bool").ok K,
  fun K => (He.Fa.free "divmod").ok K,
  fun K => (He.Fa.free "enumerate").ok K,
  fun K => (He.Fa.free "int").ok K,
  fun K => (He.Fa.free "isinstance").ok K,
  fun K => (He.Fa.free "len").ok K,
  fun K => (He.Fa.free "list").ok K,
  fun K => (He.Fa.free "max").ok K,
  fun K => (He.Fa.free "min").ok K,
  fun K => (He.Fa.free "range").ok K,
  fun K => (He.Fa.free "repr").ok K,
  fun K => (He.Fa.free "sorted").ok K,
  fun K => (He.Fa.free "tuple").ok K,
  fun K => (He.Fa.free "zip").ok K,
  fun K => (He.Fa.glo "GoingError").ok K,
  exoB bmV "ValueError.__new__" "GoingError",
  fun K => (He.Fa.glo "NoPiece").ok K,
  exoB bmV "ValueError.__new__" "NoPiece",
  sysB]
def xf : List Fx := xf1 ++ xf2
def d_is_minute : He.DefD := ⟨("is_minute", none), "is_minute", "is_minute", defArgs s_is_minute, defBody s_is_minute, defScope s_is_minute, [], []⟩
def d_in_rising_order : He.DefD := ⟨("in_rising_order", none), "in_rising_order", "in_rising_order", defArgs s_in_rising_order, defBody s_in_rising_order, defScope s_in_rising_order, [], []⟩
def d_is_over : He.DefD := ⟨("is_over", none), "is_over", "is_over", defArgs s_is_over, defBody s_is_over, defScope s_is_over, [], []⟩
def d_first_parts : He.DefD := ⟨("first_parts", none), "first_parts", "first_parts", defArgs s_first_parts, defBody s_first_parts, defScope s_first_parts, [], []⟩
def d_most_number : He.DefD := ⟨("most_number", none), "most_number", "most_number", defArgs s_most_number, defBody s_most_number, defScope s_most_number, [], []⟩
def d_has_shape : He.DefD := ⟨("has_shape", none), "has_shape", "has_shape", defArgs s_has_shape, defBody s_has_shape, defScope s_has_shape, [], []⟩
def d_is_paper : He.DefD := ⟨("is_paper", none), "is_paper", "is_paper", defArgs s_is_paper, defBody s_is_paper, defScope s_is_paper, [], []⟩
def d__law_pot : He.DefD := ⟨("_law_pot", none), "_law_pot", "_law_pot", defArgs s__law_pot, defBody s__law_pot, defScope s__law_pot, [], []⟩
def d__law_draw : He.DefD := ⟨("_law_draw", none), "_law_draw", "_law_draw", defArgs s__law_draw, defBody s__law_draw, defScope s__law_draw, [], []⟩
def d__law_gap : He.DefD := ⟨("_law_gap", none), "_law_gap", "_law_gap", defArgs s__law_gap, defBody s__law_gap, defScope s__law_gap, [], []⟩
def d__law_means : He.DefD := ⟨("_law_means", none), "_law_means", "_law_means", defArgs s__law_means, defBody s__law_means, defScope s__law_means, [], []⟩
def d__law_moved : He.DefD := ⟨("_law_moved", none), "_law_moved", "_law_moved", defArgs s__law_moved, defBody s__law_moved, defScope s__law_moved, [], []⟩
def d__law_part : He.DefD := ⟨("_law_part", none), "_law_part", "_law_part", defArgs s__law_part, defBody s__law_part, defScope s__law_part, [], []⟩
def d__law_parts : He.DefD := ⟨("_law_parts", none), "_law_parts", "_law_parts", defArgs s__law_parts, defBody s__law_parts, defScope s__law_parts, [], []⟩
def d__law_tree : He.DefD := ⟨("_law_tree", none), "_law_tree", "_law_tree", defArgs s__law_tree, defBody s__law_tree, defScope s__law_tree, [], []⟩
def d__law_list : He.DefD := ⟨("_law_list", none), "_law_list", "_law_list", defArgs s__law_list, defBody s__law_list, defScope s__law_list, [], []⟩
def d__law_turned : He.DefD := ⟨("_law_turned", none), "_law_turned", "_law_turned", defArgs s__law_turned, defBody s__law_turned, defScope s__law_turned, [], []⟩
def d__law_is_over : He.DefD := ⟨("_law_is_over", none), "_law_is_over", "_law_is_over", defArgs s__law_is_over, defBody s__law_is_over, defScope s__law_is_over, [], []⟩
def d__law_most : He.DefD := ⟨("_law_most", none), "_law_most", "_law_most", defArgs s__law_most, defBody s__law_most, defScope s__law_most, [], []⟩
def d__law_holds : He.DefD := ⟨("_law_holds", none), "_law_holds", "_law_holds", defArgs s__law_holds, defBody s__law_holds, defScope s__law_holds, [], []⟩
def d__law_numbers : He.DefD := ⟨("_law_numbers", none), "_law_numbers", "_law_numbers", defArgs s__law_numbers, defBody s__law_numbers, defScope s__law_numbers, [], []⟩
def d__law_base : He.DefD := ⟨("_law_base", none), "_law_base", "_law_base", defArgs s__law_base, defBody s__law_base, defScope s__law_base, [], []⟩
def d__law_less : He.DefD := ⟨("_law_less", none), "_law_less", "_law_less", defArgs s__law_less, defBody s__law_less, defScope s__law_less, [], []⟩
def d__law_spoilt : He.DefD := ⟨("_law_spoilt", none), "_law_spoilt", "_law_spoilt", defArgs s__law_spoilt, defBody s__law_spoilt, defScope s__law_spoilt, [], []⟩
def d_law : He.DefD := ⟨("law", none), "law", "law", defArgs s_law, defBody s_law, defScope s_law, [], []⟩
def fn : List He.DefD := [d_is_minute, d_in_rising_order, d_is_over, d_first_parts, d_most_number, d_has_shape, d_is_paper, d__law_pot, d__law_draw, d__law_gap, d__law_means, d__law_moved, d__law_part, d__law_parts, d__law_tree, d__law_list, d__law_turned, d__law_is_over, d__law_most, d__law_holds, d__law_numbers, d__law_base, d__law_less, d__law_spoilt, d_law]
abbrev R : PySem.W.OpenRow := PySem.W.OpenLaw.row PySem.Challenge.rw_shortgoings_k33_papers_judged
def adr0 : List Addr := [3, 24, 23, 1, 37, 46, 51, 56, 61, 66, 71, 78, 85, 92, 99, 104, 109, 116, 123, 128, 135, 142, 149, 156, 163, 168, 173, 180, 185, 190]
def adr1 : List Addr := [36, 45, 50, 55, 60, 65, 70, 77, 84, 91, 98, 103, 108, 115, 122, 127, 134, 141, 148, 155, 162, 167, 172, 179, 184, 189]
def adr : List Addr := adr0 ++ adr1
abbrev hk : PySem.W.Hook := hookA adr xf fn
def ob (s : PySem.W.SharedT) : He.AlD := obsA adr xf fn (HandSHeadRun.getT s)
theorem ob_eq (s : PySem.W.SharedT) : ob s = hk.obs s.abs := obsA_eq (HandSHeadRun.getT_eq s)
def ns0 : List PySem.Str := ["GoingError", "NoPiece", "is_minute", "in_rising_order", "is_over", "first_parts", "most_number", "has_shape", "is_paper", "_law_pot", "_law_draw", "_law_gap", "_law_means", "_law_moved", "_law_part", "_law_parts", "_law_tree", "_law_list", "_law_turned", "_law_is_over", "_law_most", "_law_holds", "_law_numbers", "_law_base", "_law_less", "_law_spoilt"]
def nss : List PySem.Str := ns0
theorem run_a (w : World) : HandSHeadRun.RunA R (PySem.W.view R.prog [29]) 8000 nss w := by
  intro os
  kernel_rfl
theorem run_b (w : World) : HandSHeadRun.RunB R 8000 (fun s => xf1.all fun p => p (He.frG (HandSHeadRun.getT s) adr)) w := by
  intro os
  kernel_rfl
theorem run_c (w : World) : HandSHeadRun.RunB R 8000 (fun s => xf2.all fun p => p (He.frG (HandSHeadRun.getT s) adr)) w := by
  intro os
  kernel_rfl
theorem run_d (w : World) : ∀ os : OsState, (HandSHeadRun.endR R 8000 w os).map (fun s => (fn.all fun d => d.ok (He.frG (HandSHeadRun.getT s) adr), fn.map fun d => He.fnW (He.frG (HandSHeadRun.getT s) adr) d.at_)) = some (true, fn.map He.DefD.val) := by
  intro os
  kernel_rfl
theorem run (w : World) : HandSHeadRun.RunEq R (PySem.W.view R.prog [29]) hk ob 8000 nss w := HandSHeadRun.runEq_of (run_a w) (runC_of rfl (run_b w) (run_c w) (run_d w))
theorem env_of {K : PySem.W.Frag} {h : Heap} {mg : Str → Option Value} (X : K.In h) (G : h.Ns mainGlobals mg) (c : SaysX xf fn K) : Env K mg :=
  ⟨He.glo_ok X G (c.fact 0 (f := fun K => (He.Fa.glo "is_minute").ok K) rfl),
  He.glo_ok X G (c.fact 1 (f := fun K => (He.Fa.glo "in_rising_order").ok K) rfl),
  He.glo_ok X G (c.fact 2 (f := fun K => (He.Fa.glo "is_over").ok K) rfl),
  He.glo_ok X G (c.fact 3 (f := fun K => (He.Fa.glo "first_parts").ok K) rfl),
  He.glo_ok X G (c.fact 4 (f := fun K => (He.Fa.glo "most_number").ok K) rfl),
  He.glo_ok X G (c.fact 5 (f := fun K => (He.Fa.glo "has_shape").ok K) rfl),
  He.glo_ok X G (c.fact 6 (f := fun K => (He.Fa.glo "is_paper").ok K) rfl),
  He.glo_ok X G (c.fact 7 (f := fun K => (He.Fa.glo "_law_pot").ok K) rfl),
  He.glo_ok X G (c.fact 8 (f := fun K => (He.Fa.glo "_law_draw").ok K) rfl),
  He.glo_ok X G (c.fact 9 (f := fun K => (He.Fa.glo "_law_gap").ok K) rfl),
  He.glo_ok X G (c.fact 10 (f := fun K => (He.Fa.glo "_law_means").ok K) rfl),
  He.glo_ok X G (c.fact 11 (f := fun K => (He.Fa.glo "_law_moved").ok K) rfl),
  He.glo_ok X G (c.fact 12 (f := fun K => (He.Fa.glo "_law_part").ok K) rfl),
  He.glo_ok X G (c.fact 13 (f := fun K => (He.Fa.glo "_law_parts").ok K) rfl),
  He.glo_ok X G (c.fact 14 (f := fun K => (He.Fa.glo "_law_tree").ok K) rfl),
  He.glo_ok X G (c.fact 15 (f := fun K => (He.Fa.glo "_law_list").ok K) rfl),
  He.glo_ok X G (c.fact 16 (f := fun K => (He.Fa.glo "_law_turned").ok K) rfl),
  He.glo_ok X G (c.fact 17 (f := fun K => (He.Fa.glo "_law_is_over").ok K) rfl),
  He.glo_ok X G (c.fact 18 (f := fun K => (He.Fa.glo "_law_most").ok K) rfl),
  He.glo_ok X G (c.fact 19 (f := fun K => (He.Fa.glo "_law_holds").ok K) rfl),
  He.glo_ok X G (c.fact 20 (f := fun K => (He.Fa.glo "_law_numbers").ok K) rfl),
  He.glo_ok X G (c.fact 21 (f := fun K => (He.Fa.glo "_law_base").ok K) rfl),
  He.glo_ok X G (c.fact 22 (f := fun K => (He.Fa.glo "_law_less").ok K) rfl),
  He.glo_ok X G (c.fact 23 (f := fun K => (He.Fa.glo "_law_spoilt").ok K) rfl),
  He.glo_ok X G (c.fact 24 (f := fun K => (He.Fa.glo "law").ok K) rfl),
  He.free_ok X G (c.fact 25 (f := fun K => (He.Fa.free "all").ok K) rfl),
  He.free_ok X G (c.fact 26 (f := fun K => (He.Fa.free "any").ok K) rfl),
  He.free_ok X G (c.fact 27 (f := fun K => (He.Fa.free "bool").ok K) rfl),
  He.free_ok X G (c.fact 28 (f := fun K => (He.Fa.free "divmod").ok K) rfl),
  He.free_ok X G (c.fact 29 (f := fun K => (He.Fa.free "enumerate").ok K) rfl),
  He.free_ok X G (c.fact 30 (f := fun K => (He.Fa.free "int").ok K) rfl),
  He.free_ok X G (c.fact 31 (f := fun K => (He.Fa.free "isinstance").ok K) rfl),
  He.free_ok X G (c.fact 32 (f := fun K => (He.Fa.free "len").ok K) rfl),
  He.free_ok X G (c.fact 33 (f := fun K => (He.Fa.free "list").ok K) rfl),
  He.free_ok X G (c.fact 34 (f := fun K => (He.Fa.free "max").ok K) rfl),
  He.free_ok X G (c.fact 35 (f := fun K => (He.Fa.free "min").ok K) rfl),
  He.free_ok X G (c.fact 36 (f := fun K => (He.Fa.free "range").ok K) rfl),
  He.free_ok X G (c.fact 37 (f := fun K => (He.Fa.free "repr").ok K) rfl),
  He.free_ok X G (c.fact 38 (f := fun K => (He.Fa.free "sorted").ok K) rfl),
  He.free_ok X G (c.fact 39 (f := fun K => (He.Fa.free "tuple").ok K) rfl),
  He.free_ok X G (c.fact 40 (f := fun K => (He.Fa.free "zip").ok K) rfl),
  He.glo_ok X G (c.fact 41 (f := fun K => (He.Fa.glo "GoingError").ok K) rfl),
  exo_of (c.fact 42 (f := exoB bmV "ValueError.__new__" "GoingError") rfl),
  He.glo_ok X G (c.fact 43 (f := fun K => (He.Fa.glo "NoPiece").ok K) rfl),
  exo_of (c.fact 44 (f := exoB bmV "ValueError.__new__" "NoPiece") rfl),
  sys_of (c.fact 45 (f := sysB) rfl),
  c.def_ 0 (d := d_is_minute) rfl,
  c.def_ 1 (d := d_in_rising_order) rfl,
  c.def_ 2 (d := d_is_over) rfl,
  c.def_ 3 (d := d_first_parts) rfl,
  c.def_ 4 (d := d_most_number) rfl,
  c.def_ 5 (d := d_has_shape) rfl,
  c.def_ 6 (d := d_is_paper) rfl,
  c.def_ 7 (d := d__law_pot) rfl,
  c.def_ 8 (d := d__law_draw) rfl,
  c.def_ 9 (d := d__law_gap) rfl,
  c.def_ 10 (d := d__law_means) rfl,
  c.def_ 11 (d := d__law_moved) rfl,
  c.def_ 12 (d := d__law_part) rfl,
  c.def_ 13 (d := d__law_parts) rfl,
  c.def_ 14 (d := d__law_tree) rfl,
  c.def_ 15 (d := d__law_list) rfl,
  c.def_ 16 (d := d__law_turned) rfl,
  c.def_ 17 (d := d__law_is_over) rfl,
  c.def_ 18 (d := d__law_most) rfl,
  c.def_ 19 (d := d__law_holds) rfl,
  c.def_ 20 (d := d__law_numbers) rfl,
  c.def_ 21 (d := d__law_base) rfl,
  c.def_ 22 (d := d__law_less) rfl,
  c.def_ 23 (d := d__law_spoilt) rfl,
  c.def_ 24 (d := d_law) rfl⟩
end Toy
open PySem PySem.W PySem.Calls PyProof.Rows
set_option maxRecDepth 100000 in
set_option maxHeartbeats 0 in
theorem PySem.Challenge.cw_shortgoings_k33_papers_judged_holds : PySem.Challenge.rw_shortgoings_k33_papers_judged.Holds := by
  w_on; o_law
  refine HandSHeadRun.head_any (r := OpenLaw.row PySem.Challenge.rw_shortgoings_k33_papers_judged) (q := view (OpenLaw.row PySem.Challenge.rw_shortgoings_k33_papers_judged).prog [29]) (H := Toy.hk) (ob := Toy.ob) (M := 8000) (loose := Toy.nss) (d := HandSHeadRun.topDef (OpenLaw.row PySem.Challenge.rw_shortgoings_k33_papers_judged).prog 29) (kwd := []) Toy.ob_eq
    (by kernel_rfl) (fun s => by kernel_rfl) Toy.run (by kernel_rfl) (by kernel_rfl) (by kernel_rfl) (by rfl) (by first | assumption | decide +kernel) (by decide +kernel) ⟨rfl, rfl, rfl, rfl, rfl, by decide +kernel⟩ ?hw ?hc
  case hw => w_witness2
  case hc =>
    refine L3.walk_end (l := PySem.Challenge.rw_shortgoings_k33_papers_judged) (n := 63) (k := 96) (x := "_law_script") rfl (by decide) (by kernel_rfl) (L3.rm_caller.mono (by decide)) ?F
    intro w mg fa h Y G hmg0
    obtain ⟨K, KX, c⟩ := Y
    have hmg : mg ("law" : PySem.Str) = some (.ref fa) := by
      have e : (HandSHeadRun.topDef (OpenLaw.row PySem.Challenge.rw_shortgoings_k33_papers_judged).prog 29).name = ("law" : PySem.Str) := by kernel_rfl
      rw [← e]
      exact hmg0
    have T := Toy.env_of KX G c
    have e := hmg.symm.trans T.g_law
    cases e
    obtain ⟨fd, F⟩ := T.f_law
    have b := L2.FunD.bindsA (ps := ["_law_script"]) F fun _ _ _ _ _ _ us hl => match us, hl with | [_], _ => rfl
    exact ⟨K, fd, Toy.sp_law K, KX, fun s v => b s [v] rfl, fun H a ns hl hS => ⟨a, ns, rfl, hS, hl, fun _ => rfl⟩, fun base _ _ => Toy.ok_law T F⟩
